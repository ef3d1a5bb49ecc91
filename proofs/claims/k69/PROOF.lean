import PyProof.Rows.All
import Wide.All
import OpenK.AllK
import Wide.FinOn
import HandS.ForMost
import HandS.ForExc
import HandS.HeadHook2
import HandS.Lambda
import HandS.Defaults
import HandS.Wide
import HandS.WideBits
import HandS.Deep
import HandS.Steps
import HandS.TupAny
import HandS.TupMul
import HandS.TupLe
import HandS.Flow
import HandS.IsInst
import HandS.Style
import HandS.NoneIn
import HandS.Zip
import HandS.Rev
import HandS.RevRange
import HandS.Conv
import HandS.HeadEnd
import HandS.EndBits
import HandS.FStr
import HandS.Text
import HandS.List
import HandS.Property
import KE.GoesMore
import HandS.SetFor
import PyProof.CallFns
import KE.DataFind
import PyProof.SeqIndex
import HandS.Flt
import HandS.Head0
import HandS.Head1
import HandS.Head2
import PySem.Challenge.RW_toldcounts_k69_whole_numbers_of_people
import KE.KStateDown
set_option Elab.async false
set_option linter.all false
set_option maxRecDepth 100000
set_option maxHeartbeats 2000000
/-! Dn0: plain data D, a store of objects, what they stand for in the layer's heap. -/
namespace Dn
open PySem L2

/-- plain data: tuples are values, what may change lies in the store -/
inductive D where
  | non | bl (b : Bool) | int (i : Int) | str (s : Str) | tup (l : List D) | tmp (l : List D) | ref (n : Nat) | scr (l : List Int) | ty (n : String) | gl (x : Str)
  deriving Inhabited
mutual
def D.same : D → D → Bool
  | .non, .non => true
  | .bl a, .bl b => a == b
  | .int a, .int b => decide (a = b)
  | .str a, .str b => decide (a = b)
  | .tup a, .tup b => D.sameL a b
  | .tmp a, .tmp b => D.sameL a b
  | .ref a, .ref b => decide (a = b)
  | .scr a, .scr b => decide (a = b)
  | .ty a, .ty b => decide (a = b)
  | .gl a, .gl b => decide (a = b)
  | _, _ => false
def D.sameL : List D → List D → Bool
  | [], [] => true
  | a :: r, b :: t => D.same a b && D.sameL r t
  | _, _ => false
end
mutual
theorem D.same_eq : ∀ {a b : D}, D.same a b = true → a = b
  | .non, .non, _ => rfl
  | .bl a, .bl b, h => by rw [eq_of_beq (show (a == b) = true from h)]
  | .int a, .int b, h => by rw [of_decide_eq_true (show decide (a = b) = true from h)]
  | .str a, .str b, h => by rw [of_decide_eq_true (show decide (a = b) = true from h)]
  | .tup a, .tup b, h => by rw [D.sameL_eq (show D.sameL a b = true from h)]
  | .tmp a, .tmp b, h => by rw [D.sameL_eq (show D.sameL a b = true from h)]
  | .ref a, .ref b, h => by rw [of_decide_eq_true (show decide (a = b) = true from h)]
  | .scr a, .scr b, h => by rw [of_decide_eq_true (show decide (a = b) = true from h)]
  | .ty a, .ty b, h => by rw [of_decide_eq_true (show decide (a = b) = true from h)]
  | .gl a, .gl b, h => by rw [of_decide_eq_true (show decide (a = b) = true from h)]
theorem D.sameL_eq : ∀ {a b : List D}, D.sameL a b = true → a = b
  | [], [], _ => rfl
  | a :: r, b :: t, h => by
    have h : (D.same a b && D.sameL r t) = true := h
    rw [Bool.and_eq_true] at h
    rw [D.same_eq h.1, D.sameL_eq h.2]
end
mutual
theorem D.same_refl : ∀ a : D, D.same a a = true
  | .non => rfl
  | .bl a => by show (a == a) = true; simp
  | .int a => by show decide (a = a) = true; simp
  | .str a => by show decide (a = a) = true; simp
  | .tup a => D.sameL_refl a
  | .tmp a => D.sameL_refl a
  | .ref a => by show decide (a = a) = true; simp
  | .scr a => by show decide (a = a) = true; simp
  | .ty a => by show decide (a = a) = true; simp
  | .gl a => by show decide (a = a) = true; simp
theorem D.sameL_refl : ∀ a : List D, D.sameL a a = true
  | [] => rfl
  | a :: r => by show (D.same a a && D.sameL r r) = true; rw [D.same_refl a, D.sameL_refl r]; rfl
end
instance : DecidableEq D := fun a b => if h : D.same a b = true then isTrue (D.same_eq h) else isFalse fun e => h (by rw [e]; exact D.same_refl b)
/-- what lies in the store -/
inductive O where
  | lst (l : List D)
  | dK (l : List (Key × D))
  | ins (c : Str) (fs : List (Str × D))
  deriving Inhabited
abbrev Sto := List O
inductive Res (α : Type) where
  | ok (a : α) (S : Sto)
  | exc (c : Str) (fs : List (Str × D)) (S : Sto)
  | bad
abbrev M (α : Type) := Sto → Res α
def M.pure {α : Type} (a : α) : M α := fun S => .ok a S
def M.bind {α β : Type} (m : M α) (f : α → M β) : M β := fun S => match m S with
  | .ok a S' => f a S'
  | .exc c fs S' => .exc c fs S'
  | .bad => .bad
def stuck {α : Type} : M α := fun _ => .bad
abbrev Env := List (Option D)
abbrev Fns := Nat → List D → M D
abbrev XE := Fns → Env → M D
abbrev XEs := Fns → Env → M (List D)

/-- the addresses of the store's objects; lists that grow just now and that nothing names -/
structure Wl where
  s : List Addr
  z : List Addr
mutual
def Rep (K : PySem.W.Frag) (p : Wl) (H : Hp) : D → V → Prop
  | .non, v => v = .non
  | .bl b, v => v = .bl b
  | .int i, v => v = .int i
  | .str s, v => v = .str s
  | .tup l, v => ∃ a vs, v = .ref a ∧ SqT K H a vs ∧ RepL K p H l vs
  | .tmp l, v => ∃ a vs, v = .ref a ∧ H a = some (.lst vs) ∧ a ∉ p.s ∧ a ∉ p.z ∧ RepL K p H l vs
  | .ref n, v => ∃ a, p.s[n]? = some a ∧ v = .ref a
  | .scr l, v => ∃ a, v = .ref a ∧ ((∃ o, H a = some (.frz o (.lst (l.map V.int)))) ∨ ∃ (o : Obj) (its : Array Value) (n : Nat), K.lookup a = some o ∧ o.cls = .type "list" ∧ o.dict = none ∧ o.data = .seq its n ∧ its.size ≤ sizeLine ∧ Vals (l.map V.int) its.toList)
  | .ty n, v => v = .ty n
  | .gl x, v => v = .ref (He.ga K x)
def RepL (K : PySem.W.Frag) (p : Wl) (H : Hp) : List D → List V → Prop
  | [], vs => vs = []
  | d :: ds, vs => ∃ v ws, vs = v :: ws ∧ Rep K p H d v ∧ RepL K p H ds ws
end
/-- a later state: the names of the store go on, what is not in the store stays -/
structure Fw (p : Wl) (H : Hp) (q : Wl) (H' : Hp) : Prop where
  pre : p.s <+: q.s
  zz : ∀ b ∈ p.z, b ∈ q.z
  tups : ∀ b xs, H b = some (.tup xs) → H' b = some (.tup xs)
  frzs : ∀ b o u, H b = some (.frz o u) → H' b = some (.frz o u)
  tbls : ∀ b ps, H b = some (.tbl ps) → ∃ qs, H' b = some (.tbl qs)
  keep : ∀ b o, H b = some o → (∀ ps, o ≠ .tbl ps) → b ∉ p.s → H' b = some o ∧ b ∉ q.s ∧ (b ∉ p.z → b ∉ q.z)
theorem Fw.refl (p : Wl) (H : Hp) : Fw p H p H := ⟨List.prefix_refl p.s, fun _ h => h, fun _ _ h => h, fun _ _ _ h => h, fun _ ps h => ⟨ps, h⟩, fun _ _ h _ n => ⟨h, n, fun z => z⟩⟩
theorem Fw.trans {p q r : Wl} {H H1 H2 : Hp} (a : Fw p H q H1) (b : Fw q H1 r H2) : Fw p H r H2 :=
  ⟨a.pre.trans b.pre, fun c h => b.zz c (a.zz c h), fun c xs h => b.tups c xs (a.tups c xs h), fun c o u h => b.frzs c o u (a.frzs c o u h), fun c ps h => let ⟨qs, h1⟩ := a.tbls c ps h; b.tbls c qs h1, fun c o h n m => let ⟨h1, m1, z1⟩ := a.keep c o h n m; let ⟨h2, m2, z2⟩ := b.keep c o h1 n m1; ⟨h2, m2, fun z => z2 (z1 z)⟩⟩
theorem Fw.at {p q : Wl} {H H' : Hp} (f : Fw p H q H') {n : Nat} {a : Addr} (h : p.s[n]? = some a) : q.s[n]? = some a := by
  obtain ⟨r, e⟩ := f.pre
  rw [← e]
  rw [List.getElem?_append_left (List.getElem?_eq_some_iff.mp h).1]
  exact h
theorem Fw.sqT {K : PySem.W.Frag} {p q : Wl} {H H' : Hp} (f : Fw p H q H') {a : Addr} {vs : List V} (h : SqT K H a vs) : SqT K H' a vs := by
  rcases h with (h | ⟨o, h⟩) | h
  · exact .inl (.inl (f.tups a vs h))
  · exact .inl (.inr ⟨o, f.frzs a o _ h⟩)
  · exact .inr h
mutual
theorem Rep.fw {K : PySem.W.Frag} {p q : Wl} {H H' : Hp} (f : Fw p H q H') : ∀ {d : D} {v : V}, Rep K p H d v → Rep K q H' d v
  | .non, _, h => h
  | .bl _, _, h => h
  | .int _, _, h => h
  | .str _, _, h => h
  | .tup l, _, h => by
    obtain ⟨a, vs, e, hs, hl⟩ := h
    exact ⟨a, vs, e, f.sqT hs, RepL.fw f hl⟩
  | .tmp l, _, h => by
    obtain ⟨a, vs, e, hs, na, nz, hl⟩ := h
    obtain ⟨h1, h2, h3⟩ := f.keep a _ hs (fun _ z => nomatch z) na
    exact ⟨a, vs, e, h1, h2, h3 nz, RepL.fw f hl⟩
  | .ref n, _, h => by
    obtain ⟨a, ha, e⟩ := h
    exact ⟨a, f.at ha, e⟩
  | .scr l, _, h => by
    obtain ⟨a, e, h⟩ := h
    rcases h with ⟨o, h⟩ | h
    · exact ⟨a, e, .inl ⟨o, f.frzs a o _ h⟩⟩
    · exact ⟨a, e, .inr h⟩
  | .ty _, _, h => h
  | .gl _, _, h => h
theorem RepL.fw {K : PySem.W.Frag} {p q : Wl} {H H' : Hp} (f : Fw p H q H') : ∀ {l : List D} {vs : List V}, RepL K p H l vs → RepL K q H' l vs
  | [], _, h => h
  | d :: ds, _, h => by
    obtain ⟨v, ws, e, h1, h2⟩ := h
    exact ⟨v, ws, e, Rep.fw f h1, RepL.fw f h2⟩
end
theorem RepL.length {K : PySem.W.Frag} {p : Wl} {H : Hp} : ∀ {l : List D} {vs : List V}, RepL K p H l vs → vs.length = l.length
  | [], _, h => by rw [show _ = [] from h]; rfl
  | d :: ds, _, h => by
    obtain ⟨v, ws, e, h1, h2⟩ := h
    rw [e, List.length_cons, List.length_cons, RepL.length h2]
theorem RepL.get {K : PySem.W.Frag} {p : Wl} {H : Hp} : ∀ {l : List D} {vs : List V} {i : Nat} {d : D}, RepL K p H l vs → l[i]? = some d → ∃ v, vs[i]? = some v ∧ Rep K p H d v
  | [], _, _, _, _, e => by simp at e
  | d :: ds, _, 0, x, h, e => by
    obtain ⟨v, ws, e1, h1, h2⟩ := h
    have : d = x := by simpa using e
    subst this
    exact ⟨v, by rw [e1]; rfl, h1⟩
  | d :: ds, _, i + 1, x, h, e => by
    obtain ⟨v, ws, e1, h1, h2⟩ := h
    obtain ⟨u, hu, r⟩ := RepL.get (i := i) (d := x) h2 (by simpa using e)
    exact ⟨u, by rw [e1]; simpa using hu, r⟩
theorem RepL.append {K : PySem.W.Frag} {p : Wl} {H : Hp} : ∀ {l m : List D} {vs ws : List V}, RepL K p H l vs → RepL K p H m ws → RepL K p H (l ++ m) (vs ++ ws)
  | [], _, _, _, h, g => by rw [show _ = [] from h]; exact g
  | d :: ds, _, _, _, h, g => by
    obtain ⟨v, us, e, h1, h2⟩ := h
    exact ⟨v, us ++ _, by rw [e]; rfl, h1, RepL.append h2 g⟩
theorem RepL.one {K : PySem.W.Frag} {p : Wl} {H : Hp} {d : D} {v : V} (h : Rep K p H d v) : RepL K p H [d] [v] := ⟨v, [], rfl, h, rfl⟩
/-- pairs of keys (names) and data -/
def RepF {α : Type} (K : PySem.W.Frag) (p : Wl) (H : Hp) : List (α × D) → List (α × V) → Prop
  | [], vs => vs = []
  | (k, d) :: r, vs => ∃ v ws, vs = (k, v) :: ws ∧ Rep K p H d v ∧ RepF K p H r ws
theorem RepF.fw {α : Type} {K : PySem.W.Frag} {p q : Wl} {H H' : Hp} (f : Fw p H q H') : ∀ {l : List (α × D)} {vs : List (α × V)}, RepF K p H l vs → RepF K q H' l vs
  | [], _, h => h
  | (k, d) :: r, _, h => by
    obtain ⟨v, ws, e, h1, h2⟩ := h
    exact ⟨v, ws, e, Rep.fw f h1, RepF.fw f h2⟩
def RepO (K : PySem.W.Frag) (p : Wl) (H : Hp) (a : Addr) : O → Prop
  | .lst l => ∃ vs, H a = some (.lst vs) ∧ RepL K p H l vs
  | .dK l => ∃ vs, H a = some (.dK vs) ∧ RepF K p H l vs
  | .ins c fs => ∃ dx vs, H a = some (.ins (He.ga K c) dx vs) ∧ H dx = some (.own a) ∧ RepF K p H fs vs
/-- the store S, its objects at p, is what the heap holds -/
structure SR (K : PySem.W.Frag) (p : Wl) (S : Sto) (H : Hp) : Prop where
  len : p.s.length = S.length
  nd : p.s.Nodup
  zt : ∀ b ∈ p.z, b ∉ p.s ∧ ∃ xs, H b = some (.lst xs)
  obj : ∀ (n : Nat) (a : Addr) (o : O), p.s[n]? = some a → S[n]? = some o → RepO K p H a o
theorem SR.at {K : PySem.W.Frag} {p : Wl} {S : Sto} {H : Hp} (s : SR K p S H) {n : Nat} {o : O} (h : S[n]? = some o) : ∃ a, p.s[n]? = some a ∧ RepO K p H a o := by
  have hn : n < S.length := (List.getElem?_eq_some_iff.mp h).1
  have hp : n < p.s.length := by rw [s.len]; exact hn
  exact ⟨p.s[n], List.getElem?_eq_getElem hp, s.obj n _ o (List.getElem?_eq_getElem hp) h⟩
/-- what lies in the store is tracked, and is no tuple, nothing locked -/
def Muta : HO → Prop
  | .lst _ => True
  | .dK _ => True
  | .ins _ _ _ => True
  | _ => False
theorem RepO.muta {K : PySem.W.Frag} {p : Wl} {H : Hp} {a : Addr} {o : O} (h : RepO K p H a o) : ∃ u, H a = some u ∧ Muta u := by
  cases o with
  | lst l => obtain ⟨vs, e, _⟩ := h; exact ⟨_, e, trivial⟩
  | dK l => obtain ⟨vs, e, _⟩ := h; exact ⟨_, e, trivial⟩
  | ins c fs => obtain ⟨dx, vs, e, _⟩ := h; exact ⟨_, e, trivial⟩
theorem SR.muta {K : PySem.W.Frag} {p : Wl} {S : Sto} {H : Hp} (s : SR K p S H) {a : Addr} (ha : a ∈ p.s) : ∃ u, H a = some u ∧ Muta u := by
  obtain ⟨n, hn⟩ := List.mem_iff_getElem?.mp ha
  have h1 : n < p.s.length := (List.getElem?_eq_some_iff.mp hn).1
  have h2 : n < S.length := by rw [← s.len]; exact h1
  exact (s.obj n a _ hn (List.getElem?_eq_getElem h2)).muta
theorem SR.notin {K : PySem.W.Frag} {p : Wl} {S : Sto} {H : Hp} (s : SR K p S H) {a : Addr} (h : H a = none) : a ∉ p.s := fun ha => by
  obtain ⟨u, e, _⟩ := s.muta ha
  rw [h] at e
  cases e
theorem Fw.fresh {K : PySem.W.Frag} {p q : Wl} {S : Sto} {H H' : Hp} {a : Addr} (f : Fw p H q H') (s : SR K q S H') (h : H' a = none) : H a = none := by
  cases e : H a with
  | none => rfl
  | some o =>
    by_cases ha : a ∈ p.s
    · exact absurd (f.pre.subset ha) (s.notin h)
    · by_cases ht : ∃ ps, o = .tbl ps
      · obtain ⟨ps, rfl⟩ := ht
        obtain ⟨qs, e2⟩ := f.tbls a ps e
        rw [h] at e2
        cases e2
      · have := (f.keep a o e (fun ps z => ht ⟨ps, z⟩) ha).1
        rw [h] at this
        cases this
/-- nothing but new objects outside the store -/
theorem Fw.new {p : Wl} {H : Hp} {a : Addr} {o : HO} (h : H a = none) : Fw p H p (upd H a o) :=
  ⟨List.prefix_refl p.s, fun _ h => h, fun b xs e => by rw [upd_ne (ne_of_none e h)]; exact e, fun b o u e => by rw [upd_ne (ne_of_none e h)]; exact e, fun b ps e => ⟨ps, by rw [upd_ne (ne_of_none e h)]; exact e⟩, fun b o e _ n => ⟨by rw [upd_ne (ne_of_none e h)]; exact e, n, fun z => z⟩⟩
theorem RepO.fw {K : PySem.W.Frag} {p q : Wl} {H H' : Hp} (f : Fw p H q H') {a : Addr} {o : O} (h : RepO K p H a o) (k : ∀ b u, H b = some u → (b = a ∨ u = .own a) → H' b = some u) : RepO K q H' a o := by
  cases o with
  | lst l => obtain ⟨vs, e, r⟩ := h; exact ⟨vs, k _ _ e (.inl rfl), r.fw f⟩
  | dK l => obtain ⟨vs, e, r⟩ := h; exact ⟨vs, k _ _ e (.inl rfl), r.fw f⟩
  | ins c fs => obtain ⟨dx, vs, e, d, r⟩ := h; exact ⟨dx, vs, k _ _ e (.inl rfl), k _ _ d (.inr rfl), r.fw f⟩
/-- a new object outside the store -/
theorem SR.new {K : PySem.W.Frag} {p : Wl} {S : Sto} {H : Hp} {a : Addr} {o : HO} (s : SR K p S H) (h : H a = none) : SR K p S (upd H a o) :=
  ⟨s.len, s.nd, fun b hb => let ⟨h1, xs, h2⟩ := s.zt b hb; ⟨h1, xs, by rw [upd_ne (ne_of_none h2 h)]; exact h2⟩, fun n b u e1 e2 => (s.obj n b u e1 e2).fw (Fw.new h) fun c w e _ => by rw [upd_ne (ne_of_none e h)]; exact e⟩
/-- a new object comes into the store -/
abbrev Wl.add (p : Wl) (a : Addr) : Wl := ⟨p.s ++ [a], p.z⟩
theorem Fw.alloc {p : Wl} {H : Hp} {a : Addr} {o : HO} (h : H a = none) : Fw p H (p.add a) (upd H a o) :=
  ⟨List.prefix_append p.s [a], fun _ h => h, fun b xs e => by rw [upd_ne (ne_of_none e h)]; exact e, fun b o u e => by rw [upd_ne (ne_of_none e h)]; exact e, fun b ps e => ⟨ps, by rw [upd_ne (ne_of_none e h)]; exact e⟩,
    fun b o e _ n => ⟨by rw [upd_ne (ne_of_none e h)]; exact e, fun hb => by
      rcases List.mem_append.mp hb with z | z
      · exact n z
      · have z2 : b = a := by simpa using z
        exact ne_of_none e h z2, fun z => z⟩⟩
theorem SR.push {K : PySem.W.Frag} {p : Wl} {S : Sto} {H H' : Hp} {a : Addr} {o : O} (s : SR K p S H) (na : H a = none) (f : Fw p H (p.add a) H') (k : ∀ b u, H b = some u → H' b = some u) (h : RepO K (p.add a) H' a o) : SR K (p.add a) (S ++ [o]) H' := by
  refine ⟨by simp [s.len], ?_, fun b hb => ?_, fun n b u e1 e2 => ?_⟩
  · show (p.s ++ [a]).Nodup
    rw [List.nodup_append]
    refine ⟨s.nd, by simp, fun x hx y hy => ?_⟩
    have e : y = a := by simpa using hy
    rw [e]
    rintro rfl
    exact s.notin na hx
  · obtain ⟨h1, xs, h2⟩ := s.zt b hb
    refine ⟨fun z => ?_, xs, k b _ h2⟩
    rcases List.mem_append.mp z with z | z
    · exact h1 z
    · have e : b = a := by simpa using z
      exact ne_of_none h2 na e
  · have e1 : (p.s ++ [a])[n]? = some b := e1
    by_cases hn : n < p.s.length
    · rw [List.getElem?_append_left hn] at e1
      rw [List.getElem?_append_left (by rw [← s.len]; exact hn)] at e2
      exact (s.obj n b u e1 e2).fw f fun c w e _ => k c w e
    · by_cases hn2 : n = p.s.length
      · subst hn2
        rw [List.getElem?_append_right (Nat.le_refl _)] at e1
        rw [s.len, List.getElem?_append_right (Nat.le_refl _)] at e2
        simp at e1 e2
        subst e1 e2
        exact h
      · rw [List.getElem?_eq_none (by simp; omega)] at e1
        cases e1
/-- an object of the store is written -/
theorem Fw.put {K : PySem.W.Frag} {p : Wl} {S : Sto} {H : Hp} {a : Addr} {o : HO} (s : SR K p S H) (ha : a ∈ p.s) : Fw p H p (upd H a o) := by
  obtain ⟨u, e, m⟩ := s.muta ha
  have ne : ∀ b w, H b = some w → ¬ Muta w → b ≠ a := fun b w h n z => by
    rw [z, e] at h
    cases h
    exact n m
  refine ⟨List.prefix_refl p.s, fun _ h => h, fun b xs h => ?_, fun b o u h => ?_, fun b ps h => ⟨ps, ?_⟩, fun b w h _ n => ⟨?_, n, fun z => z⟩⟩
  · rw [upd_ne (ne b _ h fun z => z)]; exact h
  · rw [upd_ne (ne b _ h fun z => z)]; exact h
  · rw [upd_ne (ne b _ h fun z => z)]; exact h
  · rw [upd_ne (fun z : b = a => n (by rw [z]; exact ha))]; exact h
theorem SR.put {K : PySem.W.Frag} {p : Wl} {S : Sto} {H : Hp} {a : Addr} {n : Nat} {u : O} {o : HO} (s : SR K p S H) (hn : p.s[n]? = some a) (h : RepO K p (upd H a o) a u) : SR K p (S.set n u) (upd H a o) := by
  have ha : a ∈ p.s := List.mem_of_getElem? hn
  obtain ⟨w, ew, mw⟩ := s.muta ha
  refine ⟨by rw [s.len, List.length_set], s.nd, fun b hb => ?_, fun m b x e1 e2 => ?_⟩
  · obtain ⟨h1, xs, h2⟩ := s.zt b hb
    exact ⟨h1, xs, by rw [upd_ne (fun z : b = a => h1 (by rw [z]; exact ha))]; exact h2⟩
  by_cases hm : n = m
  · subst hm
    rw [hn] at e1
    cases e1
    rw [List.getElem?_set_self (by rw [← s.len]; exact (List.getElem?_eq_some_iff.mp hn).1)] at e2
    cases e2
    exact h
  · rw [List.getElem?_set_ne hm] at e2
    have hb : b ≠ a := fun z => by
      subst z
      obtain ⟨h1, g1⟩ := List.getElem?_eq_some_iff.mp hn
      obtain ⟨h2, g2⟩ := List.getElem?_eq_some_iff.mp e1
      exact hm ((List.getElem_inj s.nd).mp (g1.trans g2.symm))
    refine (s.obj m b x e1 e2).fw (Fw.put (K := K) s ha) fun c y ec hc => ?_
    rcases hc with z | z
    · rw [z, upd_ne hb, ← z]; exact ec
    · rw [upd_ne (fun q => ?_)]
      · exact ec
      · rw [q, ew] at ec
        cases ec
        rw [z] at mw
        exact mw
/-! ### a list that grows -/
/-- what holds with a reserved list holds without -/
abbrev Wl.hold (p : Wl) (a : Addr) : Wl := ⟨p.s, a :: p.z⟩
mutual
theorem Rep.less {K : PySem.W.Frag} {s z z' : List Addr} {H : Hp} (hz : ∀ b ∈ z', b ∈ z) : ∀ {d : D} {v : V}, Rep K ⟨s, z⟩ H d v → Rep K ⟨s, z'⟩ H d v
  | .non, _, h => h
  | .bl _, _, h => h
  | .int _, _, h => h
  | .str _, _, h => h
  | .tup l, _, h => by
    obtain ⟨b, vs, e, hs, hl⟩ := h
    exact ⟨b, vs, e, hs, RepL.less hz hl⟩
  | .tmp l, _, h => by
    obtain ⟨b, vs, e, hs, n1, n2, hl⟩ := h
    exact ⟨b, vs, e, hs, n1, fun z => n2 (hz _ z), RepL.less hz hl⟩
  | .ref n, _, h => h
  | .scr l, _, h => h
  | .ty _, _, h => h
  | .gl _, _, h => h
theorem RepL.less {K : PySem.W.Frag} {s z z' : List Addr} {H : Hp} (hz : ∀ b ∈ z', b ∈ z) : ∀ {l : List D} {vs : List V}, RepL K ⟨s, z⟩ H l vs → RepL K ⟨s, z'⟩ H l vs
  | [], _, h => h
  | d :: ds, _, h => by
    obtain ⟨v, ws, e, h1, h2⟩ := h
    exact ⟨v, ws, e, Rep.less hz h1, RepL.less hz h2⟩
end
theorem Fw.less {p q : Wl} {H H' : Hp} (f : Fw p H q H') : Fw p H ⟨q.s, p.z⟩ H' :=
  ⟨f.pre, fun _ h => h, f.tups, f.frzs, f.tbls, fun b o h n m => ⟨(f.keep b o h n m).1, (f.keep b o h n m).2.1, fun z => z⟩⟩
/-- what is new may be written -/
theorem Fw.out {p q : Wl} {H H' : Hp} {a : Addr} {o : HO} (f : Fw p H q H') (h : H a = none) : Fw p H q (upd H' a o) :=
  ⟨f.pre, f.zz, fun b xs e => by rw [upd_ne (ne_of_none e h)]; exact f.tups b xs e, fun b o u e => by rw [upd_ne (ne_of_none e h)]; exact f.frzs b o u e,
    fun b ps e => by rw [upd_ne (ne_of_none e h)]; exact f.tbls b ps e, fun b o e n m => by rw [upd_ne (ne_of_none e h)]; exact f.keep b o e n m⟩
mutual
/-- the reserved list is written -/
theorem Rep.grown {K : PySem.W.Frag} {p : Wl} {H : Hp} {a : Addr} {xs : List V} {o : HO} (ha : a ∈ p.z) (e0 : H a = some (.lst xs)) : ∀ {d : D} {v : V}, Rep K p H d v → Rep K p (upd H a o) d v
  | .non, _, h => h
  | .bl _, _, h => h
  | .int _, _, h => h
  | .str _, _, h => h
  | .tup l, _, h => by
    obtain ⟨b, vs, e, hs, hl⟩ := h
    refine ⟨b, vs, e, ?_, RepL.grown ha e0 hl⟩
    rcases hs with (h | ⟨ob, h⟩) | h
    · exact .inl (.inl (by rw [upd_ne (ne_of h e0 (fun z => nomatch z))]; exact h))
    · exact .inl (.inr ⟨ob, by rw [upd_ne (ne_of h e0 (fun z => nomatch z))]; exact h⟩)
    · exact .inr h
  | .tmp l, _, h => by
    obtain ⟨b, vs, e, hs, n1, n2, hl⟩ := h
    exact ⟨b, vs, e, by rw [upd_ne (fun z : b = a => n2 (by rw [z]; exact ha))]; exact hs, n1, n2, RepL.grown ha e0 hl⟩
  | .ref n, _, h => h
  | .scr l, _, h => by
    obtain ⟨b, e, h⟩ := h
    rcases h with ⟨ob, h⟩ | h
    · exact ⟨b, e, .inl ⟨ob, by rw [upd_ne (ne_of h e0 (fun z => nomatch z))]; exact h⟩⟩
    · exact ⟨b, e, .inr h⟩
  | .ty _, _, h => h
  | .gl _, _, h => h
theorem RepL.grown {K : PySem.W.Frag} {p : Wl} {H : Hp} {a : Addr} {xs : List V} {o : HO} (ha : a ∈ p.z) (e0 : H a = some (.lst xs)) : ∀ {l : List D} {vs : List V}, RepL K p H l vs → RepL K p (upd H a o) l vs
  | [], _, h => h
  | d :: ds, _, h => by
    obtain ⟨v, ws, e, h1, h2⟩ := h
    exact ⟨v, ws, e, Rep.grown ha e0 h1, RepL.grown ha e0 h2⟩
end
/-- a change of the names under which data stand -/
theorem RepF.map {α : Type} {K : PySem.W.Frag} {p q : Wl} {H H' : Hp} (f : ∀ {d : D} {v : V}, Rep K p H d v → Rep K q H' d v) : ∀ {l : List (α × D)} {vs : List (α × V)}, RepF K p H l vs → RepF K q H' l vs
  | [], _, h => h
  | (k, d) :: r, _, h => by
    obtain ⟨v, ws, e, h1, h2⟩ := h
    exact ⟨v, ws, e, f h1, RepF.map f h2⟩
theorem RepO.map {K : PySem.W.Frag} {p q : Wl} {H H' : Hp} {a : Addr} {o : O} (f : ∀ {d : D} {v : V}, Rep K p H d v → Rep K q H' d v) (g : ∀ {l : List D} {vs : List V}, RepL K p H l vs → RepL K q H' l vs) (h : RepO K p H a o) (k : ∀ b u, H b = some u → (b = a ∨ u = .own a) → H' b = some u) : RepO K q H' a o := by
  cases o with
  | lst l => obtain ⟨vs, e, r⟩ := h; exact ⟨vs, k _ _ e (.inl rfl), g r⟩
  | dK l => obtain ⟨vs, e, r⟩ := h; exact ⟨vs, k _ _ e (.inl rfl), r.map f⟩
  | ins c fs => obtain ⟨dx, vs, e, d, r⟩ := h; exact ⟨dx, vs, k _ _ e (.inl rfl), k _ _ d (.inr rfl), r.map f⟩
theorem SR.grown {K : PySem.W.Frag} {p : Wl} {S : Sto} {H : Hp} {a : Addr} {xs ys : List V} (s : SR K p S H) (ha : a ∈ p.z) (e0 : H a = some (.lst xs)) : SR K p S (upd H a (.lst ys)) := by
  refine ⟨s.len, s.nd, fun b hb => ?_, fun n b o e1 e2 => ?_⟩
  · obtain ⟨h1, zs, h2⟩ := s.zt b hb
    by_cases z : b = a
    · rw [z]; exact ⟨by rw [← z]; exact h1, ys, upd_same⟩
    · exact ⟨h1, zs, by rw [upd_ne z]; exact h2⟩
  · have nb : b ≠ a := fun z => (s.zt a ha).1 (z ▸ List.mem_of_getElem? e1)
    refine (s.obj n b o e1 e2).map (Rep.grown ha e0) (RepL.grown ha e0) fun c u e hc => ?_
    rcases hc with z | z
    · rw [z, upd_ne nb, ← z]; exact e
    · rw [upd_ne (ne_of (o := u) e e0 (by rw [z]; exact fun z => nomatch z))]; exact e
theorem SR.less {K : PySem.W.Frag} {s z z' : List Addr} {S : Sto} {H : Hp} (r : SR K ⟨s, z⟩ S H) (hz : ∀ b ∈ z', b ∈ z) : SR K ⟨s, z'⟩ S H :=
  ⟨r.len, r.nd, fun b hb => r.zt b (hz b hb), fun n b o e1 e2 => (r.obj n b o e1 e2).map (Rep.less hz) (RepL.less hz) fun _ _ e _ => e⟩
/-- a list comes into the reserve -/
theorem Fw.hold {p : Wl} {H : Hp} {a : Addr} {o : HO} (h : H a = none) : Fw p H (p.hold a) (upd H a o) :=
  ⟨List.prefix_refl p.s, fun _ h => List.mem_cons_of_mem _ h, fun b xs e => by rw [upd_ne (ne_of_none e h)]; exact e, fun b o u e => by rw [upd_ne (ne_of_none e h)]; exact e, fun b ps e => ⟨ps, by rw [upd_ne (ne_of_none e h)]; exact e⟩,
    fun b o e _ n => ⟨by rw [upd_ne (ne_of_none e h)]; exact e, n, fun z w => by
      rcases List.mem_cons.mp w with w | w
      · exact ne_of_none e h w
      · exact z w⟩⟩
theorem SR.hold {K : PySem.W.Frag} {p : Wl} {S : Sto} {H : Hp} {a : Addr} (s : SR K p S H) (na : H a = none) : SR K (p.hold a) S (upd H a (.lst [])) := by
  refine ⟨s.len, s.nd, fun b hb => ?_, fun n b o e1 e2 => ?_⟩
  · rcases List.mem_cons.mp hb with z | z
    · rw [z]; exact ⟨s.notin na, [], upd_same⟩
    · exact (s.new na).zt b z
  · exact (s.obj n b o e1 e2).fw (Fw.hold na) fun c u e _ => by rw [upd_ne (ne_of_none e na)]; exact e
mutual
/-- the grown list comes into the store -/
theorem Rep.move {K : PySem.W.Frag} {p : Wl} {z' : List Addr} {H : Hp} {a : Addr} (ha : a ∈ p.z) (hz : ∀ b ∈ z', b ∈ p.z) : ∀ {d : D} {v : V}, Rep K p H d v → Rep K ⟨p.s ++ [a], z'⟩ H d v
  | .non, _, h => h
  | .bl _, _, h => h
  | .int _, _, h => h
  | .str _, _, h => h
  | .tup l, _, h => by
    obtain ⟨b, vs, e, hs, hl⟩ := h
    exact ⟨b, vs, e, hs, RepL.move ha hz hl⟩
  | .tmp l, _, h => by
    obtain ⟨b, vs, e, hs, n1, n2, hl⟩ := h
    refine ⟨b, vs, e, hs, fun w => ?_, fun w => n2 (hz _ w), RepL.move ha hz hl⟩
    rcases List.mem_append.mp w with w | w
    · exact n1 w
    · have e2 : b = a := by simpa using w
      exact n2 (by rw [e2]; exact ha)
  | .ref n, _, h => by
    obtain ⟨b, hb, e⟩ := h
    exact ⟨b, by show (p.s ++ [a])[n]? = some b; rw [List.getElem?_append_left (List.getElem?_eq_some_iff.mp hb).1]; exact hb, e⟩
  | .scr l, _, h => h
  | .ty _, _, h => h
  | .gl _, _, h => h
theorem RepL.move {K : PySem.W.Frag} {p : Wl} {z' : List Addr} {H : Hp} {a : Addr} (ha : a ∈ p.z) (hz : ∀ b ∈ z', b ∈ p.z) : ∀ {l : List D} {vs : List V}, RepL K p H l vs → RepL K ⟨p.s ++ [a], z'⟩ H l vs
  | [], _, h => h
  | d :: ds, _, h => by
    obtain ⟨v, ws, e, h1, h2⟩ := h
    exact ⟨v, ws, e, Rep.move ha hz h1, RepL.move ha hz h2⟩
end
theorem SR.move {K : PySem.W.Frag} {p : Wl} {z' : List Addr} {S : Sto} {H : Hp} {a : Addr} {l : List D} {vs : List V} (s : SR K p S H) (ha : a ∈ p.z) (hz : ∀ b ∈ z', b ∈ p.z) (na : a ∉ z') (e : H a = some (.lst vs)) (r : RepL K p H l vs) : SR K ⟨p.s ++ [a], z'⟩ (S ++ [.lst l]) H := by
  refine ⟨by simp [s.len], ?_, fun b hb => ?_, fun n b u e1 e2 => ?_⟩
  · show (p.s ++ [a]).Nodup
    rw [List.nodup_append]
    refine ⟨s.nd, by simp, fun x hx y hy => ?_⟩
    have e : y = a := by simpa using hy
    rw [e]
    rintro rfl
    exact (s.zt _ ha).1 hx
  · obtain ⟨h1, xs, h2⟩ := s.zt b (hz b hb)
    refine ⟨fun w => ?_, xs, h2⟩
    rcases List.mem_append.mp w with w | w
    · exact h1 w
    · have e : b = a := by simpa using w
      exact na (by rw [← e]; exact hb)
  · have e1 : (p.s ++ [a])[n]? = some b := e1
    by_cases hn : n < p.s.length
    · rw [List.getElem?_append_left hn] at e1
      rw [List.getElem?_append_left (by rw [← s.len]; exact hn)] at e2
      exact (s.obj n b u e1 e2).map (Rep.move ha hz) (RepL.move ha hz) fun c w e _ => e
    · by_cases hn2 : n = p.s.length
      · subst hn2
        rw [List.getElem?_append_right (Nat.le_refl _)] at e1
        rw [s.len, List.getElem?_append_right (Nat.le_refl _)] at e2
        simp at e1 e2
        subst e1 e2
        exact ⟨vs, e, RepL.move ha hz r⟩
      · rw [List.getElem?_eq_none (by simp; omega)] at e1
        cases e1
/-- what is new may come into the store -/
theorem Fw.into {p q : Wl} {H H' : Hp} {a : Addr} (f : Fw p H q H') (h : H a = none) : Fw p H ⟨q.s ++ [a], p.z⟩ H' :=
  ⟨f.pre.trans (List.prefix_append _ _), fun _ h => h, f.tups, f.frzs, f.tbls, fun b o e n m => ⟨(f.keep b o e n m).1, fun w => by
    rcases List.mem_append.mp w with w | w
    · exact (f.keep b o e n m).2.1 w
    · have e2 : b = a := by simpa using w
      exact ne_of_none e h e2, fun z => z⟩⟩
end Dn

set_option Elab.async false
set_option linter.all false
set_option maxRecDepth 100000
set_option maxHeartbeats 2000000
namespace Dn
open PySem L2
/-! ### what is wanted of a result -/
def Wp {α : Type} (K : PySem.W.Frag) (p : Wl) (H : Hp) (r : Res α) (A : α → Sto → Wl → Hp → Prop) (E : XK) : Prop :=
  match r with
  | .ok a S => ∀ q H', Fw p H q H' → SR K q S H' → A a S q H'
  | .exc c fs S => ∀ q H' dx vs, Fw p H q H' → SR K q S H' → H' dx = some (.xd vs) → dx ∉ q.s → RepF K q H' fs vs → E (.ref (He.ga K c)) (some dx) H'
  | .bad => False
section
variable {α β : Type} {K : PySem.W.Frag} {p q : Wl} {H H' : Hp} {r : Res α} {A B : α → Sto → Wl → Hp → Prop} {E : XK} {S : Sto}
theorem Wp.later (h : Wp K p H r A E) (f : Fw p H q H') : Wp K q H' r A E := by
  cases r with
  | ok a S => exact fun q2 H2 f2 s2 => h q2 H2 (f.trans f2) s2
  | exc c fs S => exact fun q2 H2 dx vs f2 s2 => h q2 H2 dx vs (f.trans f2) s2
  | bad => exact h
theorem Wp.imp (h : Wp K p H r A E) (f : ∀ a S q H', Fw p H q H' → SR K q S H' → A a S q H' → B a S q H') : Wp K p H r B E := by
  cases r with
  | ok a S => exact fun q2 H2 f2 s2 => f a S q2 H2 f2 s2 (h q2 H2 f2 s2)
  | exc c fs S => exact h
  | bad => exact h
theorem Wp.bind {m : M α} {f : α → M β} {C : β → Sto → Wl → Hp → Prop} (h : Wp K p H (M.bind m f S) C E) : Wp K p H (m S) (fun a S' q H' => Wp K q H' (f a S') C E) E := by
  unfold M.bind at h
  cases e : m S with
  | ok a S' =>
    rw [e] at h
    exact fun q2 H2 f2 _ => h.later f2
  | exc c fs S' =>
    rw [e] at h
    exact h
  | bad =>
    rw [e] at h
    exact h
theorem Wp.ok {a : α} (h : Wp K p H (.ok a S) A E) (s : SR K p S H) : A a S p H := h p H (Fw.refl p H) s
end
/-! ### slots -/
def RepE (K : PySem.W.Frag) (p : Wl) (H : Hp) (e : Env) (σ : St) : Prop := σ.length = e.length ∧ ∀ (i : Nat) (d : D), e[i]? = some (some d) → ∃ v, σ[i]? = some (some v) ∧ Rep K p H d v
theorem RepE.fw {K : PySem.W.Frag} {p q : Wl} {H H' : Hp} {e : Env} {σ : St} (r : RepE K p H e σ) (f : Fw p H q H') : RepE K q H' e σ :=
  ⟨r.1, fun i d h => let ⟨v, h1, h2⟩ := r.2 i d h; ⟨v, h1, h2.fw f⟩⟩
theorem RepE.set {K : PySem.W.Frag} {p : Wl} {H : Hp} {e : Env} {σ : St} (r : RepE K p H e σ) {d : D} {v : V} (h : Rep K p H d v) (i : Nat) : RepE K p H (e.set i (some d)) (σ.set i (some v)) := by
  refine ⟨by simp [r.1], fun j x hj => ?_⟩
  by_cases hij : i = j
  · subst hij
    by_cases hl : i < e.length
    · rw [List.getElem?_set_self hl] at hj
      cases hj
      exact ⟨v, by rw [List.getElem?_set_self (by rw [r.1]; exact hl)], h⟩
    · rw [List.getElem?_eq_none (by simpa using hl)] at hj
      cases hj
  · rw [List.getElem?_set_ne hij] at hj ⊢
    exact r.2 j x hj
/-! ### judgements -/
abbrev XT := Fns → Env → M Bool
/-- behind a value -/
abbrev vQ (K : PySem.W.Frag) (Q : VK) : D → Sto → Wl → Hp → Prop := fun d _ q H' => ∀ v, Rep K q H' d v → Q v H'
def tE (K : PySem.W.Frag) (W : WX) (F : Fns) (x : XE) : TE := fun σ H Q => ∃ p e S, SR K p S H ∧ RepE K p H e σ ∧ Wp K p H (x F e S) (vQ K Q) (WE W σ)
def tT (K : PySem.W.Frag) (W : WX) (F : Fns) (x : XT) : TT := fun σ H Q => ∃ p e S, SR K p S H ∧ RepE K p H e σ ∧ Wp K p H (x F e S) (fun b _ q H' => Q b H') (WE W σ)
def tA (K : PySem.W.Frag) (W : WX) (F : Fns) (x : XEs) : TA := fun σ H Q => ∃ p e S, SR K p S H ∧ RepE K p H e σ ∧ Wp K p H (x F e S) (fun ds _ q H' => ∀ vs, RepL K q H' ds vs → Q vs H') (WE W σ)
abbrev DE (X : Cx) (W : WX) (F : Fns) (e : Expr) (x : XE) : Prop := PE X e (tE X.K W F x)
abbrev DT (X : Cx) (W : WX) (F : Fns) (e : Expr) (x : XT) : Prop := PT X e (tT X.K W F x)
abbrev DA (X : Cx) (W : WX) (F : Fns) (es : List Expr) (x : XEs) : Prop := PA X es (tA X.K W F x)
theorem PE.imp {X : Cx} {e : Expr} {t t' : TE} (h : PE X e t) (f : ∀ σ H Q, t' σ H Q → t σ H Q) : PE X e t' := ⟨fun pins s σ H Q I q => h.run pins s σ H Q I (f σ H Q q)⟩
theorem PT.imp {X : Cx} {e : Expr} {t t' : TT} (h : PT X e t) (f : ∀ σ H Q, t' σ H Q → t σ H Q) : PT X e t' := ⟨fun pins s σ H Q I q => h.run pins s σ H Q I (f σ H Q q)⟩
theorem PA.imp {X : Cx} {e : List Expr} {t t' : TA} (h : PA X e t) (f : ∀ σ H Q, t' σ H Q → t σ H Q) : PA X e t' := ⟨fun po pins s σ H Q I q => h.run po pins s σ H Q I (f σ H Q q)⟩
theorem PS.imp {X : Cx} {e : Stmt} {t t' : TS} (h : PS X e t) (f : ∀ σ H Q, t' σ H Q → t σ H Q) : PS X e t' := ⟨fun pins s σ H Q I q => h.run pins s σ H Q I (f Q σ H q)⟩
theorem PSs.imp {X : Cx} {e : List Stmt} {t t' : TS} (h : PSs X e t) (f : ∀ σ H Q, t' σ H Q → t σ H Q) : PSs X e t' := ⟨fun pins s σ H Q I q => h.run pins s σ H Q I (f Q σ H q)⟩

section
variable {X : Cx} {W : WX} {F : Fns} {pos : Pos} {a b c : Expr} {x y z : XE}
/-! ### names, constants -/
def xVar (i : Nat) : XE := fun _ e => match e[i]? with
  | some (some d) => M.pure d
  | _ => stuck
def xC (d : D) : XE := fun _ _ => M.pure d
theorem de_var {i : Nat} {n : Str} (hN : X.N[i]? = some n) (hv : Vis X.env.scope n) (hd : (n == ("__debug__" : Str)) = false) (hcd : (n == ("__classdict__" : Str)) = false) : DE X W F (.Name n pos) (xVar i) := by
  refine PE.imp (pe_var hN hv hd hcd) ?_
  rintro σ H Q ⟨p, e, S, sr, re, h⟩
  unfold xVar at h
  cases e1 : e[i]? with
  | none => rw [e1] at h; exact h.elim
  | some o =>
    rw [e1] at h
    cases o with
    | none => exact h.elim
    | some d =>
      obtain ⟨v, hv1, r⟩ := re.2 i d e1
      exact ⟨v, hv1, Wp.ok h sr v r⟩
/-- a value that stands for d in every heap -/
theorem de_c {e : Expr} {v : V} {d : D} (h : PE X e (tC v)) (r : ∀ p H, Rep X.K p H d v) : DE X W F e (xC d) := by
  refine PE.imp h ?_
  rintro σ H Q ⟨p, e, S, sr, re, h⟩
  exact Wp.ok h sr v (r p H)
theorem de_int {i j} : DE X W F (.Constant (.int i) j pos) (xC (.int i)) := de_c pe_int fun _ _ => rfl
theorem de_bl {i j} : DE X W F (.Constant (.bool i) j pos) (xC (.bl i)) := de_c pe_bl fun _ _ => rfl
theorem de_non {j} : DE X W F (.Constant .none j pos) (xC .non) := de_c pe_non fun _ _ => rfl
theorem de_str {i j} : DE X W F (.Constant (.str i) j pos) (xC (.str i)) := de_c pe_str fun _ _ => rfl
/-! ### operators -/
/-- a two-place operation on data -/
abbrev E2 := D → D → M D
def r2 (K : PySem.W.Frag) (ev : E2) : R2 := fun v w H Q => ∃ p S d1 d2, SR K p S H ∧ Rep K p H d1 v ∧ Rep K p H d2 w ∧ ∃ E : XK, Wp K p H (ev d1 d2 S) (vQ K Q) E ∧ ∀ c d H, ¬ E c d H
def noX (m : M D) : M D := fun S => match m S with
  | .exc _ _ _ => .bad
  | r => r
def x2 (ev : E2) (a b : XE) : XE := fun F e => (a F e).bind fun d1 => (b F e).bind fun d2 => noX (ev d1 d2)
theorem noX_wp {K : PySem.W.Frag} {p : Wl} {H : Hp} {m : M D} {S : Sto} {A : D → Sto → Wl → Hp → Prop} {E : XK} (h : Wp K p H (noX m S) A E) : ∃ E' : XK, Wp K p H (m S) A E' ∧ ∀ c d H, ¬ E' c d H := by
  unfold noX at h
  refine ⟨fun _ _ _ => False, ?_, fun _ _ _ h => h⟩
  cases e : m S with
  | ok a S' => rw [e] at h; exact h
  | exc c fs S' => rw [e] at h; exact h.elim
  | bad => rw [e] at h; exact h.elim
theorem t2_of {ev : E2} {σ : St} {H : Hp} {Q : VK} (h : tE X.K W F (x2 ev x y) σ H Q) : tOp (r2 X.K ev) (tE X.K W F x) (tE X.K W F y) σ H Q := by
  obtain ⟨p, e, S, sr, re, h⟩ := h
  refine ⟨p, e, S, sr, re, h.bind.imp fun d1 S1 q1 H1 f1 s1 h1 v r1 => ?_⟩
  refine ⟨q1, e, S1, s1, re.fw f1, h1.bind.imp fun d2 S2 q2 H2 f2 s2 h2 w r2 => ?_⟩
  exact ⟨q2, S2, d1, d2, s2, r1.fw f2, r2, noX_wp h2⟩
theorem de_op {op : Operator} {ev : E2} (ho : OpR X (binaryOp op) (r2 X.K ev)) (ha : DE X W F a x) (hb : DE X W F b y) : DE X W F (.BinOp a op b pos) (x2 ev x y) :=
  PE.imp (pe_op ho ha hb) fun _ _ _ h => t2_of h
theorem de_cmp {op : CmpOp} {ev : E2} (ho : OpR X (compareOp op) (r2 X.K ev)) (ha : DE X W F a x) (hb : DE X W F b y) (hm : behindInMarks op b = false) : DE X W F (.Compare a [op] [b] pos) (x2 ev x y) :=
  PE.imp (pe_cmpR ho ha hb hm) fun _ _ _ h => t2_of h
/-! ### arguments -/
def xNil : XEs := fun _ _ => M.pure []
def xCons (a : XE) (r : XEs) : XEs := fun F e => (a F e).bind fun d => (r F e).bind fun ds => M.pure (d :: ds)
variable {es : List Expr} {xs : XEs}
theorem da_nil : DA X W F [] xNil := by
  refine PA.imp pa_nil ?_
  rintro σ H Q ⟨p, e, S, sr, re, h⟩
  exact Wp.ok h sr [] rfl
theorem da_cons (ha : DE X W F a x) (hr : DA X W F es xs) (hs : starEach (a :: es) X.env = (false, eval a X.env) :: starEach es X.env) : DA X W F (a :: es) (xCons x xs) := by
  refine PA.imp (pa_cons ha hr hs) ?_
  rintro σ H Q ⟨p, e, S, sr, re, h⟩
  refine ⟨p, e, S, sr, re, h.bind.imp fun d1 S1 q1 H1 f1 s1 h1 v r1 => ?_⟩
  refine ⟨q1, e, S1, s1, re.fw f1, h1.bind.imp fun ds S2 q2 H2 f2 s2 h2 vs r2 => ?_⟩
  exact Wp.ok h2 s2 (v :: vs) ⟨v, vs, rfl, r1.fw f2, r2⟩
/-! ### tuples, lists -/
def line : Nat := 16777216
theorem line_eq : sizeLine = line := sizeLine_eq
def xTup (xs : XEs) : XE := fun F e => (xs F e).bind fun ds => if ds.length ≤ line then M.pure (.tup ds) else stuck
theorem de_tup {k : Nat} (h : DA X W F es xs) : DE X W F (.Tuple es k pos) (xTup xs) := by
  refine PE.imp (pe_tup h) ?_
  rintro σ H Q ⟨p, e, S, sr, re, h⟩
  refine ⟨p, e, S, sr, re, h.bind.imp fun ds S1 q1 H1 f1 s1 h1 vs r => ?_⟩
  have hl := r.length
  by_cases hz : ds.length ≤ line
  · rw [if_pos hz] at h1
    refine ⟨by rw [line_eq]; omega, fun b hb => ?_⟩
    have f : Fw q1 H1 q1 (upd H1 b (.tup vs)) := Fw.new hb
    exact h1 q1 _ f (s1.new hb) (.ref b) ⟨b, vs, rfl, .inl (.inl upd_same), r.fw f⟩
  · rw [if_neg hz] at h1
    exact h1.elim
/-- a new list: in the store, or as it is -/
def mkL (al : Bool) (ds : List D) : M D := fun S => if ds.length ≤ line then (if al = true then .ok (.ref S.length) (S ++ [.lst ds]) else .ok (.tmp ds) S) else .bad
theorem wp_mk {K : PySem.W.Frag} {p : Wl} {S : Sto} {H : Hp} {al : Bool} {ds : List D} {Q : VK} {E : XK} {vs : List V} (h : Wp K p H (mkL al ds S) (vQ K Q) E) (s : SR K p S H) (r : RepL K p H ds vs) : vs.length ≤ sizeLine ∧ ∀ b, H b = none → Q (.ref b) (upd H b (.lst vs)) := by
  unfold mkL at h
  by_cases hz : ds.length ≤ line
  · rw [if_pos hz] at h
    refine ⟨by rw [line_eq, r.length]; exact hz, fun b hb => ?_⟩
    cases al with
    | true =>
      have f : Fw p H (p.add b) (upd H b (.lst vs)) := Fw.alloc hb
      refine h _ _ f (s.push hb f (fun c u e => by rw [upd_ne (ne_of_none e hb)]; exact e) ⟨vs, upd_same, r.fw f⟩) (.ref b) ⟨b, ?_, rfl⟩
      show (p.s ++ [b])[S.length]? = some b
      rw [← s.len, List.getElem?_append_right (Nat.le_refl _)]
      simp
    | false =>
      have f : Fw p H p (upd H b (.lst vs)) := Fw.new hb
      exact h p _ f (s.new hb) (.ref b) ⟨b, vs, rfl, upd_same, s.notin hb, fun z => ne_of_none (s.zt b z).2.choose_spec hb rfl, r.fw f⟩
  · rw [if_neg hz] at h
    exact h.elim
def xMk (al : Bool) (xs : XEs) : XE := fun F e => (xs F e).bind (mkL al)
theorem de_lst {al : Bool} (h : DA X W F es xs) : DE X W F (.List es pos) (xMk al xs) := by
  refine PE.imp (pe_lst h) ?_
  rintro σ H Q ⟨p, e, S, sr, re, h⟩
  exact ⟨p, e, S, sr, re, h.bind.imp fun ds S1 q1 H1 f1 s1 h1 vs r => wp_mk h1 s1 r⟩
end
end Dn

set_option Elab.async false
set_option linter.all false
set_option maxRecDepth 100000
set_option maxHeartbeats 2000000
namespace Dn
open PySem L2
/-! ### sequences -/
def seqOf (d : D) (S : Sto) : Option (List D) := match d with
  | .tup l => some l
  | .tmp l => some l
  | .ref n => (match S[n]? with
    | some (.lst l) => some l
    | _ => none)
  | .scr l => some (l.map .int)
  | _ => none
section
variable {K : PySem.W.Frag} {p : Wl} {S : Sto} {H : Hp} {d : D} {v : V} {l : List D}
theorem repL_ints : ∀ l : List Int, RepL K p H (l.map D.int) (l.map V.int)
  | [] => rfl
  | i :: r => ⟨.int i, r.map V.int, rfl, rfl, repL_ints r⟩
/-- a list -/
def isL (d : D) : Bool := match d with
  | .tup _ => false
  | _ => true
theorem Rep.seq (s : SR K p S H) (r : Rep K p H d v) (h : seqOf d S = some l) : ∃ a vs, v = .ref a ∧ (if isL d = true then SqL K H a vs else SqT K H a vs) ∧ RepL K p H l vs := by
  cases d with
  | tup m =>
    cases h
    obtain ⟨a, vs, e, h1, h2⟩ := r
    exact ⟨a, vs, e, h1, h2⟩
  | tmp m =>
    cases h
    obtain ⟨a, vs, e, h1, _, _, h2⟩ := r
    exact ⟨a, vs, e, .inl (.inl h1), h2⟩
  | ref n =>
    obtain ⟨a, ha, e⟩ := r
    have h : (match S[n]? with
      | some (.lst l) => some l
      | _ => none) = some l := h
    cases q : S[n]? with
    | none => rw [q] at h; cases h
    | some o =>
      rw [q] at h
      cases o with
      | lst m =>
        cases h
        obtain ⟨vs, h1, h2⟩ := s.obj n a _ ha q
        exact ⟨a, vs, e, .inl (.inl h1), h2⟩
      | _ => cases h
  | scr m =>
    cases h
    obtain ⟨a, e, h⟩ := r
    refine ⟨a, _, e, ?_, repL_ints m⟩
    rcases h with ⟨o, h⟩ | h
    · exact .inl (.inr ⟨o, h⟩)
    · exact .inr h
  | _ => cases h
theorem Rep.sq (s : SR K p S H) (r : Rep K p H d v) (h : seqOf d S = some l) : ∃ a vs, v = .ref a ∧ (SqL K H a vs ∨ SqT K H a vs) ∧ RepL K p H l vs := by
  obtain ⟨a, vs, e, h1, h2⟩ := r.seq s h
  by_cases q : isL d = true
  · rw [if_pos q] at h1; exact ⟨a, vs, e, .inl h1, h2⟩
  · rw [if_neg q] at h1; exact ⟨a, vs, e, .inr h1, h2⟩
theorem RepL.ints : ∀ {l : List Int} {vs : List V}, RepL K p H (l.map D.int) vs → vs = l.map V.int
  | [], _, h => h
  | i :: r, _, h => by
    obtain ⟨v, ws, e, h1, h2⟩ := h
    have h1 : v = .int i := h1
    rw [e, h1, RepL.ints h2]
    rfl
theorem RepL.bls : ∀ {l : List Bool} {vs : List V}, RepL K p H (l.map D.bl) vs → vs = l.map V.bl
  | [], _, h => h
  | i :: r, _, h => by
    obtain ⟨v, ws, e, h1, h2⟩ := h
    have h1 : v = .bl i := h1
    rw [e, h1, RepL.bls h2]
    rfl
theorem RepL.strs : ∀ {l : List Str} {vs : List V}, RepL K p H (l.map D.str) vs → vs = l.map V.str
  | [], _, h => h
  | i :: r, _, h => by
    obtain ⟨v, ws, e, h1, h2⟩ := h
    have h1 : v = .str i := h1
    rw [e, h1, RepL.strs h2]
    rfl
end
def intL : List D → Option (List Int)
  | [] => some []
  | .int i :: r => (intL r).map (i :: ·)
  | _ => none
def blL : List D → Option (List Bool)
  | [] => some []
  | .bl i :: r => (blL r).map (i :: ·)
  | _ => none
def strL : List D → Option (List Str)
  | [] => some []
  | .str i :: r => (strL r).map (i :: ·)
  | _ => none
theorem ints_eq : ∀ {l : List D} {ns : List Int}, intL l = some ns → l = ns.map D.int
  | [], _, h => by cases h; rfl
  | .int i :: r, _, h => by
    obtain ⟨m, hm, e⟩ := Option.map_eq_some_iff.mp (show (intL r).map (i :: ·) = some _ from h)
    rw [← e, ints_eq hm]; rfl
theorem bls_eq : ∀ {l : List D} {ns : List Bool}, blL l = some ns → l = ns.map D.bl
  | [], _, h => by cases h; rfl
  | .bl i :: r, _, h => by
    obtain ⟨m, hm, e⟩ := Option.map_eq_some_iff.mp (show (blL r).map (i :: ·) = some _ from h)
    rw [← e, bls_eq hm]; rfl
theorem strs_eq : ∀ {l : List D} {ns : List Str}, strL l = some ns → l = ns.map D.str
  | [], _, h => by cases h; rfl
  | .str i :: r, _, h => by
    obtain ⟨m, hm, e⟩ := Option.map_eq_some_iff.mp (show (strL r).map (i :: ·) = some _ from h)
    rw [← e, strs_eq hm]; rfl
theorem ints_map (ns : List Int) : intL (ns.map D.int) = some ns := by
  induction ns with
  | nil => rfl
  | cons i r ih => show (intL (r.map D.int)).map (i :: ·) = _; rw [ih]; rfl
theorem bls_map (ns : List Bool) : blL (ns.map D.bl) = some ns := by
  induction ns with
  | nil => rfl
  | cons i r ih => show (blL (r.map D.bl)).map (i :: ·) = _; rw [ih]; rfl
theorem strs_map (ns : List Str) : strL (ns.map D.str) = some ns := by
  induction ns with
  | nil => rfl
  | cons i r ih => show (strL (r.map D.str)).map (i :: ·) = _; rw [ih]; rfl
/-! ### data as a whole -/
def optAll {α β : Type} (f : α → Option β) : List α → Option (List β)
  | [] => some []
  | a :: r => (f a).bind fun b => (optAll f r).map (b :: ·)
def dat (S : Sto) : Nat → D → Option PyData
  | 0, _ => none
  | _ + 1, .non => some .none
  | _ + 1, .bl b => some (.bool b)
  | _ + 1, .int i => some (.int i)
  | _ + 1, .str s => some (.str s)
  | n + 1, .tup l => (optAll (dat S n) l).map .tuple
  | n + 1, .tmp l => (optAll (dat S n) l).map .list
  | n + 1, .ref k => (match S[k]? with
    | some (.lst l) => (optAll (dat S n) l).map .list
    | _ => none)
  | _ + 1, .scr l => some (.list (l.map .int))
  | _ + 1, .ty _ => none
  | _ + 1, .gl _ => none
section
variable {K : PySem.W.Frag} {p : Wl} {S : Sto} {H : Hp}
theorem dpAll_of {n : Nat} (ih : ∀ {d : D} {v : V} {x : PyData}, Rep K p H d v → dat S n d = some x → Dp K H v x) : ∀ {l : List D} {vs : List V} {xs : List PyData}, RepL K p H l vs → optAll (dat S n) l = some xs → DpAll K H vs xs
  | [], _, _, h, e => by cases e; rw [show _ = [] from h]; exact .nil
  | d :: r, _, xs, h, e => by
    obtain ⟨v, ws, e1, h1, h2⟩ := h
    obtain ⟨b, q, e⟩ := Option.bind_eq_some_iff.mp (show ((dat S n d).bind fun b => (optAll (dat S n) r).map (b :: ·)) = some xs from e)
    obtain ⟨m, hm, e2⟩ := Option.map_eq_some_iff.mp e
    rw [e1, ← e2]
    exact .cons (ih h1 q) (dpAll_of ih h2 hm)
theorem dpInts : ∀ l : List Int, DpAll K H (l.map V.int) (l.map PyData.int)
  | [] => .nil
  | i :: r => .cons (.int i) (dpInts r)
theorem dp_of (s : SR K p S H) : ∀ {n : Nat} {d : D} {v : V} {x : PyData}, Rep K p H d v → dat S n d = some x → Dp K H v x
  | 0, _, _, _, _, h => by cases h
  | n + 1, .non, _, _, r, h => by cases h; rw [show _ = V.non from r]; exact .non
  | n + 1, .bl b, _, _, r, h => by cases h; rw [show _ = V.bl b from r]; exact .bl b
  | n + 1, .int b, _, _, r, h => by cases h; rw [show _ = V.int b from r]; exact .int b
  | n + 1, .str b, _, _, r, h => by cases h; rw [show _ = V.str b from r]; exact .str b
  | n + 1, .tup l, _, _, r, h => by
    obtain ⟨m, hm, e⟩ := Option.map_eq_some_iff.mp (show (optAll (dat S n) l).map PyData.tuple = some _ from h)
    obtain ⟨a, vs, e1, h1, h2⟩ := r
    rw [e1, ← e]
    exact .tup h1 (dpAll_of (dp_of s) h2 hm)
  | n + 1, .tmp l, _, _, r, h => by
    obtain ⟨m, hm, e⟩ := Option.map_eq_some_iff.mp (show (optAll (dat S n) l).map PyData.list = some _ from h)
    obtain ⟨a, vs, e1, h1, _, _, h2⟩ := r
    rw [e1, ← e]
    exact .lst (.inl (.inl h1)) (dpAll_of (dp_of s) h2 hm)
  | n + 1, .ref k, _, x, r, h => by
    have h : (match S[k]? with
      | some (.lst l) => (optAll (dat S n) l).map .list
      | _ => none) = some x := h
    obtain ⟨a, ha, e1⟩ := r
    cases q : S[k]? with
    | none => rw [q] at h; cases h
    | some o =>
      rw [q] at h
      cases o with
      | lst l =>
        obtain ⟨m, hm, e⟩ := Option.map_eq_some_iff.mp h
        obtain ⟨vs, h1, h2⟩ := s.obj k a _ ha q
        rw [e1, ← e]
        exact .lst (.inl (.inl h1)) (dpAll_of (dp_of s) h2 hm)
      | _ => cases h
  | n + 1, .scr l, _, _, r, h => by
    cases h
    obtain ⟨a, e, h⟩ := r
    rw [e]
    refine .lst ?_ (dpInts l)
    rcases h with ⟨o, h⟩ | h
    · exact .inl (.inr ⟨o, h⟩)
    · exact .inr h
  | n + 1, .ty _, _, _, _, h => by cases h
  | n + 1, .gl _, _, _, _, h => by cases h
end
/-! ### arithmetic -/
def mulB (i j : Int) : Bool := !(decide (Builtin.Int.intBits i > shortFactorBits) && decide (Builtin.Int.intBits j > shortFactorBits) && Builtin.Int.intTooBig (Builtin.Int.intBits i + Builtin.Int.intBits j))
def divB (j : Int) : Bool := decide (j ≠ 0) && decide (j.natAbs.log2 < 9000)
def powB (i j : Int) : Bool := decide (0 ≤ j) && decide (j ≤ 1000000) && decide (i.natAbs < 2 ^ 64)
def evAdd : E2 := fun d1 d2 => match d1, d2 with
  | .int i, .int j => M.pure (.int (i + j))
  | .str s, .str t => if s.length + t.length ≤ line then M.pure (.str (s ++ t)) else stuck
  | .tup l, .tup m => if l.length + m.length ≤ line then M.pure (.tup (l ++ m)) else stuck
  | _, _ => stuck
def evSub : E2 := fun d1 d2 => match d1, d2 with
  | .int i, .int j => M.pure (.int (i - j))
  | _, _ => stuck
def evMul : E2 := fun d1 d2 => match d1, d2 with
  | .int i, .int j => if mulB i j = true then M.pure (.int (i * j)) else stuck
  | _, _ => stuck
def evDiv : E2 := fun d1 d2 => match d1, d2 with
  | .int i, .int j => if divB j = true then M.pure (.int (i.fdiv j)) else stuck
  | _, _ => stuck
def evMod : E2 := fun d1 d2 => match d1, d2 with
  | .int i, .int j => if j ≠ 0 then M.pure (.int (i.fmod j)) else stuck
  | _, _ => stuck
def evPow : E2 := fun d1 d2 => match d1, d2 with
  | .int i, .int j => if powB i j = true then M.pure (.int (i ^ j.toNat)) else stuck
  | _, _ => stuck
/-- a test ahead of a result -/
theorem wp_if {α : Type} {K : PySem.W.Frag} {p : Wl} {H : Hp} {c : Prop} [Decidable c] {m : M α} {S : Sto} {A : α → Sto → Wl → Hp → Prop} {E : XK} (h : Wp K p H ((if c then m else stuck : M α) S) A E) : c ∧ Wp K p H (m S) A E := by
  by_cases hc : c
  · rw [if_pos hc] at h; exact ⟨hc, h⟩
  · rw [if_neg hc] at h; exact h.elim
section
variable {X : Cx}
theorem op_dnI {f : Value → Value → Sem Value} {C : Int → Int → Prop} {g : Int → Int → V} {ev : E2} (ho : OpR X f (rI C g))
    (hi : ∀ p S H Q E i j, SR X.K p S H → Wp X.K p H (ev (.int i) (.int j) S) (vQ X.K Q) E → C i j ∧ Q (g i j) H) (hn : ∀ d1 d2 S, (∀ i j, ¬ (d1 = .int i ∧ d2 = .int j)) → ev d1 d2 S = .bad) : OpR X f (r2 X.K ev) := by
  rintro pins s σ H v w uv uw Q I rv rw' ⟨p, S, d1, d2, sr, h1, h2, E, h, hE⟩
  by_cases hc : ∃ i j, d1 = .int i ∧ d2 = .int j
  · obtain ⟨i, j, rfl, rfl⟩ := hc
    obtain ⟨c, q⟩ := hi p S H Q E i j sr h
    exact ho pins s σ H v w uv uw Q I rv rw' ⟨i, j, h1, h2, c, q⟩
  · rw [hn d1 d2 S fun i j z => hc ⟨i, j, z⟩] at h
    exact h.elim
theorem op_dnSub : OpR X (binaryOp .Sub) (r2 X.K evSub) := by
  refine op_dnI (C := fun _ _ => True) (g := fun i j => .int (i - j)) (fun pins s σ H x y v u Q I rx ry ⟨i, j, a, b, _, q⟩ => op_sub pins s σ H x y v u Q I rx ry ⟨i, j, a, b, q⟩) (fun p S H Q E i j sr h => ⟨trivial, Wp.ok h sr _ rfl⟩) fun d1 d2 S h => ?_
  cases d1 <;> first | rfl | (cases d2 <;> first | rfl | exact absurd ⟨rfl, rfl⟩ (h _ _))
theorem op_dnMul : OpR X (binaryOp .Mult) (r2 X.K evMul) := by
  refine op_dnI (C := fun i j => mulB i j = true) (g := fun i j => .int (i * j)) (opI fun i j _ _ _ _ _ hc q => PyProof.Rows.mul_int q ?_) (fun p S H Q E i j sr h => ?_) fun d1 d2 S h => ?_
  · unfold mulB at hc
    rw [Bool.not_eq_true'] at hc
    exact fun z => Bool.false_ne_true (hc.symm.trans z)
  · obtain ⟨c, h⟩ := wp_if h
    exact ⟨c, Wp.ok h sr _ rfl⟩
  cases d1 <;> first | rfl | (cases d2 <;> first | rfl | exact absurd ⟨rfl, rfl⟩ (h _ _))
theorem op_dnDiv : OpR X (binaryOp .FloorDiv) (r2 X.K evDiv) := by
  refine op_dnI (C := fun i j => divB j = true) (g := fun i j => .int (i.fdiv j)) (opI fun i j _ _ _ _ _ hc q => ?_) (fun p S H Q E i j sr h => ?_) fun d1 d2 S h => ?_
  · unfold divB at hc
    simp only [Bool.and_eq_true, decide_eq_true_eq] at hc
    exact PyProof.Rows.floordiv_int hc.1 q (.inl (PyProof.noPylong_of_log2 hc.2))
  · obtain ⟨c, h⟩ := wp_if h
    exact ⟨c, Wp.ok h sr _ rfl⟩
  cases d1 <;> first | rfl | (cases d2 <;> first | rfl | exact absurd ⟨rfl, rfl⟩ (h _ _))
theorem op_dnMod : OpR X (binaryOp .Mod) (r2 X.K evMod) := by
  refine op_dnI (C := fun i j => j ≠ 0) (g := fun i j => .int (i.fmod j)) op_modN (fun p S H Q E i j sr h => ?_) fun d1 d2 S h => ?_
  · obtain ⟨c, h⟩ := wp_if h
    exact ⟨c, Wp.ok h sr _ rfl⟩
  cases d1 <;> first | rfl | (cases d2 <;> first | rfl | exact absurd ⟨rfl, rfl⟩ (h _ _))
theorem op_dnPow : OpR X (binaryOp .Pow) (r2 X.K evPow) := by
  refine op_dnI (C := CPow) (g := fun i j => .int (i ^ j.toNat)) op_pow (fun p S H Q E i j sr h => ?_) fun d1 d2 S h => ?_
  · obtain ⟨c, h⟩ := wp_if h
    unfold powB at c
    simp only [Bool.and_eq_true, decide_eq_true_eq] at c
    exact ⟨⟨c.1.1, c.1.2, c.2⟩, Wp.ok h sr _ rfl⟩
  cases d1 <;> first | rfl | (cases d2 <;> first | rfl | exact absurd ⟨rfl, rfl⟩ (h _ _))
theorem op_dnAdd : OpR X (binaryOp .Add) (r2 X.K evAdd) := by
  rintro pins s σ H v w uv uw Q I rv rw' ⟨p, S, d1, d2, sr, h1, h2, E, h, hE⟩
  cases d1 with
  | int i =>
    cases d2 with
    | int j => exact op_add pins s σ H v w uv uw Q I rv rw' ⟨i, j, h1, h2, Wp.ok h sr _ rfl⟩
    | _ => exact h.elim
  | str i =>
    cases d2 with
    | str j =>
      obtain ⟨hz, h⟩ := wp_if h
      exact op_add_str pins s σ H v w uv uw Q I rv rw' ⟨i, j, h1, h2, by rw [line_eq]; exact hz, Wp.ok h sr _ rfl⟩
    | _ => exact h.elim
  | tup l =>
    cases d2 with
    | tup m =>
      obtain ⟨hz, h⟩ := wp_if h
      obtain ⟨a, vs, e1, g1, k1⟩ := h1
      obtain ⟨b, ws, e2, g2, k2⟩ := h2
      have z1 := k1.length
      have z2 := k2.length
      refine op_catA pins s σ H v w uv uw Q I rv rw' ⟨a, b, vs, ws, e1, e2, g1, g2, by rw [line_eq]; omega, fun z => ?_, fun _ z => ?_, fun _ _ c hc => ?_⟩
      · have z3 : l = [] := by rw [z] at z1; exact List.eq_nil_of_length_eq_zero z1.symm
        subst z3
        exact Wp.ok h sr _ ⟨b, ws, rfl, g2, k2⟩
      · have z3 : m = [] := by rw [z] at z2; exact List.eq_nil_of_length_eq_zero z2.symm
        subst z3
        rw [List.append_nil] at h
        exact Wp.ok h sr _ ⟨a, vs, rfl, g1, k1⟩
      · have f : Fw p H p (upd H c (.tup (vs ++ ws))) := Fw.new hc
        exact h p _ f (sr.new hc) _ ⟨c, _, rfl, .inl (.inl upd_same), (k1.append k2).fw f⟩
    | _ => exact h.elim
  | _ => exact h.elim
/-! ### comparisons -/
def eqD0 (S : Sto) (d1 d2 : D) : Option Bool := match dat S 60 d1, dat S 60 d2 with
  | some x, some y => if (SeqAt.shaped x && SeqAt.shaped y) = true then some (PyData.eqv x y) else none
  | _, _ => none
def strs2 (d1 d2 : D) : Option (Str × Str) := match d1, d2 with
  | .str s, .str t => some (s, t)
  | _, _ => none
theorem strs2_ok {d1 d2 : D} {s t : Str} (h : strs2 d1 d2 = some (s, t)) : d1 = .str s ∧ d2 = .str t := by
  unfold strs2 at h
  split at h
  · cases h; exact ⟨rfl, rfl⟩
  · cases h
def eqD (S : Sto) (d1 d2 : D) : Option Bool := match strs2 d1 d2 with
  | some (s, t) => some (decide (s = t))
  | none => eqD0 S d1 d2
def ofO {α : Type} (o : Option α) : M α := match o with
  | some a => M.pure a
  | none => stuck
def evEq : E2 := fun d1 d2 S => ofO ((eqD S d1 d2).map D.bl) S
def evNe : E2 := fun d1 d2 S => ofO ((eqD S d1 d2).map fun b => D.bl (!b)) S
theorem wp_ofO {α : Type} {K : PySem.W.Frag} {p : Wl} {H : Hp} {o : Option α} {S : Sto} {A : α → Sto → Wl → Hp → Prop} {E : XK} (h : Wp K p H (ofO o S) A E) (s : SR K p S H) : ∃ a, o = some a ∧ A a S p H := by
  cases o with
  | none => exact h.elim
  | some a => exact ⟨a, rfl, Wp.ok h s⟩
theorem eqD_some {S : Sto} {d1 d2 : D} {b : Bool} (h : eqD0 S d1 d2 = some b) : ∃ x y, dat S 60 d1 = some x ∧ dat S 60 d2 = some y ∧ SeqAt.shaped x = true ∧ SeqAt.shaped y = true ∧ b = PyData.eqv x y := by
  unfold eqD0 at h
  split at h
  · rename_i x y h1 h2
    split at h
    · rename_i hz
      rw [Bool.and_eq_true] at hz
      exact ⟨x, y, h1, h2, hz.1, hz.2, (Option.some.inj h).symm⟩
    · cases h
  · cases h
theorem op_dnEq (hu : X.A.units + 64 < cLine) : OpR X (compareOp .Eq) (r2 X.K evEq) := by
  rintro pins s σ H v w uv uw Q I rv rw' ⟨p, S, d1, d2, sr, h1, h2, E, h, hE⟩
  obtain ⟨d, e, q⟩ := wp_ofO h sr
  obtain ⟨b, e1, e2⟩ := Option.map_eq_some_iff.mp e
  cases es : strs2 d1 d2 with
  | some st =>
    obtain ⟨z, t⟩ := st
    obtain ⟨rfl, rfl⟩ := strs2_ok es
    have e1 : some (decide (z = t)) = some b := e1
    cases e1
    subst e2
    have hv : v = .str z := h1
    have hw : w = .str t := h2
    subst hv hw
    have ed : decide (V.str z = V.str t) = decide (z = t) := by
      by_cases c : z = t
      · subst c; simp
      · simp [c]
    refine op_eq pins s σ H _ _ uv uw Q I rv rw' ⟨rfl, ?_⟩
    rw [ed]
    exact q _ rfl
  | none =>
  have e1 : eqD0 S d1 d2 = some b := by
    have h0 : (match strs2 d1 d2 with
      | some (s, t) => some (decide (s = t))
      | none => eqD0 S d1 d2) = some b := e1
    rw [es] at h0
    exact h0
  obtain ⟨x, y, g1, g2, g3, g4, e3⟩ := eqD_some e1
  subst e2 e3
  exact op_eqD hu pins s σ H v w uv uw Q I rv rw' ⟨x, y, dp_of sr h1 g1, dp_of sr h2 g2, g3, g4, q _ rfl⟩
theorem op_dnNe (hu : X.A.units + 64 < cLine) : OpR X (compareOp .NotEq) (r2 X.K evNe) := by
  rintro pins s σ H v w uv uw Q I rv rw' ⟨p, S, d1, d2, sr, h1, h2, E, h, hE⟩
  obtain ⟨d, e, q⟩ := wp_ofO h sr
  obtain ⟨b, e1, e2⟩ := Option.map_eq_some_iff.mp e
  cases es : strs2 d1 d2 with
  | some st =>
    obtain ⟨z, t⟩ := st
    obtain ⟨rfl, rfl⟩ := strs2_ok es
    have e1 : some (decide (z = t)) = some b := e1
    cases e1
    subst e2
    have hv : v = .str z := h1
    have hw : w = .str t := h2
    subst hv hw
    have ed : decide (V.str z = V.str t) = decide (z = t) := by
      by_cases c : z = t
      · subst c; simp
      · simp [c]
    refine op_ne pins s σ H _ _ uv uw Q I rv rw' ⟨rfl, ?_⟩
    rw [ed]
    exact q _ rfl
  | none =>
  have e1 : eqD0 S d1 d2 = some b := by
    have h0 : (match strs2 d1 d2 with
      | some (s, t) => some (decide (s = t))
      | none => eqD0 S d1 d2) = some b := e1
    rw [es] at h0
    exact h0
  obtain ⟨x, y, g1, g2, g3, g4, e3⟩ := eqD_some e1
  subst e2 e3
  exact op_neD hu pins s σ H v w uv uw Q I rv rw' ⟨x, y, dp_of sr h1 g1, dp_of sr h2 g2, g3, g4, q _ rfl⟩
def evCmp (g : Int → Int → Bool) : E2 := fun d1 d2 => match d1, d2 with
  | .int i, .int j => M.pure (.bl (g i j))
  | _, _ => stuck
theorem op_dnCmp {op : CmpOp} {g : Int → Int → Bool} (ho : OpR X (compareOp op) (rI0 fun i j => .bl (g i j))) : OpR X (compareOp op) (r2 X.K (evCmp g)) := by
  refine op_dnI (C := fun _ _ => True) (g := fun i j => .bl (g i j)) (fun pins s σ H x y v u Q I rx ry ⟨i, j, a, b, _, q⟩ => ho pins s σ H x y v u Q I rx ry ⟨i, j, a, b, q⟩) (fun p S H Q E i j sr h => ⟨trivial, Wp.ok h sr _ rfl⟩) fun d1 d2 S h => ?_
  cases d1 <;> first | rfl | (cases d2 <;> first | rfl | exact absurd ⟨rfl, rfl⟩ (h _ _))
def evLt : E2 := evCmp fun i j => decide (i < j)
def evLe : E2 := evCmp fun i j => decide (i ≤ j)
def evGt : E2 := evCmp fun i j => decide (j < i)
def evGe : E2 := evCmp fun i j => decide (j ≤ i)
theorem op_dnLt : OpR X (compareOp .Lt) (r2 X.K evLt) := op_dnCmp op_lt
theorem op_dnLe : OpR X (compareOp .LtE) (r2 X.K evLe) := op_dnCmp op_le
theorem op_dnGt : OpR X (compareOp .Gt) (r2 X.K evGt) := op_dnCmp op_gt
theorem op_dnGe : OpR X (compareOp .GtE) (r2 X.K evGe) := op_dnCmp op_ge
def isNon : D → Bool
  | .non => true
  | _ => false
def evIs : E2 := fun d1 d2 => match d2 with
  | .non => M.pure (.bl (isNon d1))
  | .bl b => (match d1 with
    | .bl c => M.pure (.bl (decide (c = b)))
    | _ => stuck)
  | _ => stuck
def evIsNot : E2 := fun d1 d2 => match d2 with
  | .non => M.pure (.bl (!isNon d1))
  | .bl b => (match d1 with
    | .bl c => M.pure (.bl (!decide (c = b)))
    | _ => stuck)
  | _ => stuck
theorem isNon_v {K : PySem.W.Frag} {p : Wl} {H : Hp} {d : D} {v : V} (r : Rep K p H d v) : decide (v = .non) = isNon d := by
  cases d with
  | non => rw [show v = .non from r]; rfl
  | bl b => rw [show v = .bl b from r]; rfl
  | int b => rw [show v = .int b from r]; rfl
  | str b => rw [show v = .str b from r]; rfl
  | tup l => obtain ⟨a, _, e, _⟩ := r; rw [e]; rfl
  | tmp l => obtain ⟨a, _, e, _⟩ := r; rw [e]; rfl
  | ref n => obtain ⟨a, _, e⟩ := r; rw [e]; rfl
  | scr l => obtain ⟨a, e, _⟩ := r; rw [e]; rfl
  | ty n => rw [show v = .ty n from r]; rfl
  | gl x => rw [show v = .ref _ from r]; rfl
theorem op_dnIs : OpR X (compareOp .Is) (r2 X.K evIs) := by
  rintro pins s σ H v w uv uw Q I rv rw' ⟨p, S, d1, d2, sr, h1, h2, E, h, hE⟩
  cases d2 with
  | non => exact op_isN1 pins s σ H v w uv uw Q I rv rw' ⟨h2, by rw [isNon_v h1]; exact Wp.ok h sr _ rfl⟩
  | bl b =>
    cases d1 with
    | bl c => exact op_is_bl pins s σ H v w uv uw Q I rv rw' ⟨c, b, h1, h2, Wp.ok h sr _ rfl⟩
    | _ => exact h.elim
  | _ => exact h.elim
theorem op_dnIsNot : OpR X (compareOp .IsNot) (r2 X.K evIsNot) := by
  rintro pins s σ H v w uv uw Q I rv rw' ⟨p, S, d1, d2, sr, h1, h2, E, h, hE⟩
  cases d2 with
  | non => exact op_notN1 pins s σ H v w uv uw Q I rv rw' ⟨h2, by rw [isNon_v h1]; exact Wp.ok h sr _ rfl⟩
  | bl b =>
    cases d1 with
    | bl c => exact op_isnot_bl pins s σ H v w uv uw Q I rv rw' ⟨c, b, h1, h2, Wp.ok h sr _ rfl⟩
    | _ => exact h.elim
  | _ => exact h.elim
end
end Dn

set_option Elab.async false
set_option linter.all false
set_option maxRecDepth 100000
set_option maxHeartbeats 2000000
namespace Dn
open PySem L2
/-! ### truth -/
def truO (d : D) (S : Sto) : Option Bool := match d with
  | .non => some false
  | .bl b => some b
  | .int i => some (i != 0)
  | .str y => if y.length ≤ line then some ((y.length : Int) != 0) else none
  | .ref n => (match S[n]? with
    | some (.lst l) => some (!l.isEmpty)
    | some (.dK l) => some (!l.isEmpty)
    | _ => none)
  | d => (seqOf d S).map fun l => !l.isEmpty
def truD (d : D) : M Bool := fun S => ofO (truO d S) S
theorem RepL.emp {K : PySem.W.Frag} {p : Wl} {H : Hp} {l : List D} {vs : List V} (h : RepL K p H l vs) : vs.isEmpty = l.isEmpty := by
  cases l with
  | nil => rw [show vs = [] from h]; rfl
  | cons d r => obtain ⟨v, ws, e, _⟩ := h; rw [e]; rfl
theorem RepF.emp {α : Type} {K : PySem.W.Frag} {p : Wl} {H : Hp} {l : List (α × D)} {vs : List (α × V)} (h : RepF K p H l vs) : vs.isEmpty = l.isEmpty := by
  cases l with
  | nil => rw [show vs = [] from h]; rfl
  | cons d r => obtain ⟨k, d⟩ := d; obtain ⟨v, ws, e, _⟩ := h; rw [e]; rfl
section
variable {K : PySem.W.Frag} {p : Wl} {S : Sto} {H : Hp} {d : D} {v : V}
theorem truV_of (s : SR K p S H) (r : Rep K p H d v) {k : Bool} (h : truO d S = some k) : TruV K v H k := by
  have sq : ∀ {l : List D}, seqOf d S = some l → k = (!l.isEmpty) → TruV K v H k := fun {l} h1 h2 => by
    obtain ⟨a, vs, e, h3, h4⟩ := r.sq s h1
    rw [e, h2, ← h4.emp]
    rcases h3 with h3 | h3
    · exact .inl ⟨vs, h3, rfl⟩
    · exact .inr (.inl ⟨vs, h3, rfl⟩)
  cases d with
  | non => cases h; rw [show v = .non from r]; rfl
  | bl b => cases h; rw [show v = .bl k from r]; rfl
  | int i => cases h; rw [show v = .int i from r]; rfl
  | str y =>
    have h : (if y.length ≤ line then some ((y.length : Int) != 0) else none) = some k := h
    by_cases hz : y.length ≤ line
    · rw [if_pos hz] at h
      cases h
      rw [show v = .str y from r]
      exact ⟨by rw [line_eq]; exact hz, rfl⟩
    · rw [if_neg hz] at h; cases h
  | ref n =>
    have h : (match S[n]? with
      | some (.lst l) => some (!l.isEmpty)
      | some (.dK l) => some (!l.isEmpty)
      | _ => none) = some k := h
    cases q : S[n]? with
    | none => rw [q] at h; cases h
    | some o =>
      rw [q] at h
      cases o with
      | lst l => cases h; exact sq (l := l) (by show (match S[n]? with | some (.lst l) => some l | _ => none) = some l; rw [q]) rfl
      | dK l =>
        cases h
        obtain ⟨a, ha, e⟩ := r
        obtain ⟨vs, h1, h2⟩ := s.obj n a _ ha q
        rw [e, ← h2.emp]
        exact .inr (.inr ⟨vs, h1, rfl⟩)
      | ins c fs => cases h
  | tup l => cases h; exact sq (l := l) rfl rfl
  | tmp l => cases h; exact sq (l := l) rfl rfl
  | scr l => cases h; exact sq (l := l.map .int) rfl (by simp)
  | ty n => cases h
  | gl x => cases h
end
section
variable {X : Cx} {W : WX} {F : Fns} {pos : Pos} {a b c : Expr} {x y z : XE} {s t : XT}
def xTru (x : XE) : XT := fun F e => (x F e).bind truD
def toBl (d : D) : M Bool := match d with
  | .bl b => M.pure b
  | _ => stuck
def xBl (x : XE) : XT := fun F e => (x F e).bind toBl
theorem dt_val (ha : DE X W F a x) (he : ∀ whole, isTrue a X.env whole = (do let v ← whole; standAt a.pos; holding [v] (truthy v))) : DT X W F a (xTru x) := by
  refine PT.imp (pt_truth ha he) ?_
  rintro σ H Q ⟨p, e, S, sr, re, h⟩
  refine ⟨p, e, S, sr, re, h.bind.imp fun d1 S1 q1 H1 f1 s1 h1 v r1 => ?_⟩
  obtain ⟨k, e1, q⟩ := wp_ofO h1 s1
  exact ⟨k, truV_of s1 r1 e1, q⟩
theorem tTest_of {ev : E2} {σ : St} {H : Hp} {Q : Bool → Hp → Prop} {te : TE} (h : tT X.K W F (xBl x) σ H Q) (hx : ∀ Q, tE X.K W F x σ H Q → te σ H Q) : tTest te σ H Q := by
  obtain ⟨p, e, S, sr, re, h⟩ := h
  refine hx _ ⟨p, e, S, sr, re, h.bind.imp fun d1 S1 q1 H1 f1 s1 h1 v r1 => ?_⟩
  cases d1 with
  | bl k => exact ⟨k, r1, Wp.ok h1 s1⟩
  | _ => exact h1.elim
theorem dt_cmp {op : CmpOp} {ev : E2} (ho : OpR X (compareOp op) (r2 X.K ev)) (ha : DE X W F a x) (hb : DE X W F b y) (hm : behindInMarks op b = false) : DT X W F (.Compare a [op] [b] pos) (xBl (x2 ev x y)) :=
  PT.imp (pt_cmpR ho ha hb hm) fun _ _ _ h => tTest_of (ev := ev) h fun _ h => t2_of h
/-- a op1 b op2 c -/
def x3 (e1 e2 : E2) (x y z : XE) : XE := fun F e => (x F e).bind fun d1 => (y F e).bind fun d2 => (noX (e1 d1 d2)).bind fun k => match k with
  | .bl true => (z F e).bind fun d3 => noX (e2 d2 d3)
  | .bl false => M.pure (.bl false)
  | _ => stuck
theorem t3_of {e1 e2 : E2} {σ : St} {H : Hp} {Q : VK} (h : tE X.K W F (x3 e1 e2 x y z) σ H Q) : tChain (r2 X.K e1) (r2 X.K e2) (tE X.K W F x) (tE X.K W F y) (tE X.K W F z) σ H Q := by
  obtain ⟨p, e, S, sr, re, h⟩ := h
  refine ⟨p, e, S, sr, re, h.bind.imp fun d1 S1 q1 H1 f1 s1 h1 v r1 => ?_⟩
  refine ⟨q1, e, S1, s1, re.fw f1, h1.bind.imp fun d2 S2 q2 H2 f2 s2 h2 w r2 => ?_⟩
  obtain ⟨E', h3, hE⟩ := noX_wp (h2.bind)
  refine ⟨q2, S2, d1, d2, s2, r1.fw f2, r2, E', h3.imp fun k S3 q3 H3 f3 s3 h4 u r3 => ?_, hE⟩
  cases k with
  | bl k =>
    refine ⟨k, r3, ?_⟩
    cases k with
    | true =>
      rw [if_pos rfl]
      exact ⟨q3, e, S3, s3, (re.fw f1).fw (f2.trans f3), h4.bind.imp fun d3 S4 q4 H4 f4 s4 h5 u' r4 => ⟨q4, S4, d2, d3, s4, r2.fw (f3.trans f4), r4, noX_wp h5⟩⟩
    | false =>
      rw [if_neg Bool.false_ne_true]
      exact Wp.ok h4 s3 _ rfl
  | _ => exact h4.elim
theorem de_chain {op op' : CmpOp} {e1 e2 : E2} (ho : OpR X (compareOp op) (r2 X.K e1)) (ho' : OpR X (compareOp op') (r2 X.K e2)) (ha : DE X W F a x) (hb : DE X W F b y) (hc : DE X W F c z) (hm : lastMarks [op, op'] [b, c] = false) :
    DE X W F (.Compare a [op, op'] [b, c] pos) (x3 e1 e2 x y z) := PE.imp (pe_chain ho ho' ha hb hc hm) fun _ _ _ h => t3_of h
theorem dt_chain {op op' : CmpOp} {e1 e2 : E2} (ho : OpR X (compareOp op) (r2 X.K e1)) (ho' : OpR X (compareOp op') (r2 X.K e2)) (ha : DE X W F a x) (hb : DE X W F b y) (hc : DE X W F c z) (hm : lastMarks [op, op'] [b, c] = false) :
    DT X W F (.Compare a [op, op'] [b, c] pos) (xBl (x3 e1 e2 x y z)) := PT.imp (pt_chain ho ho' ha hb hc hm) fun _ _ _ h => tTest_of (ev := e1) h fun _ h => t3_of h
/-! ### and, or, not, if -/
def tNo (t : XT) : XT := fun F e => (t F e).bind fun b => M.pure (!b)
def tAn (s t : XT) : XT := fun F e => (s F e).bind fun b => if b = true then t F e else M.pure false
def tOo (s t : XT) : XT := fun F e => (s F e).bind fun b => if b = true then M.pure true else t F e
abbrev DW (X : Cx) (W : WX) (F : Fns) (e : Expr) (x : XT) : Prop := PW X e (tT X.K W F x)
theorem PW.imp {X : Cx} {e : Expr} {t t' : TT} (h : PW X e t) (f : ∀ σ H Q, t' σ H Q → t σ H Q) : PW X e t' := ⟨fun wh pins s σ H Q I q => h.run wh pins s σ H Q I (f σ H Q q)⟩
theorem dt_not (ha : DT X W F a s) : DT X W F (.UnaryOp .Not a pos) (tNo s) := by
  refine PT.imp (pt_not ha) ?_
  rintro σ H Q ⟨p, e, S, sr, re, h⟩
  exact ⟨p, e, S, sr, re, h.bind.imp fun d1 S1 q1 H1 f1 s1 h1 => Wp.ok h1 s1⟩
theorem dw_and1 (ha : DT X W F a s) : DW X W F (.BoolOp .And [a] pos) s := pw_and1 ha
theorem dw_or1 (ha : DT X W F a s) : DW X W F (.BoolOp .Or [a] pos) s := pw_or1 ha
theorem dw_and {rest : List Expr} (ha : DT X W F a s) (hb : DW X W F (.BoolOp .And (b :: rest) pos) t) : DW X W F (.BoolOp .And (a :: b :: rest) pos) (tAn s t) := by
  refine PW.imp (pw_and ha hb) ?_
  rintro σ H Q ⟨p, e, S, sr, re, h⟩
  refine ⟨p, e, S, sr, re, h.bind.imp fun d1 S1 q1 H1 f1 s1 h1 => ?_⟩
  cases d1 with
  | true => rw [if_pos rfl] at h1 ⊢; exact ⟨q1, e, S1, s1, re.fw f1, h1⟩
  | false => rw [if_neg Bool.false_ne_true] at h1 ⊢; exact Wp.ok h1 s1
theorem dw_or {rest : List Expr} (ha : DT X W F a s) (hb : DW X W F (.BoolOp .Or (b :: rest) pos) t) : DW X W F (.BoolOp .Or (a :: b :: rest) pos) (tOo s t) := by
  refine PW.imp (pw_or ha hb) ?_
  rintro σ H Q ⟨p, e, S, sr, re, h⟩
  refine ⟨p, e, S, sr, re, h.bind.imp fun d1 S1 q1 H1 f1 s1 h1 => ?_⟩
  cases d1 with
  | true => rw [if_pos rfl] at h1 ⊢; exact Wp.ok h1 s1
  | false => rw [if_neg Bool.false_ne_true] at h1 ⊢; exact ⟨q1, e, S1, s1, re.fw f1, h1⟩
def xIf (t : XT) (x y : XE) : XE := fun F e => (t F e).bind fun b => if b = true then x F e else y F e
theorem de_if (hc : DT X W F c s) (ha : DE X W F a x) (hb : DE X W F b y) : DE X W F (.IfExp c a b pos) (xIf s x y) := by
  refine PE.imp (pe_ifExp hc ha hb) ?_
  rintro σ H Q ⟨p, e, S, sr, re, h⟩
  refine ⟨p, e, S, sr, re, h.bind.imp fun d1 S1 q1 H1 f1 s1 h1 => ?_⟩
  cases d1 with
  | true => rw [if_pos rfl] at h1 ⊢; exact ⟨q1, e, S1, s1, re.fw f1, h1⟩
  | false => rw [if_neg Bool.false_ne_true] at h1 ⊢; exact ⟨q1, e, S1, s1, re.fw f1, h1⟩
def xAn (x y : XE) : XE := fun F e => (x F e).bind fun d => (truD d).bind fun b => if b = true then y F e else M.pure d
def xOo (x y : XE) : XE := fun F e => (x F e).bind fun d => (truD d).bind fun b => if b = true then M.pure d else y F e
def xNo (x : XE) : XE := fun F e => (x F e).bind fun d => (truD d).bind fun b => M.pure (.bl (!b))
theorem de_one {op : BoolOp} (ha : DE X W F a x) : DE X W F (.BoolOp op [a] pos) x := pe_one ha
theorem de_and {rest : List Expr} (ha : DE X W F a x) (hb : DE X W F (.BoolOp .And (b :: rest) pos) y) : DE X W F (.BoolOp .And (a :: b :: rest) pos) (xAn x y) := by
  refine PE.imp (pe_andT ha hb) ?_
  rintro σ H Q ⟨p, e, S, sr, re, h⟩
  refine ⟨p, e, S, sr, re, h.bind.imp fun d1 S1 q1 H1 f1 s1 h1 v r1 => ?_⟩
  obtain ⟨k, e1, q⟩ := wp_ofO h1.bind s1
  refine ⟨k, truV_of s1 r1 e1, ?_⟩
  cases k with
  | true => rw [if_pos rfl] at q ⊢; exact ⟨q1, e, S1, s1, re.fw f1, q⟩
  | false => rw [if_neg Bool.false_ne_true] at q ⊢; exact Wp.ok q s1 v r1
theorem de_or {rest : List Expr} (ha : DE X W F a x) (hb : DE X W F (.BoolOp .Or (b :: rest) pos) y) : DE X W F (.BoolOp .Or (a :: b :: rest) pos) (xOo x y) := by
  refine PE.imp (pe_orT ha hb) ?_
  rintro σ H Q ⟨p, e, S, sr, re, h⟩
  refine ⟨p, e, S, sr, re, h.bind.imp fun d1 S1 q1 H1 f1 s1 h1 v r1 => ?_⟩
  obtain ⟨k, e1, q⟩ := wp_ofO h1.bind s1
  refine ⟨k, truV_of s1 r1 e1, ?_⟩
  cases k with
  | true => rw [if_pos rfl] at q ⊢; exact Wp.ok q s1 v r1
  | false => rw [if_neg Bool.false_ne_true] at q ⊢; exact ⟨q1, e, S1, s1, re.fw f1, q⟩
theorem de_not (ha : DE X W F a x) : DE X W F (.UnaryOp .Not a pos) (xNo x) := by
  refine PE.imp (pe_notT ha) ?_
  rintro σ H Q ⟨p, e, S, sr, re, h⟩
  refine ⟨p, e, S, sr, re, h.bind.imp fun d1 S1 q1 H1 f1 s1 h1 v r1 => ?_⟩
  obtain ⟨k, e1, q⟩ := wp_ofO h1.bind s1
  exact ⟨k, truV_of s1 r1 e1, Wp.ok q s1 _ rfl⟩
/-! ### one operand -/
def x1 (ev : D → M D) (x : XE) : XE := fun F e => (x F e).bind fun d => noX (ev d)
def r1 (K : PySem.W.Frag) (ev : D → M D) : V → Hp → VK → Prop := fun v H Q => ∃ p S d, SR K p S H ∧ Rep K p H d v ∧ ∃ E : XK, Wp K p H (ev d S) (vQ K Q) E ∧ ∀ c d H, ¬ E c d H
theorem t1_of {ev : D → M D} {σ : St} {H : Hp} {Q : VK} (h : tE X.K W F (x1 ev x) σ H Q) : tUn (r1 X.K ev) (tE X.K W F x) σ H Q := by
  obtain ⟨p, e, S, sr, re, h⟩ := h
  exact ⟨p, e, S, sr, re, h.bind.imp fun d1 S1 q1 H1 f1 s1 h1 v r1 => ⟨q1, S1, d1, s1, r1, noX_wp h1⟩⟩
def evNeg : D → M D := fun d => match d with
  | .int i => M.pure (.int (-i))
  | _ => stuck
theorem de_neg (ha : DE X W F a x) : DE X W F (.UnaryOp .USub a pos) (x1 evNeg x) := by
  refine PE.imp (pe_un un_neg ha) fun σ H Q h => ?_
  obtain ⟨p, e, S, sr, re, h⟩ := t1_of h
  refine ⟨p, e, S, sr, re, h.imp fun d S1 q1 H1 f1 s1 h1 v r1 => ?_⟩
  obtain ⟨p2, S2, d2, s2, r2, E, h2, _⟩ := h1 v r1
  cases d2 with
  | int i => exact ⟨i, r2, Wp.ok h2 s2 _ rfl⟩
  | _ => exact h2.elim
/-! ### subscripts -/
def evIx : E2 := fun d1 d2 S => match d2 with
  | .int i => (match d1 with
    | .str z => if z.length ≤ line then ofO ((atI z.cps.toList i).map fun c => D.str ⟨#[c]⟩) S else .bad
    | d => ofO ((seqOf d S).bind fun l => atI l i) S)
  | _ => .bad
theorem RepL.atI {K : PySem.W.Frag} {p : Wl} {H : Hp} {l : List D} {vs : List V} {i : Int} {d : D} (r : RepL K p H l vs) (h : L2.atI l i = some d) : ∃ v, L2.atI vs i = some v ∧ Rep K p H d v := by
  unfold L2.atI at h ⊢
  rw [r.length]
  obtain ⟨j, h1, h2⟩ := Option.bind_eq_some_iff.mp h
  obtain ⟨v, h3, h4⟩ := r.get h2
  exact ⟨v, by rw [h1]; exact h3, h4⟩
theorem ix_dn : IxR X (r2 X.K evIx) := by
  rintro value slice pins s σ H v w uv uw Q I rv rw' ⟨p, S, d1, d2, sr, h1, h2, E, h, hE⟩ hs
  cases d2 with
  | int i =>
    by_cases hstr : ∃ z, d1 = .str z
    · obtain ⟨z, rfl⟩ := hstr
      have h : Wp X.K p H (if z.length ≤ line then ofO ((L2.atI z.cps.toList i).map fun c => D.str ⟨#[c]⟩) S else .bad) (vQ X.K Q) E := h
      by_cases hz : z.length ≤ line
      · rw [if_pos hz] at h
        obtain ⟨d, e, q⟩ := wp_ofO h sr
        obtain ⟨c, e1, e2⟩ := Option.map_eq_some_iff.mp e
        subst e2
        exact ix_seq value slice pins s σ H v w uv uw Q I rv rw' (.inr (.inr ⟨z, i, c, h1, h2, by rw [line_eq]; exact hz, e1, q _ rfl⟩)) hs
      · rw [if_neg hz] at h; exact h.elim
    · have e0 : evIx d1 (.int i) S = ofO ((seqOf d1 S).bind fun l => L2.atI l i) S := by
        cases d1 with
        | str z => exact absurd ⟨z, rfl⟩ hstr
        | _ => rfl
      rw [e0] at h
      obtain ⟨d, e, q⟩ := wp_ofO h sr
      obtain ⟨l, e1, e2⟩ := Option.bind_eq_some_iff.mp e
      obtain ⟨a, vs, e3, g1, g2⟩ := h1.sq sr e1
      obtain ⟨u, g3, g4⟩ := g2.atI e2
      rcases g1 with g1 | g1
      · exact ix_seq value slice pins s σ H v w uv uw Q I rv rw' (.inl ⟨a, vs, i, u, e3, h2, g1, g3, q u g4⟩) hs
      · exact ix_seq value slice pins s σ H v w uv uw Q I rv rw' (.inr (.inl ⟨a, vs, i, u, e3, h2, g1, g3, q u g4⟩)) hs
  | _ => exact h.elim
theorem de_ix (ha : DE X W F a x) (hb : DE X W F b y) (hs : PlainIx b) : DE X W F (.Subscript a b pos) (x2 evIx x y) := PE.imp (pe_ix ix_dn ha hb hs) fun _ _ _ h => t2_of h
/-! ### slices -/
abbrev XO := Fns → Env → M (Option Int)
def xNoP : XO := fun _ _ => M.pure none
def toInt (d : D) : M Int := match d with
  | .int i => M.pure i
  | _ => stuck
def xPart (x : XE) : XO := fun F e => (x F e).bind fun d => (toInt d).bind fun i => M.pure (some i)
def tO (K : PySem.W.Frag) (W : WX) (F : Fns) (x : XO) : TO := fun σ H Q => ∃ p e S, SR K p S H ∧ RepE K p H e σ ∧ Wp K p H (x F e S) (fun i _ q H' => Q i H') (WE W σ)
abbrev DO (X : Cx) (W : WX) (F : Fns) (o : Option Expr) (x : XO) : Prop := PO X o (tO X.K W F x)
theorem PO.imp {X : Cx} {e : Option Expr} {t t' : TO} (h : PO X e t) (f : ∀ σ H Q, t' σ H Q → t σ H Q) : PO X e t' := ⟨fun pins s σ H Q I q => h.run pins s σ H Q I (f σ H Q q)⟩
theorem do_none : DO X W F none xNoP := by
  refine PO.imp po_none ?_
  rintro σ H Q ⟨p, e, S, sr, re, h⟩
  exact Wp.ok h sr
theorem do_some (ha : DE X W F a x) : DO X W F (some a) (xPart x) := by
  refine PO.imp (po_some ha) ?_
  rintro σ H Q ⟨p, e, S, sr, re, h⟩
  refine ⟨p, e, S, sr, re, h.bind.imp fun d1 S1 q1 H1 f1 s1 h1 v r1 => ?_⟩
  cases d1 with
  | int i => exact ⟨i, r1, Wp.ok h1 s1⟩
  | _ => exact h1.elim
def cutD {α : Type} (l : List α) (lo hi : Option Int) : List α := (l.drop (HT.sIx l.length 0 lo)).take (HT.sIx l.length l.length hi - HT.sIx l.length 0 lo)
def evCut (al : Bool) (d : D) (lo hi : Option Int) : M D := fun S => match d with
  | .str z => if z.length ≤ line then .ok (.str (cutS z lo hi)) S else .bad
  | .tup l => .ok (.tup (cutD l lo hi)) S
  | d => (match seqOf d S with
    | some l => mkL al (cutD l lo hi) S
    | none => .bad)
theorem RepL.drop {K : PySem.W.Frag} {p : Wl} {H : Hp} : ∀ {l : List D} {vs : List V} (n : Nat), RepL K p H l vs → RepL K p H (l.drop n) (vs.drop n)
  | _, _, 0, h => h
  | [], _, n + 1, h => by rw [show _ = [] from h]; rfl
  | d :: r, _, n + 1, h => by
    obtain ⟨v, ws, e, _, h2⟩ := h
    rw [e]
    exact RepL.drop n h2
theorem RepL.take {K : PySem.W.Frag} {p : Wl} {H : Hp} : ∀ {l : List D} {vs : List V} (n : Nat), RepL K p H l vs → RepL K p H (l.take n) (vs.take n)
  | _, _, 0, h => rfl
  | [], _, n + 1, h => by rw [show _ = [] from h]; rfl
  | d :: r, _, n + 1, h => by
    obtain ⟨v, ws, e, h1, h2⟩ := h
    rw [e]
    exact ⟨v, ws.take n, rfl, h1, RepL.take n h2⟩
theorem RepL.cut {K : PySem.W.Frag} {p : Wl} {H : Hp} {l : List D} {vs : List V} (r : RepL K p H l vs) (lo hi : Option Int) : RepL K p H (cutD l lo hi) (cutD vs lo hi) := by
  unfold cutD
  rw [r.length]
  exact (r.drop _).take _
def xCut (al : Bool) (x : XE) (lo hi : XO) : XE := fun F e => (x F e).bind fun d => (lo F e).bind fun l => (hi F e).bind fun h => evCut al d l h
theorem de_cut {al : Bool} {lo hi : Option Expr} {p2 : Pos} {xl xh : XO} (ha : DE X W F a x) (hl : DO X W F lo xl) (hh : DO X W F hi xh) : DE X W F (.Subscript a (.Slice lo hi none p2) pos) (xCut al x xl xh) := by
  refine PE.imp (pe_slice (SlR.or sl_list (SlR.or sl_tupA sl_str)) ha hl hh) ?_
  rintro σ H Q ⟨p, e, S, sr, re, h⟩
  refine ⟨p, e, S, sr, re, h.bind.imp fun d1 S1 q1 H1 f1 s1 h1 v r1 => ?_⟩
  refine ⟨q1, e, S1, s1, re.fw f1, h1.bind.imp fun l S2 q2 H2 f2 s2 h2 => ?_⟩
  refine ⟨q2, e, S2, s2, (re.fw f1).fw f2, h2.bind.imp fun u S3 q3 H3 f3 s3 h3 => ?_⟩
  have r3 := r1.fw (f2.trans f3)
  by_cases hstr : ∃ z, d1 = .str z
  · obtain ⟨z, rfl⟩ := hstr
    have h3 : Wp X.K q3 H3 (if z.length ≤ line then .ok (.str (cutS z l u)) S3 else .bad) (vQ X.K Q) (WE W σ) := h3
    by_cases hz : z.length ≤ line
    · rw [if_pos hz] at h3
      exact .inr (.inr ⟨z, r3, by rw [line_eq]; exact hz, Wp.ok h3 s3 _ rfl⟩)
    · rw [if_neg hz] at h3; exact h3.elim
  · by_cases htup : ∃ m, d1 = .tup m
    · obtain ⟨m, rfl⟩ := htup
      have h3 : Wp X.K q3 H3 (.ok (.tup (cutD m l u)) S3) (vQ X.K Q) (WE W σ) := h3
      obtain ⟨b, vs, e3, g1, g2⟩ := r3
      have gl := g2.length
      refine .inr (.inl ⟨b, vs, e3, g1, fun hall => ?_, fun _ c hc => ?_⟩)
      · have e4 : cutD m l u = m := by
          unfold cutD
          rw [← gl, hall.1, hall.2, gl]
          simp
        rw [e4] at h3
        exact Wp.ok h3 s3 _ ⟨b, vs, rfl, g1, g2⟩
      · have f : Fw q3 H3 q3 (upd H3 c (.tup (cutD vs l u))) := Fw.new hc
        exact h3 q3 _ f (s3.new hc) _ ⟨c, _, rfl, .inl (.inl upd_same), (g2.cut l u).fw f⟩
    · have e0 : evCut al d1 l u S3 = (match seqOf d1 S3 with
          | some l' => mkL al (cutD l' l u) S3
          | none => .bad) := by
        cases d1 with
        | str z => exact absurd ⟨z, rfl⟩ hstr
        | tup z => exact absurd ⟨z, rfl⟩ htup
        | _ => rfl
      rw [e0] at h3
      cases e1 : seqOf d1 S3 with
      | none => rw [e1] at h3; exact h3.elim
      | some m =>
        rw [e1] at h3
        obtain ⟨b, vs, e3, g1, g2⟩ := r3.seq s3 e1
        have hl : isL d1 = true := by
          cases d1 with
          | tup z => exact absurd ⟨z, rfl⟩ htup
          | _ => rfl
        rw [if_pos hl] at g1
        exact .inl ⟨b, vs, e3, g1, (wp_mk h3 s3 (g2.cut l u)).2⟩
end
end Dn

set_option Elab.async false
set_option linter.all false
set_option maxRecDepth 100000
set_option maxHeartbeats 2000000
namespace Dn
open PySem L2
/-! ### statements -/
inductive RS where
  | nx (e : Env) (S : Sto)
  | rt (d : D) (S : Sto)
  | bk (e : Env) (S : Sto)
  | ct (e : Env) (S : Sto)
  | exc (c : Str) (fs : List (Str × D)) (e : Env) (S : Sto)
  | bad
abbrev XS := Fns → Env → Sto → RS
def WpS (K : PySem.W.Frag) (p : Wl) (H : Hp) (r : RS) (N : Ends) (W : WX) : Prop :=
  match r with
  | .nx e S => ∀ q H' σ, Fw p H q H' → SR K q S H' → RepE K q H' e σ → N.nx σ H'
  | .rt d S => ∀ q H' v, Fw p H q H' → SR K q S H' → Rep K q H' d v → N.rt v H'
  | .bk e S => ∀ q H' σ, Fw p H q H' → SR K q S H' → RepE K q H' e σ → N.bk σ H'
  | .ct e S => ∀ q H' σ, Fw p H q H' → SR K q S H' → RepE K q H' e σ → N.ct σ H'
  | .exc c fs e S => ∀ q H' σ dx vs, Fw p H q H' → SR K q S H' → RepE K q H' e σ → H' dx = some (.xd vs) → dx ∉ q.s → RepF K q H' fs vs → W (.ref (He.ga K c)) (some dx) σ H'
  | .bad => False
def eS {α : Type} (m : M α) (e : Env) (f : α → Sto → RS) : Sto → RS := fun S => match m S with
  | .ok a S' => f a S'
  | .exc c fs S' => .exc c fs e S'
  | .bad => .bad
def tS (K : PySem.W.Frag) (W : WX) (F : Fns) (x : XS) : TS := fun N σ H => ∃ p e S, SR K p S H ∧ RepE K p H e σ ∧ WpS K p H (x F e S) N W
abbrev DS (X : Cx) (W : WX) (F : Fns) (s : Stmt) (x : XS) : Prop := PS X s (tS X.K W F x)
abbrev DSs (X : Cx) (W : WX) (F : Fns) (s : List Stmt) (x : XS) : Prop := PSs X s (tS X.K W F x)
section
variable {K : PySem.W.Frag} {p q : Wl} {H H' : Hp} {r : RS} {N N' : Ends} {W : WX} {S : Sto} {e : Env} {σ : St}
theorem WpS.later (h : WpS K p H r N W) (f : Fw p H q H') : WpS K q H' r N W := by
  cases r with
  | nx e S => exact fun q2 H2 s f2 => h q2 H2 s (f.trans f2)
  | rt e S => exact fun q2 H2 s f2 => h q2 H2 s (f.trans f2)
  | bk e S => exact fun q2 H2 s f2 => h q2 H2 s (f.trans f2)
  | ct e S => exact fun q2 H2 s f2 => h q2 H2 s (f.trans f2)
  | exc c fs e S => exact fun q2 H2 s dx vs f2 => h q2 H2 s dx vs (f.trans f2)
  | bad => exact h
theorem WpS.eS {α : Type} {m : M α} {f : α → Sto → RS} (h : WpS K p H (eS m e f S) N W) (re : RepE K p H e σ) : Wp K p H (m S) (fun a S' q H' => WpS K q H' (f a S') N W) (WE W σ) := by
  unfold Dn.eS at h
  cases e1 : m S with
  | ok a S' => rw [e1] at h; exact fun q2 H2 f2 _ => h.later f2
  | exc c fs S' => rw [e1] at h; exact fun q2 H2 dx vs f2 s2 => h q2 H2 σ dx vs f2 s2 (re.fw f2)
  | bad => rw [e1] at h; exact h
end
section
variable {X : Cx} {W : WX} {F : Fns} {pos : Pos} {a b c : Expr} {x y z : XE} {s t : XT} {st : Stmt} {rest : List Stmt} {u v : XS}
def sNil : XS := fun _ e S => .nx e S
def sSeq (u v : XS) : XS := fun F e S => match u F e S with
  | .nx e1 S1 => v F e1 S1
  | r => r
theorem dss_nil : DSs X W F [] sNil := by
  refine PSs.imp pss_nil ?_
  rintro N σ H ⟨p, e, S, sr, re, h⟩
  exact h p H σ (Fw.refl p H) sr re
theorem dss_cons (h1 : DS X W F st u) (h2 : DSs X W F rest v) : DSs X W F (st :: rest) (sSeq u v) := by
  refine PSs.imp (pss_cons h1 h2) ?_
  rintro N σ H ⟨p, e, S, sr, re, h⟩
  refine ⟨p, e, S, sr, re, ?_⟩
  unfold sSeq at h
  cases e1 : u F e S with
  | nx e1' S1 => rw [e1] at h; exact fun q H' σ' f s' r' => ⟨q, e1', S1, s', r', h.later f⟩
  | rt d S1 => rw [e1] at h; exact h
  | bk d S1 => rw [e1] at h; exact h
  | ct d S1 => rw [e1] at h; exact h
  | exc c fs d S1 => rw [e1] at h; exact h
  | bad => rw [e1] at h; exact h
theorem dss_one (h1 : DS X W F st u) : DSs X W F [st] u := pss_one h1
def sPass : XS := fun _ e S => .nx e S
def sBrk : XS := fun _ e S => .bk e S
def sCnt : XS := fun _ e S => .ct e S
def sNever : XS := fun _ _ _ => .bad
theorem ds_pass : DS X W F (.Pass pos) sPass := by
  refine PS.imp ps_pass ?_
  rintro N σ H ⟨p, e, S, sr, re, h⟩
  exact h p H σ (Fw.refl p H) sr re
theorem ds_brk : DS X W F (.Break pos) sBrk := by
  refine PS.imp ps_break ?_
  rintro N σ H ⟨p, e, S, sr, re, h⟩
  exact h p H σ (Fw.refl p H) sr re
theorem ds_cnt : DS X W F (.Continue pos) sCnt := by
  refine PS.imp ps_continue ?_
  rintro N σ H ⟨p, e, S, sr, re, h⟩
  exact h p H σ (Fw.refl p H) sr re
theorem ds_never : DS X W F st sNever := by
  refine PS.imp ps_never ?_
  rintro N σ H ⟨p, e, S, sr, re, h⟩
  exact h
def sRet (x : XE) : XS := fun F e => eS (x F e) e fun d S => .rt d S
theorem ds_ret (ha : DE X W F a x) : DS X W F (.Return (some a) pos) (sRet x) := by
  refine PS.imp (ps_ret ha) ?_
  rintro N σ H ⟨p, e, S, sr, re, h⟩
  exact ⟨p, e, S, sr, re, (h.eS re).imp fun d S1 q H' f s1 h1 v r => h1 q H' v (Fw.refl q H') s1 r⟩
def sRetN : XS := fun _ _ S => .rt .non S
theorem ds_retN : DS X W F (.Return none pos) sRetN := by
  refine PS.imp ps_retN ?_
  rintro N σ H ⟨p, e, S, sr, re, h⟩
  exact h p H .non (Fw.refl p H) sr rfl
def sIf (t : XT) (u v : XS) : XS := fun F e => eS (t F e) e fun b S => if b = true then u F e S else v F e S
theorem ds_if {sa sb : List Stmt} (hc : DT X W F c s) (ha : DSs X W F sa u) (hb : DSs X W F sb v) : DS X W F (.If c sa sb pos) (sIf s u v) := by
  refine PS.imp (ps_if hc ha hb) ?_
  rintro N σ H ⟨p, e, S, sr, re, h⟩
  refine ⟨p, e, S, sr, re, (h.eS re).imp fun d S1 q H' f s1 h1 => ?_⟩
  cases d with
  | true => rw [if_pos rfl] at h1 ⊢; exact ⟨q, e, S1, s1, re.fw f, h1⟩
  | false => rw [if_neg Bool.false_ne_true] at h1 ⊢; exact ⟨q, e, S1, s1, re.fw f, h1⟩
def sEx (x : XE) : XS := fun F e => eS (x F e) e fun _ S => .nx e S
theorem ds_ex (ha : DE X W F a x) (hs : swapsWith a none pos.line X.env = pure false) : DS X W F (.Expr a pos) (sEx x) := by
  refine PS.imp (ps_expr ha hs) ?_
  rintro N σ H ⟨p, e, S, sr, re, h⟩
  exact ⟨p, e, S, sr, re, (h.eS re).imp fun d S1 q H' f s1 h1 v r => h1 q H' σ (Fw.refl q H') s1 (re.fw f)⟩
/-! ### targets -/
abbrev XG := Fns → Env → D → M Env
abbrev XGs := Fns → Env → List D → M Env
/-- only these slots may change -/
def Sm (vs : Option (List Nat)) (σ σ' : St) : Prop := ∀ l, vs = some l → wipe σ' l = wipe σ l
theorem Sm.refl (vs : Option (List Nat)) (σ : St) : Sm vs σ σ := fun _ _ => rfl
theorem Sm.trans {vs : Option (List Nat)} {σ σ1 σ2 : St} (a : Sm vs σ σ1) (b : Sm vs σ1 σ2) : Sm vs σ σ2 := fun l e => (b l e).trans (a l e)
theorem wipe_get (σ : St) (j : Nat) : ∀ vs : List Nat, (wipe σ vs)[j]? = if j ∈ vs then (σ[j]?).map (fun _ => none) else σ[j]?
  | [] => by simp [wipe]
  | v :: vs => by
    unfold wipe
    by_cases h : v = j
    · subst h
      rw [if_pos List.mem_cons_self]
      by_cases hl : v < σ.length
      · rw [List.getElem?_set_self (by rw [wipe_length]; exact hl), List.getElem?_eq_getElem hl]; rfl
      · rw [List.getElem?_eq_none (by simp [wipe_length]; omega), List.getElem?_eq_none (by omega)]; rfl
    · rw [List.getElem?_set_ne h, wipe_get σ j vs]
      by_cases hm : j ∈ vs
      · rw [if_pos hm, if_pos (List.mem_cons_of_mem _ hm)]
      · rw [if_neg hm, if_neg (by simp [hm]; exact fun z => h z.symm)]
theorem wipe_set (σ : St) (x : Option V) (i : Nat) (vs : List Nat) (h : i ∈ vs) : wipe (σ.set i x) vs = wipe σ vs := by
  apply List.ext_getElem?
  intro j
  rw [wipe_get, wipe_get]
  by_cases hj : j ∈ vs
  · rw [if_pos hj, if_pos hj]
    by_cases hij : i = j
    · subst hij
      by_cases hl : i < σ.length
      · rw [List.getElem?_set_self hl, List.getElem?_eq_getElem hl]; rfl
      · rw [List.getElem?_eq_none (by simp; omega), List.getElem?_eq_none (by omega)]
    · rw [List.getElem?_set_ne hij]
  · rw [if_neg hj, if_neg hj, List.getElem?_set_ne (fun z : i = j => hj (by rw [← z]; exact h))]
def tG (K : PySem.W.Frag) (F : Fns) (vs : Option (List Nat)) (g : XG) : TG := fun v σ H Q => ∃ p e S d, SR K p S H ∧ RepE K p H e σ ∧ Rep K p H d v ∧ Wp K p H (g F e d S) (fun e' _ q H' => ∀ σ', RepE K q H' e' σ' → Sm vs σ σ' → Q σ' H') (fun _ _ _ => False)
def tGs (K : PySem.W.Frag) (F : Fns) (ws : Option (List Nat)) (g : XGs) : TGs := fun vs σ H Q => ∃ p e S ds, SR K p S H ∧ RepE K p H e σ ∧ RepL K p H ds vs ∧ Wp K p H (g F e ds S) (fun e' _ q H' => ∀ σ', RepE K q H' e' σ' → Sm ws σ σ' → Q σ' H') (fun _ _ _ => False)
abbrev DG (X : Cx) (F : Fns) (ws : Option (List Nat)) (e : Expr) (g : XG) : Prop := PG X e (tG X.K F ws g)
abbrev DGs (X : Cx) (F : Fns) (ws : Option (List Nat)) (es : List Expr) (g : XGs) : Prop := PGs X es (tGs X.K F ws g)
theorem PG.imp {X : Cx} {e : Expr} {t t' : TG} (h : PG X e t) (f : ∀ v σ H Q, t' v σ H Q → t v σ H Q) : PG X e t' := ⟨fun pins s σ H v u Q I r q => h.run pins s σ H v u Q I r (f v σ H Q q)⟩
theorem PGs.imp {X : Cx} {e : List Expr} {t t' : TGs} (h : PGs X e t) (f : ∀ v σ H Q, t' v σ H Q → t v σ H Q) : PGs X e t' := ⟨fun pins s σ H v u Q I r q => h.run pins s σ H v u Q I r (f v σ H Q q)⟩
def gNm (i : Nat) : XG := fun _ e d => M.pure (e.set i (some d))
theorem dg_nm {i : Nat} {n : Str} (hN : X.N.Nodup) (hi : X.N[i]? = some n) (hx : Loc X.env.scope n) (hf : X.fn n = true ∨ X.env.scope.names.lookup n = some .local) {ws : Option (List Nat)} (hv : ∀ l, ws = some l → i ∈ l) : DG X F ws (.Name n pos) (gNm i) := by
  refine PG.imp (pg_name hN hi hx hf) ?_
  rintro v σ H Q ⟨p, e, S, d, sr, re, r, h⟩
  exact Wp.ok h sr _ (re.set r i) fun l e => wipe_set _ _ _ _ (hv l e)
def gNl : XGs := fun _ e ds => match ds with
  | [] => M.pure e
  | _ => stuck
def gCn (g : XG) (gs : XGs) : XGs := fun F e ds => match ds with
  | d :: r => (g F e d).bind fun e' => gs F e' r
  | [] => stuck
theorem dgs_nil {ws : Option (List Nat)} : DGs X F ws [] gNl := by
  refine PGs.imp pgs_nil ?_
  rintro vs σ H Q ⟨p, e, S, ds, sr, re, r, h⟩
  cases ds with
  | nil => exact ⟨r, Wp.ok h sr σ re (Sm.refl _ _)⟩
  | cons d ds => exact h.elim
theorem dgs_cons {ws : Option (List Nat)} {es : List Expr} {g : XG} {gs : XGs} (h1 : DG X F ws a g) (h2 : DGs X F ws es gs) (hs : (assignEach (a :: es) X.env).map (·.2) = assign a X.env :: (assignEach es X.env).map (·.2)) : DGs X F ws (a :: es) (gCn g gs) := by
  refine PGs.imp (pgs_cons h1 h2 hs) ?_
  rintro vs σ H Q ⟨p, e, S, ds, sr, re, r, h⟩
  cases ds with
  | nil => exact h.elim
  | cons d ds =>
    obtain ⟨v, ws, e1, r1, r2⟩ := r
    refine ⟨v, ws, e1, p, e, S, d, sr, re, r1, (Wp.bind h).imp fun e' S1 q H' f s1 h1 σ' re' sm => ⟨q, e', S1, ds, s1, re', r2.fw f, h1.imp fun e2 S2 q2 H2 _ _ h2 σ2 re2 sm2 => h2 σ2 re2 (sm.trans sm2)⟩⟩
def gTp (n : Nat) (gs : XGs) : XG := fun F e d S => match seqOf d S with
  | some l => if l.length = n then gs F e l S else .bad
  | none => .bad
theorem dg_tup {ws : Option (List Nat)} {es : List Expr} {k n : Nat} {gs : XGs} (hc : X.calm = true) (h : DGs X F ws es gs) (hn : (assignEach es X.env).length = n) (hst : (assignEach es X.env).findIdx? (·.1) = none) : DG X F ws (.Tuple es k pos) (gTp n gs) := by
  have both : PG X (.Tuple es k pos) (fun v σ H Q => gTup X.K n (tGs X.K F ws gs) v σ H Q ∨ gUnl X.K n (tGs X.K F ws gs) v σ H Q) :=
    ⟨fun pins s σ H v u Q I r q => q.elim (fun q => (pg_tup hc h hn hst).run pins s σ H v u Q I r q) fun q => (pg_unl hc h hn hst).run pins s σ H v u Q I r q⟩
  refine PG.imp both ?_
  rintro v σ H Q ⟨p, e, S, d, sr, re, r, h⟩
  unfold gTp at h
  cases e1 : seqOf d S with
  | none => rw [e1] at h; exact h.elim
  | some l =>
    rw [e1] at h
    dsimp only at h
    by_cases hl : l.length = n
    · rw [if_pos hl] at h
      obtain ⟨a, vs, e2, g1, g2⟩ := r.sq sr e1
      rcases g1 with g1 | g1
      · exact .inr ⟨a, vs, e2, g1, by rw [g2.length, hl], p, e, S, l, sr, re, g2, h⟩
      · exact .inl ⟨a, vs, e2, g1, by rw [g2.length, hl], p, e, S, l, sr, re, g2, h⟩
    · rw [if_neg hl] at h; exact h.elim
/-- o[i] = v -/
def evSet (d1 d2 d3 : D) : M Unit := fun S => match d1, d2 with
  | .ref n, .int i => (match S[n]? with
    | some (.lst l) => (match ixN l.length i with
      | some j => .ok () (S.set n (.lst (l.set j d3)))
      | none => .bad)
    | _ => .bad)
  | _, _ => .bad
theorem RepL.set {K : PySem.W.Frag} {p : Wl} {H : Hp} {d : D} {v : V} (r : Rep K p H d v) : ∀ {l : List D} {vs : List V} (j : Nat), RepL K p H l vs → RepL K p H (l.set j d) (vs.set j v)
  | [], _, _, h => by rw [show _ = [] from h]; rfl
  | x :: l, _, 0, h => by
    obtain ⟨w, ws, e, h1, h2⟩ := h
    rw [e]
    exact ⟨v, ws, rfl, r, h2⟩
  | x :: l, _, j + 1, h => by
    obtain ⟨w, ws, e, h1, h2⟩ := h
    rw [e]
    exact ⟨w, ws.set j v, rfl, h1, RepL.set r j h2⟩
def gSb (x y : XE) : XG := fun F e d => (x F e).bind fun o => (y F e).bind fun i => (evSet o i d).bind fun _ => M.pure e
theorem dg_sub {ws : Option (List Nat)} (ha : PE X a (tE X.K (fun _ _ _ _ => False) F x)) (hb : PE X b (tE X.K (fun _ _ _ _ => False) F y))
    (has : ∀ v, assign (.Subscript a b pos) X.env v = (do
      let ov ← holding [v] (eval a X.env)
      let iv ← holding [v, ov] (eval b X.env)
      standAt pos
      holding [v, ov, iv] (setItem ov iv v)
      release [v, ov, iv] [])) : DG X F ws (.Subscript a b pos) (gSb x y) := by
  refine PG.imp (pg_sub ha hb set_list has) ?_
  rintro v σ H Q ⟨p, e, S, d, sr, re, r, h⟩
  refine ⟨p, e, S, sr, re, (Wp.bind h).imp fun o S1 q1 H1 f1 s1 h1 ov r1 => ?_⟩
  refine ⟨q1, e, S1, s1, re.fw f1, (Wp.bind h1).imp fun i S2 q2 H2 f2 s2 h2 iv r2 => ?_⟩
  have h3 := Wp.bind h2
  cases o with
  | ref n =>
    cases i with
    | int i =>
      unfold evSet at h3
      dsimp only at h3
      cases e1 : S2[n]? with
      | none => rw [e1] at h3; exact h3.elim
      | some ob =>
        rw [e1] at h3
        cases ob with
        | lst l =>
          dsimp only at h3
          cases e2 : ixN l.length i with
          | none => rw [e2] at h3; exact h3.elim
          | some j =>
            rw [e2] at h3
            obtain ⟨ao, ha1, e3⟩ := r1.fw f2
            obtain ⟨vs, g1, g2⟩ := s2.obj n ao _ ha1 e1
            refine ⟨ao, vs, i, j, e3, r2, g1, by rw [g2.length]; exact e2, ?_⟩
            have ha2 : ao ∈ q2.s := List.mem_of_getElem? ha1
            have f : Fw q2 H2 q2 (upd H2 ao (.lst (vs.set j v))) := Fw.put s2 ha2
            have rd := (r.fw (f1.trans f2)).fw f
            have s3 := s2.put ha1 (u := .lst (l.set j d)) (o := .lst (vs.set j v)) ⟨_, upd_same, RepL.set rd j (g2.fw f)⟩
            exact Wp.ok (h3 q2 _ f s3) s3 σ (((re.fw f1).fw f2).fw f) (Sm.refl _ _)
        | _ => exact h3.elim
    | _ => exact h3.elim
  | _ => exact h3.elim
/-! ### assignment -/
def sAsg (x : XE) (g : XG) : XS := fun F e => eS (x F e) e fun d S => match g F e d S with
  | .ok e' S' => .nx e' S'
  | _ => .bad
theorem asg_wp {g : XG} {σ : St} {H : Hp} {N : Ends} (h : tS X.K W F (sAsg x g) N σ H) : tAsg (tE X.K W F x) (tG X.K F none g) N σ H := by
  obtain ⟨p, e, S, sr, re, h⟩ := h
  refine ⟨p, e, S, sr, re, (h.eS re).imp fun d S1 q H' f s1 h1 v r => ?_⟩
  refine ⟨q, e, S1, d, s1, re.fw f, r, ?_⟩
  cases e1 : g F e d S1 with
  | ok e' S2 => rw [e1] at h1; exact fun q2 H2 f2 s2 σ' re' _ => h1 q2 H2 σ' f2 s2 re'
  | exc c fs S2 => rw [e1] at h1; exact h1.elim
  | bad => rw [e1] at h1; exact h1.elim
theorem ds_asg {tg : Expr} {g : XG} (ha : DE X W F a x) (hg : DG X F none tg g) (hs : swapsWithSole [tg] a pos.line X.env = pure false) (hw : swappedStores [tg] a X.env = pure none) (h1 : (assignEach [tg] X.env).map (·.2) = [assign tg X.env]) : DS X W F (.Assign [tg] a pos) (sAsg x g) :=
  PS.imp (ps_asg ha hg hs hw h1) fun N σ H h => asg_wp h
def sSet (i : Nat) (x : XE) : XS := fun F e => eS (x F e) e fun d S => .nx (e.set i (some d)) S
theorem set_wp {i : Nat} {σ : St} {H : Hp} {N : Ends} (h : tS X.K W F (sSet i x) N σ H) : tAsg (tE X.K W F x) (gName i) N σ H := by
  obtain ⟨p, e, S, sr, re, h⟩ := h
  exact ⟨p, e, S, sr, re, (h.eS re).imp fun d S1 q H' f s1 h1 v r => h1 q H' _ (Fw.refl q H') s1 ((re.fw f).set r i)⟩
theorem ds_set {i : Nat} {n : Str} {pos' : Pos} (hN : X.N.Nodup) (hi : X.N[i]? = some n) (hx : Loc X.env.scope n) (ha : DE X W F a x) (hs : swapsWith a (some (.Name n pos')) pos.line X.env = pure false) (hf : X.fn n = true ∨ X.env.scope.names.lookup n = some .local) :
    DS X W F (.Assign [.Name n pos'] a pos) (sSet i x) := PS.imp (ps_set hN hi hx ha hs hf) fun N σ H h => set_wp h
/-- a, b = x, y of plain local names -/
def sPar (is : List Nat) (xs : XEs) : XS := fun F e => eS (xs F e) e fun ds S => if ds.length = is.length then .nx ((is.zip ds).foldl (fun e p => e.set p.1 (some p.2)) e) S else .bad
theorem ds_par2 {i j : Nat} {n m : Str} {px py pt pt2 : Pos} {kt k2 : Nat} {xs : XEs} (hc : X.calm = true) (hN : X.N.Nodup) (hi : X.N[i]? = some n) (hj : X.N[j]? = some m) (hij : i ≠ j)
    (hx : X.env.scope.names.lookup n = some .local) (hy : X.env.scope.names.lookup m = some .local) (ha : DA X W F [a, b] xs)
    (hw : swappedStores [.Tuple [.Name n px, .Name m py] kt pt] (.Tuple [a, b] k2 pt2) X.env = pure (some [n, m])) :
    DS X W F (.Assign [.Tuple [.Name n px, .Name m py] kt pt] (.Tuple [a, b] k2 pt2) pos) (sPar [i, j] xs) := by
  refine PS.imp (ps_par hc hN hi hj hij hx hy ha hw) ?_
  rintro N σ H ⟨p, e, S, sr, re, h⟩
  refine ⟨p, e, S, sr, re, (h.eS re).imp fun ds S1 q H' f s1 h1 vs r => ?_⟩
  by_cases hl : ds.length = [i, j].length
  · rw [if_pos hl] at h1
    match ds, hl with
    | [d1, d2], _ =>
      obtain ⟨v1, w1, e1, r1, r2⟩ := r
      obtain ⟨v2, w2, e2, r2, r3⟩ := r2
      rw [show w2 = [] from r3] at e2
      exact ⟨v1, v2, by rw [e1, e2], h1 q H' _ (Fw.refl q H') s1 (((re.fw f).set r1 i).set r2 j)⟩
  · rw [if_neg hl] at h1; exact h1.elim
theorem ds_par3 {i j l : Nat} {n m k : Str} {px py pz pt pt2 : Pos} {kt k2 : Nat} {xs : XEs} (hc : X.calm = true) (hN : X.N.Nodup) (hi : X.N[i]? = some n) (hj : X.N[j]? = some m) (hl : X.N[l]? = some k) (hij : i ≠ j) (hil : i ≠ l) (hjl : j ≠ l)
    (hx : X.env.scope.names.lookup n = some .local) (hy : X.env.scope.names.lookup m = some .local) (hz : X.env.scope.names.lookup k = some .local) (ha : DA X W F [a, b, c] xs)
    (hw : swappedStores [.Tuple [.Name n px, .Name m py, .Name k pz] kt pt] (.Tuple [a, b, c] k2 pt2) X.env = pure (some [n, m, k])) :
    DS X W F (.Assign [.Tuple [.Name n px, .Name m py, .Name k pz] kt pt] (.Tuple [a, b, c] k2 pt2) pos) (sPar [i, j, l] xs) := by
  refine PS.imp (ps_par3 hc hN hi hj hl hij hil hjl hx hy hz ha hw) ?_
  rintro N σ H ⟨p, e, S, sr, re, h⟩
  refine ⟨p, e, S, sr, re, (h.eS re).imp fun ds S1 q H' f s1 h1 vs r => ?_⟩
  by_cases hl : ds.length = [i, j, l].length
  · rw [if_pos hl] at h1
    match ds, hl with
    | [d1, d2, d3], _ =>
      obtain ⟨v1, w1, e1, r1, r2⟩ := r
      obtain ⟨v2, w2, e2, r2, r3⟩ := r2
      obtain ⟨v3, w3, e3, r3, r4⟩ := r3
      rw [show w3 = [] from r4] at e3
      exact ⟨v1, v2, v3, by rw [e1, e2, e3], h1 q H' _ (Fw.refl q H') s1 ((((re.fw f).set r1 i).set r2 j).set r3 l)⟩
  · rw [if_neg hl] at h1; exact h1.elim
end
end Dn

set_option Elab.async false
set_option linter.all false
set_option maxRecDepth 100000
set_option maxHeartbeats 400000
namespace Dn
open PySem L2
/-! ### what a loop walks: the items, and the lists of the store that must stay as they are -/
abbrev Gd := List (Nat × List D)
def okG (gs : Gd) (S : Sto) : Bool := gs.all fun g => match S[g.1]? with
  | some (.lst l) => decide (l = g.2)
  | _ => false
abbrev XI := Fns → Env → M (List D × Gd)
structure Walk (K : PySem.W.Frag) (J : It) (its : List D) (gs : Gd) (p0 : Wl) (H0 : Hp) : Prop where
  go : ∀ (i : Nat) (p : Wl) (S : Sto) (H : Hp), Fw p0 H0 p H → SR K p S H → okG gs S = true → i < its.length → J.go i H
  yld : ∀ (i : Nat) (p : Wl) (S : Sto) (H : Hp) (x : V) (H' : Hp), Fw p0 H0 p H → SR K p S H → okG gs S = true → i < its.length → J.yld i H x H' → ∃ d, its[i]? = some d ∧ (H' = H ∨ ∃ a o, H a = none ∧ H' = upd H a (.tup o)) ∧ Rep K p H' d x
  stop : ∀ (p : Wl) (S : Sto) (H : Hp), Fw p0 H0 p H → SR K p S H → okG gs S = true → J.stop its.length H
/-- a step of a walk -/
theorem step_fw {p : Wl} {H H' : Hp} (h : H' = H ∨ ∃ a o, H a = none ∧ H' = upd H a (.tup o)) : Fw p H p H' := by
  rcases h with e | ⟨a, o, n, e⟩
  · rw [e]; exact Fw.refl p H
  · rw [e]; exact Fw.new n
theorem step_sr {K : PySem.W.Frag} {p : Wl} {S : Sto} {H H' : Hp} (s : SR K p S H) (h : H' = H ∨ ∃ a o, H a = none ∧ H' = upd H a (.tup o)) : SR K p S H' := by
  rcases h with e | ⟨a, o, n, e⟩
  · rw [e]; exact s
  · rw [e]; exact s.new n
def tI (K : PySem.W.Frag) (W : WX) (F : Fns) (x : XI) : TI := fun σ H R => ∃ p e S, SR K p S H ∧ RepE K p H e σ ∧ Wp K p H (x F e S) (fun ig _ q H' => ∀ J, Walk K J ig.1 ig.2 q H' → R J H') (WE W σ)
abbrev DI (X : Cx) (W : WX) (F : Fns) (tg it : Expr) (x : XI) : Prop := PI X tg it (tI X.K W F x)
theorem PI.imp {X : Cx} {tg e : Expr} {t t' : TI} (h : PI X tg e t) (f : ∀ σ H Q, t' σ H Q → t σ H Q) : PI X tg e t' := ⟨fun pins s σ H Q I q => h.run pins s σ H Q I (f σ H Q q)⟩
theorem PI.or {X : Cx} {tg e : Expr} {t t' : TI} (h : PI X tg e t) (h' : PI X tg e t') : PI X tg e (fun σ H Q => t σ H Q ∨ t' σ H Q) := ⟨fun pins s σ H Q I q => q.elim (fun q => h.run pins s σ H Q I q) fun q => h'.run pins s σ H Q I q⟩
/-! ### for -/
def loopF (F : Fns) (body : XS) (g : XG) (gs : Gd) : List D → Env → Sto → RS
  | [], e, S => if okG gs S = true then .nx e S else .bad
  | d :: r, e, S => if okG gs S = true then (match g F e d S with
    | .ok e1 S1 => (match body F e1 S1 with
      | .nx e2 S2 => loopF F body g gs r e2 S2
      | .ct e2 S2 => loopF F body g gs r e2 S2
      | .bk e2 S2 => .nx e2 S2
      | .rt d S2 => .rt d S2
      | .exc c fs e2 S2 => .exc c fs e2 S2
      | .bad => .bad)
    | _ => .bad) else .bad
def sFor (it : XI) (g : XG) (body : XS) : XS := fun F e => eS (it F e) e fun ig S => loopF F body g ig.2 ig.1 e S
section
variable {X : Cx} {W : WX} {F : Fns} {pos : Pos} {a b c : Expr} {x y z : XE} {s t : XT} {u v : XS}
theorem for_wp {it : XI} {g : XG} {body : XS} {σ : St} {H : Hp} {N : Ends} (h : tS X.K W F (sFor it g body) N σ H) : tFor (tI X.K W F it) (tG X.K F none g) (tS X.K W F body) N σ H := by
  obtain ⟨p, e, S, sr, re, h⟩ := h
  refine ⟨p, e, S, sr, re, (h.eS re).imp ?_⟩
  rintro ⟨its, gs⟩ S1 q0 H0 f0 s0 h0 J wk
  refine ⟨fun i m σ H => m = its.length - i ∧ i ≤ its.length ∧ ∃ p e S, Fw q0 H0 p H ∧ SR X.K p S H ∧ RepE X.K p H e σ ∧ WpS X.K p H (loopF F body g gs (its.drop i) e S) N W,
    ⟨_, rfl, Nat.zero_le _, q0, e, S1, Fw.refl _ _, s0, re.fw f0, h0⟩, ?_⟩
  rintro i m σ1 H1 ⟨rfl, hi, p1, e1, S2, f1, s1, re1, h1⟩
  by_cases hlt : i < its.length
  · rw [List.drop_eq_getElem_cons hlt] at h1
    unfold loopF at h1
    by_cases hg : okG gs S2 = true
    · rw [if_pos hg] at h1
      refine .inr ⟨wk.go i p1 S2 H1 f1 s1 hg hlt, fun σ' H' => ∃ p e S, Fw q0 H0 p H' ∧ SR X.K p S H' ∧ RepE X.K p H' e σ' ∧ WpS X.K p H' (loopF F body g gs (its.drop (i + 1)) e S) N W,
        fun σ' H' hN => ⟨_, by omega, rfl, hlt, hN⟩, fun x H2 hy => ?_⟩
      obtain ⟨d, ed, hs2, rd⟩ := wk.yld i p1 S2 H1 x H2 f1 s1 hg hlt hy
      have f2 : Fw p1 H1 p1 H2 := step_fw hs2
      have s2 := step_sr s1 hs2
      rw [List.getElem?_eq_getElem hlt] at ed
      rw [Option.some.inj ed] at h1
      refine ⟨p1, e1, S2, d, s2, re1.fw f2, rd, ?_⟩
      cases eg : g F e1 d S2 with
      | ok e3 S3 =>
        rw [eg] at h1
        dsimp only at h1
        intro q3 H3 f3 s3 σ3 re3 _
        refine ⟨q3, e3, S3, s3, re3, ?_⟩
        have h4 := h1.later (f2.trans f3)
        cases eb : body F e3 S3 with
        | nx e4 S4 => rw [eb] at h4; exact fun q4 H4 σ4 f4 s4 r4 => ⟨q4, e4, S4, ((f1.trans f2).trans f3).trans f4, s4, r4, h4.later f4⟩
        | ct e4 S4 => rw [eb] at h4; exact fun q4 H4 σ4 f4 s4 r4 => ⟨q4, e4, S4, ((f1.trans f2).trans f3).trans f4, s4, r4, h4.later f4⟩
        | bk e4 S4 => rw [eb] at h4; exact h4
        | rt d4 S4 => rw [eb] at h4; exact h4
        | exc c fs e4 S4 => rw [eb] at h4; exact h4
        | bad => rw [eb] at h4; exact h4
      | exc c fs S3 => rw [eg] at h1; exact h1.elim
      | bad => rw [eg] at h1; exact h1.elim
    · rw [if_neg hg] at h1; exact h1.elim
  · have ei : i = its.length := by omega
    subst ei
    rw [List.drop_length] at h1
    unfold loopF at h1
    by_cases hg : okG gs S2 = true
    · rw [if_pos hg] at h1
      exact .inl ⟨wk.stop p1 S2 H1 f1 s1 hg, h1 p1 H1 σ1 (Fw.refl _ _) s1 re1⟩
    · rw [if_neg hg] at h1; exact h1.elim
theorem ds_for {tg iter : Expr} {body : List Stmt} {it : XI} {g : XG} (hp : PassesOwn (model X.prog X.w) X.A X.env X.xe) (hc : X.calm = true) (hi : DI X W F tg iter it) (hg : DG X F none tg g) (hb : DSs X W F body u) (hs : ∀ x, foldedSetIterable iter X.env x = pure x) :
    DS X W F (.For tg iter body [] pos) (sFor it g u) := PS.imp (ps_for hp hc hi hg hb hs) fun N σ H h => for_wp h
/-! ### while -/
def loopW (F : Fns) (t : XT) (body : XS) : Nat → Env → Sto → RS
  | 0, _, _ => .bad
  | n + 1, e, S => eS (t F e) e (fun b S1 => if b = true then (match body F e S1 with
      | .nx e2 S2 => loopW F t body n e2 S2
      | .ct e2 S2 => loopW F t body n e2 S2
      | .bk e2 S2 => .nx e2 S2
      | .rt d S2 => .rt d S2
      | .exc c fs e2 S2 => .exc c fs e2 S2
      | .bad => .bad) else .nx e S1) S
def fuelW : Nat := 1000000
def sWhile (t : XT) (body : XS) : XS := fun F e S => loopW F t body fuelW e S
theorem while_wp {body : XS} {σ : St} {H : Hp} {N : Ends} (h : tS X.K W F (sWhile s body) N σ H) : tWhile (tT X.K W F s) (tS X.K W F body) N σ H := by
  obtain ⟨p, e, S, sr, re, h⟩ := h
  refine ⟨fun m σ H => ∃ p e S, SR X.K p S H ∧ RepE X.K p H e σ ∧ WpS X.K p H (loopW F s body m e S) N W, ⟨fuelW, p, e, S, sr, re, h⟩, ?_⟩
  rintro m σ1 H1 ⟨p1, e1, S1, s1, re1, h1⟩
  cases m with
  | zero => exact h1.elim
  | succ n =>
    have h1 : WpS X.K p1 H1 (eS (s F e1) e1 (fun b S1 => if b = true then (match body F e1 S1 with
      | .nx e2 S2 => loopW F s body n e2 S2
      | .ct e2 S2 => loopW F s body n e2 S2
      | .bk e2 S2 => .nx e2 S2
      | .rt d S2 => .rt d S2
      | .exc c fs e2 S2 => .exc c fs e2 S2
      | .bad => .bad) else .nx e1 S1) S1) N W := h1
    refine ⟨p1, e1, S1, s1, re1, (h1.eS re1).imp fun b S2 q H2 f2 s2 h2 => ?_⟩
    cases b with
    | true =>
      rw [if_pos rfl] at h2 ⊢
      refine ⟨fun σ' H' => ∃ p e S, SR X.K p S H' ∧ RepE X.K p H' e σ' ∧ WpS X.K p H' (loopW F s body n e S) N W, fun σ' H' hN => ⟨n, Nat.lt_succ_self n, hN⟩, q, e1, S2, s2, re1.fw f2, ?_⟩
      cases eb : body F e1 S2 with
      | nx e4 S4 => rw [eb] at h2; exact fun q4 H4 σ4 f4 s4 r4 => ⟨q4, e4, S4, s4, r4, h2.later f4⟩
      | ct e4 S4 => rw [eb] at h2; exact fun q4 H4 σ4 f4 s4 r4 => ⟨q4, e4, S4, s4, r4, h2.later f4⟩
      | bk e4 S4 => rw [eb] at h2; exact h2
      | rt d4 S4 => rw [eb] at h2; exact h2
      | exc c fs e4 S4 => rw [eb] at h2; exact h2
      | bad => rw [eb] at h2; exact h2
    | false =>
      rw [if_neg Bool.false_ne_true] at h2 ⊢
      exact h2 q H2 σ1 (Fw.refl _ _) s2 (re1.fw f2)
theorem ds_while {body : List Stmt} (hp : PassesOwn (model X.prog X.w) X.A X.env X.xe) (hc : DT X W F c s) (hb : DSs X W F body u) : DS X W F (.While c body [] pos) (sWhile s u) :=
  PS.imp (ps_while hp hc hb) fun N σ H h => while_wp h
/-! ### comprehensions -/
def wipeE (e : Env) : List Nat → Env
  | [] => e
  | v :: vs => (wipeE e vs).set v none
theorem RepE.wipe {K : PySem.W.Frag} {p : Wl} {H : Hp} {e : Env} {σ : St} (r : RepE K p H e σ) : ∀ vs : List Nat, RepE K p H (wipeE e vs) (wipe σ vs)
  | [] => r
  | v :: vs => by
    have ih := RepE.wipe r vs
    refine ⟨by simp only [L2.wipe, wipeE, List.length_set]; exact ih.1, fun i d h => ?_⟩
    unfold wipeE at h
    unfold L2.wipe
    by_cases hv : v = i
    · subst hv
      by_cases hl : v < (wipeE e vs).length
      · rw [List.getElem?_set_self hl] at h; cases h
      · rw [List.getElem?_eq_none (by simpa using hl)] at h; cases h
    · rw [List.getElem?_set_ne hv] at h ⊢
      exact ih.2 i d h
def loopC (F : Fns) (g : XG) (t : XT) (x : XE) (gs : Gd) (e : Env) : List D → List D → M (List D)
  | [], acc, S => if okG gs S = true then .ok acc S else .bad
  | d :: r, acc, S => if okG gs S = true then (match g F e d S with
    | .ok e1 S1 => (match t F e1 S1 with
      | .ok true S2 => (match x F e1 S2 with
        | .ok y S3 => if acc.length < line then loopC F g t x gs e r (acc ++ [y]) S3 else .bad
        | _ => .bad)
      | .ok false S2 => loopC F g t x gs e r acc S2
      | _ => .bad)
    | _ => .bad) else .bad
def xComp (al : Bool) (it : XI) (g : XG) (t : XT) (x : XE) (vs : List Nat) : XE := fun F e => (it F e).bind fun ig => (loopC F g t x ig.2 (wipeE e vs) ig.1 []).bind (mkL al)
abbrev noW : WX := fun _ _ _ _ => False
theorem wipe_wipe (σ : St) (vs : List Nat) : L2.wipe (L2.wipe σ vs) vs = L2.wipe σ vs := by
  apply List.ext_getElem?
  intro j
  rw [wipe_get, wipe_get]
  by_cases hj : j ∈ vs
  · simp only [if_pos hj]
    cases σ[j]? <;> rfl
  · simp only [if_neg hj]
theorem RepE.grown {K : PySem.W.Frag} {p : Wl} {H : Hp} {a : Addr} {xs : List V} {o : HO} {e : Env} {σ : St} (ha : a ∈ p.z) (e0 : H a = some (.lst xs)) (r : RepE K p H e σ) : RepE K p (upd H a o) e σ := ⟨r.1, fun i d h => let ⟨v, h1, h2⟩ := r.2 i d h; ⟨v, h1, h2.grown ha e0⟩⟩
theorem comp_wp {al : Bool} {it : XI} {g : XG} {vs : List Nat} {σ : St} {H : Hp} {Q : VK} (h : tE X.K W F (xComp al it g t x vs) σ H Q) :
    tLc (tI X.K W F it) (tG X.K F (some vs) g) (tT X.K noW F t) (tE X.K noW F x) vs σ H Q := by
  obtain ⟨p, e, S, sr, re, h⟩ := h
  refine ⟨p, e, S, sr, re, h.bind.imp ?_⟩
  rintro ⟨its, gs⟩ S1 q0 H0 f0 s0 h0 J wk A hA
  have re0 := (re.fw f0).wipe vs
  let Iv : Nat → Hp → Prop := fun i H => ∃ q S acc ws, Fw q0 H0 q H ∧ A ∈ q.z ∧ SR X.K q S H ∧ RepE X.K q H (wipeE e vs) (L2.wipe σ vs) ∧ H A = some (.lst ws) ∧ RepL X.K q H acc ws ∧ acc.length ≤ line ∧
      Wp X.K q0 H0 ((loopC F g t x gs (wipeE e vs) (its.drop i) acc).bind (mkL al) S) (vQ X.K Q) (WE W σ)
  refine ⟨fun i m H => m = its.length - i ∧ i ≤ its.length ∧ Iv i H, ⟨_, rfl, Nat.zero_le _, q0.hold A, S1, [], [], Fw.hold hA, List.mem_cons_self, s0.hold hA, re0.fw (Fw.hold hA), upd_same, rfl, Nat.zero_le _, h0⟩, ?_⟩
  rintro i m H1 ⟨rfl, hi, q1, S2, acc, ws, f1, hz1, s1, re1, hw, ra, hl, h1⟩
  by_cases hlt : i < its.length
  · rw [List.drop_eq_getElem_cons hlt] at h1
    by_cases hg : okG gs S2 = true
    · refine .inr ⟨wk.go i q1 S2 H1 f1 s1 hg hlt, Iv (i + 1), fun H' hN => ⟨_, by omega, rfl, hlt, hN⟩, fun v H2 hy => ?_⟩
      obtain ⟨d, ed, hs2, rd⟩ := wk.yld i q1 S2 H1 v H2 f1 s1 hg hlt hy
      have f2 : Fw q1 H1 q1 H2 := step_fw hs2
      have s2 := step_sr s1 hs2
      have hw2 : H2 A = some (.lst ws) := (f2.keep A _ hw (fun _ z => nomatch z) (s1.zt A hz1).1).1
      rw [List.getElem?_eq_getElem hlt] at ed
      rw [Option.some.inj ed] at h1
      have h2 := h1
      refine ⟨q1, wipeE e vs, S2, d, s2, re1.fw f2, rd, ?_⟩
      unfold M.bind loopC at h2
      rw [if_pos hg] at h2
      cases eg : g F (wipeE e vs) d S2 with
      | exc c fs S3 => rw [eg] at h2; exact h2.elim
      | bad => rw [eg] at h2; exact h2.elim
      | ok e3 S3 =>
        rw [eg] at h2
        dsimp only at h2
        intro q3 H3 f3 s3 σ3 re3 sm3
        refine ⟨by have := sm3 vs rfl; rw [this]; exact wipe_wipe σ vs, q3, e3, S3, s3, re3, ?_⟩
        cases et : t F e3 S3 with
        | exc c fs S4 => rw [et] at h2; exact h2.elim
        | bad => rw [et] at h2; exact h2.elim
        | ok bb S4 =>
          rw [et] at h2
          intro q4 H4 f4 s4
          have f14 : Fw q1 H1 q4 H4 := (f2.trans f3).trans f4
          cases bb with
          | false =>
            show if false = true then _ else _
            rw [if_neg Bool.false_ne_true]
            dsimp only at h2
            have hw4 := (f14.keep A _ hw (fun _ z => nomatch z) (s1.zt A hz1).1).1
            refine ⟨q4, S4, acc, ws, f1.trans f14, f14.zz A hz1, s4, re1.fw f14, hw4, ra.fw f14, hl, ?_⟩
            exact h2
          | true =>
            show if true = true then _ else _
            rw [if_pos rfl]
            refine ⟨q4, e3, S4, s4, re3.fw f4, ?_⟩
            dsimp only at h2
            cases ex : x F e3 S4 with
            | exc c fs S5 => rw [ex] at h2; exact h2.elim
            | bad => rw [ex] at h2; exact h2.elim
            | ok y S5 =>
              rw [ex] at h2
              dsimp only at h2
              intro q5 H5 f5 s5 yv ry
              have f15 : Fw q1 H1 q5 H5 := f14.trans f5
              have hz5 := f15.zz A hz1
              have hw5 := (f15.keep A _ hw (fun _ z => nomatch z) (s1.zt A hz1).1).1
              by_cases hl2 : acc.length < line
              · rw [if_pos hl2] at h2
                refine ⟨ws, hw5, by rw [line_eq, ra.length]; exact hl2, q5, S5, acc ++ [y], ws ++ [yv], (f1.trans f15).out hA, hz5, s5.grown hz5 hw5, (re1.fw f15).grown hz5 hw5, upd_same, ((ra.fw f15).append (RepL.one ry)).grown hz5 hw5, by simp; omega, ?_⟩
                exact h2
              · rw [if_neg hl2] at h2; exact h2.elim
    · unfold M.bind loopC at h1
      rw [if_neg hg] at h1
      exact h1.elim
  · have ei : i = its.length := by omega
    subst ei
    rw [List.drop_length] at h1
    unfold M.bind loopC at h1
    by_cases hg : okG gs S2 = true
    · rw [if_pos hg] at h1
      refine .inl ⟨wk.stop q1 S2 H1 f1 s1 hg, ?_⟩
      have h1 : Wp X.K q0 H0 (mkL al acc S2) (vQ X.K Q) (WE W σ) := h1
      unfold mkL at h1
      rw [if_pos hl] at h1
      have nz : A ∉ q0.z := fun z => by
        obtain ⟨_, xs, e2⟩ := s0.zt A z
        rw [hA] at e2
        cases e2
      cases al with
      | true =>
        refine h1 ⟨q1.s ++ [A], q0.z⟩ H1 (f1.into hA) (s1.move hz1 f1.zz nz hw ra) (.ref A) ⟨A, ?_, rfl⟩
        show (q1.s ++ [A])[S2.length]? = some A
        rw [← s1.len, List.getElem?_append_right (Nat.le_refl _)]
        simp
      | false => exact h1 ⟨q1.s, q0.z⟩ H1 f1.less (s1.less f1.zz) (.ref A) ⟨A, ws, rfl, hw, (s1.zt A hz1).1, nz, ra.less f1.zz⟩
    · rw [if_neg hg] at h1
      exact h1.elim
theorem de_comp {al : Bool} {elt tg iter : Expr} {ifs : List Expr} {scope : Scope} {own : List (Str × Nat)} {it : XI} {g : XG} (hc : X.calm = true) (hN : X.N.Nodup) (hi : DI X W F tg iter it) (ok : BlkOk X.N X.env.scope scope own)
    (hg : ∀ (s : Shared) (H : Hp) (C : Addr) (cl : List (Str × Addr)) (fp : List Addr), DG (X.blk s H scope (compEnvC scope cl C X.env) fp) F (some (own.map (·.2))) tg g)
    (ht : ∀ (s : Shared) (H : Hp) (C : Addr) (cl : List (Str × Addr)) (fp : List Addr), PTs (X.blk s H scope (compEnvC scope cl C X.env) fp) ifs (tT X.K noW F t))
    (he : ∀ (s : Shared) (H : Hp) (C : Addr) (cl : List (Str × Addr)) (fp : List Addr), DE (X.blk s H scope (compEnvC scope cl C X.env) fp) noW F elt x) (hs : ∀ x, foldedSetIterable iter X.env x = pure x) :
    DE X W F (.ListComp elt [⟨tg, iter, ifs, 0⟩] scope pos) (xComp al it g t x (own.map (·.2))) := PE.imp (pe_lc hc hN hi ok hg ht he hs) fun σ H Q h => comp_wp h
theorem ds_setComp {al : Bool} {i : Nat} {n : Str} {py spos : Pos} {elt tg iter : Expr} {ifs : List Expr} {scope : Scope} {own : List (Str × Nat)} {it : XI} {g : XG} (hc : X.calm = true) (hN : X.N.Nodup) (hy : X.N[i]? = some n) (hyl : X.env.scope.names.lookup n = some .local)
    (hsw : swapsWith (.ListComp elt [⟨tg, iter, ifs, 0⟩] scope pos) (some (.Name n py)) spos.line X.env = pure true) (hi : DI X W F tg iter it) (ok : BlkOk X.N X.env.scope scope own)
    (hg : ∀ (s : Shared) (H : Hp) (C : Addr) (cl : List (Str × Addr)) (fp : List Addr), DG (X.blk s H scope (compEnvC scope cl C X.env) fp) F (some (own.map (·.2))) tg g)
    (ht : ∀ (s : Shared) (H : Hp) (C : Addr) (cl : List (Str × Addr)) (fp : List Addr), PTs (X.blk s H scope (compEnvC scope cl C X.env) fp) ifs (tT X.K noW F t))
    (he : ∀ (s : Shared) (H : Hp) (C : Addr) (cl : List (Str × Addr)) (fp : List Addr), DE (X.blk s H scope (compEnvC scope cl C X.env) fp) noW F elt x) (hs : ∀ x, foldedSetIterable iter X.env x = pure x) :
    DS X W F (.Assign [.Name n py] (.ListComp elt [⟨tg, iter, ifs, 0⟩] scope pos) spos) (sSet i (xComp al it g t x (own.map (·.2)))) :=
  PS.imp (ps_setLc hc hN hy hyl hsw hi ok hg ht he hs) fun N σ H h => by
    obtain ⟨p, e, S, sr, re, h⟩ := set_wp h
    exact comp_wp ⟨p, e, S, sr, re, h⟩
def tYs : XT := fun _ _ => M.pure true
theorem dts_nil : PTs X [] (tT X.K W F tYs) := ⟨fun pins s σ H Q I ⟨p, e, S, sr, re, h⟩ => pts_nil.run pins s σ H Q I (Wp.ok h sr)⟩
theorem dts_one (h : DT X W F c t) : PTs X [c] (tT X.K W F t) := pts_one h
/-! ### iterators -/
def seqIt (d : D) (S : Sto) : Option (List D × Gd) := match d with
  | .str z => some (z.cps.toList.map fun c => .str ⟨#[c]⟩, [])
  | .ref n => (match S[n]? with
    | some (.lst l) => some (l, [(n, l)])
    | _ => none)
  | d => (seqOf d S).map fun l => (l, [])
def itSeq (x : XE) : XI := fun F e => (x F e).bind fun d S => ofO (seqIt d S) S
theorem seqIt_ok {d : D} {S1 : Sto} {l : List D} {gs : Gd} (h : seqIt d S1 = some (l, gs)) (hs : ∀ z, d ≠ .str z) : okG gs S1 = true ∧ ∀ S, okG gs S = true → seqOf d S = some l := by
  have other : (∀ S, seqOf d S = seqOf d S1) → (seqOf d S1).map (fun l => (l, ([] : Gd))) = some (l, gs) → okG gs S1 = true ∧ ∀ S, okG gs S = true → seqOf d S = some l := fun h1 h2 => by
    obtain ⟨m, hm, e⟩ := Option.map_eq_some_iff.mp h2
    cases e
    exact ⟨rfl, fun S _ => (h1 S).trans hm⟩
  cases d with
  | str z => exact absurd rfl (hs z)
  | ref n =>
    have h : (match S1[n]? with
      | some (.lst l) => some (l, [(n, l)])
      | _ => none) = some (l, gs) := h
    cases q : S1[n]? with
    | none => rw [q] at h; cases h
    | some o =>
      rw [q] at h
      cases o with
      | lst m =>
        cases h
        have ok : ∀ S : Sto, okG [(n, l)] S = true → S[n]? = some (.lst l) := fun S h => by
          unfold okG at h
          simp only [List.all_cons, List.all_nil, Bool.and_true] at h
          split at h
          · rename_i m e
            rw [e, of_decide_eq_true h]
          · cases h
        refine ⟨?_, fun S hg => ?_⟩
        · unfold okG
          simp [q]
        · show (match S[n]? with
            | some (.lst l) => some l
            | _ => none) = some l
          rw [ok S hg]
      | dK m => cases h
      | ins c fs => cases h
  | tup m => exact other (fun _ => rfl) h
  | tmp m => exact other (fun _ => rfl) h
  | scr m => exact other (fun _ => rfl) h
  | non => cases h
  | bl b => cases h
  | int i => cases h
  | ty n => cases h
  | gl n => cases h
/-- a list, a tuple that stays: as it is read at each turn -/
theorem walk_seq {K : PySem.W.Frag} {d : D} {v : V} {l : List D} {gs : Gd} {p0 : Wl} {S0 : Sto} {H0 : Hp} (s0 : SR K p0 S0 H0) (r : Rep K p0 H0 d v) (hS : ∀ p S H, Fw p0 H0 p H → SR K p S H → okG gs S = true → seqOf d S = some l) (h0 : okG gs S0 = true) :
    ∃ a, v = .ref a ∧ (if isL d = true then (∃ xs, SqL K H0 a xs) ∧ Walk K (Itl K a) l gs p0 H0 else (∃ xs, SqT K H0 a xs) ∧ Walk K (Itt K a) l gs p0 H0) := by
  obtain ⟨a, vs, e, h1, h2⟩ := r.seq s0 (hS p0 S0 H0 (Fw.refl _ _) s0 h0)
  refine ⟨a, e, ?_⟩
  have at_ : ∀ p S H, Fw p0 H0 p H → SR K p S H → okG gs S = true → ∃ ws, (if isL d = true then SqL K H a ws else SqT K H a ws) ∧ RepL K p H l ws := fun p S H f s hg => by
    obtain ⟨b, ws, e2, g1, g2⟩ := (r.fw f).seq s (hS p S H f s hg)
    rw [e] at e2
    cases e2
    exact ⟨ws, g1, g2⟩
  by_cases q : isL d = true
  · rw [if_pos q] at h1 ⊢
    refine ⟨⟨vs, h1⟩, ⟨fun i p S H f s hg hi => ?_, fun i p S H x H' f s hg hi hy => ?_, fun p S H f s hg => ?_⟩⟩
    · obtain ⟨ws, g1, g2⟩ := at_ p S H f s hg
      rw [if_pos q] at g1
      exact ⟨ws, ws[i]'(by rw [g2.length]; exact hi), g1, List.getElem?_eq_getElem _⟩
    · obtain ⟨ws, g1, g2⟩ := at_ p S H f s hg
      rw [if_pos q] at g1
      obtain ⟨eH, hx⟩ := hy
      subst eH
      obtain ⟨w, g3, g4⟩ := g2.get (List.getElem?_eq_getElem hi)
      have := (hx ws g1).symm.trans g3
      cases this
      exact ⟨l[i], List.getElem?_eq_getElem hi, .inl rfl, g4⟩
    · obtain ⟨ws, g1, g2⟩ := at_ p S H f s hg
      rw [if_pos q] at g1
      exact ⟨ws, g1, by rw [g2.length]; exact Nat.le_refl _⟩
  · rw [if_neg q] at h1 ⊢
    refine ⟨⟨vs, h1⟩, ⟨fun i p S H f s hg hi => ?_, fun i p S H x H' f s hg hi hy => ?_, fun p S H f s hg => ?_⟩⟩
    · obtain ⟨ws, g1, g2⟩ := at_ p S H f s hg
      rw [if_neg q] at g1
      exact ⟨ws, ws[i]'(by rw [g2.length]; exact hi), g1, List.getElem?_eq_getElem _⟩
    · obtain ⟨ws, g1, g2⟩ := at_ p S H f s hg
      rw [if_neg q] at g1
      obtain ⟨eH, hx⟩ := hy
      subst eH
      obtain ⟨w, g3, g4⟩ := g2.get (List.getElem?_eq_getElem hi)
      have := (hx ws g1).symm.trans g3
      cases this
      exact ⟨l[i], List.getElem?_eq_getElem hi, .inl rfl, g4⟩
    · obtain ⟨ws, g1, g2⟩ := at_ p S H f s hg
      rw [if_neg q] at g1
      exact ⟨ws, g1, by rw [g2.length]; exact Nat.le_refl _⟩
theorem walk_str {K : PySem.W.Frag} {z : Str} {p0 : Wl} {H0 : Hp} : Walk K (Its z) (z.cps.toList.map fun c => D.str ⟨#[c]⟩) [] p0 H0 := by
  refine ⟨fun i p S H f s hg hi => (by show i < z.cps.size; simpa using hi), fun i p S H x H' f s hg hi hy => ?_, fun p S H f s hg => ?_⟩
  · obtain ⟨eH, c, e1, e2⟩ := hy
    subst eH
    have hi2 : i < z.cps.size := by simpa using hi
    refine ⟨.str ⟨#[c]⟩, ?_, .inl rfl, e2⟩
    rw [List.getElem?_map]
    have : z.cps.toList[i]? = some c := by simpa using e1
    rw [this]
    rfl
  · show z.cps.size ≤ _
    simp
theorem di_seq {tg : Expr} (ha : DE X W F a x) : DI X W F tg a (itSeq x) := by
  refine PI.imp (PI.or (pi_list ha) (PI.or (pi_tup ha) (pi_str ha))) ?_
  rintro σ H R ⟨p, e, S, sr, re, h⟩
  have hb := h.bind
  -- which of the three it is hangs on the value
  cases ex : x F e S with
  | bad => rw [ex] at hb; exact hb.elim
  | exc c fs S1 =>
    refine .inl ⟨p, e, S, sr, re, ?_⟩
    rw [ex] at hb ⊢
    exact hb
  | ok d S1 =>
    rw [ex] at hb
    by_cases hstr : ∃ z, d = .str z
    · obtain ⟨z, rfl⟩ := hstr
      refine .inr (.inr ⟨p, e, S, sr, re, ?_⟩)
      rw [ex]
      intro q H' f s' v r
      exact ⟨z, r, Wp.ok (hb q H' f s') s' _ walk_str⟩
    · have ns : ∀ z, d ≠ .str z := fun z e => hstr ⟨z, e⟩
      by_cases hl : isL d = true
      · refine .inl ⟨p, e, S, sr, re, ?_⟩
        rw [ex]
        intro q H' f s' v r
        obtain ⟨⟨l, gs⟩, e1, k⟩ := wp_ofO (hb q H' f s') s'
        obtain ⟨g1, g2⟩ := seqIt_ok e1 ns
        obtain ⟨b, e2, w⟩ := walk_seq s' r (fun p S H _ _ hg => g2 S hg) g1
        rw [if_pos hl] at w
        exact ⟨b, e2, w.1, k _ w.2⟩
      · refine .inr (.inl ⟨p, e, S, sr, re, ?_⟩)
        rw [ex]
        intro q H' f s' v r
        obtain ⟨⟨l, gs⟩, e1, k⟩ := wp_ofO (hb q H' f s') s'
        obtain ⟨g1, g2⟩ := seqIt_ok e1 ns
        obtain ⟨b, e2, w⟩ := walk_seq s' r (fun p S H _ _ hg => g2 S hg) g1
        rw [if_neg hl] at w
        exact ⟨b, e2, w.1, k _ w.2⟩
/-- range -/
def rngL (lo c : Int) (n : Nat) : List D := (List.range n).map fun (i : Nat) => D.int (lo + (i : Int) * c)
theorem walk_rng {K : PySem.W.Frag} {lo : Int} {n : Nat} {p0 : Wl} {H0 : Hp} : Walk K (Itr lo n) (rngL lo 1 n) [] p0 H0 := by
  refine ⟨fun i p S H f s hg hi => (by show i < n; simpa [rngL] using hi), fun i p S H x H' f s hg hi hy => ?_, fun p S H f s hg => ?_⟩
  · obtain ⟨eH, e2⟩ := hy
    subst eH
    have hi2 : i < n := by simpa [rngL] using hi
    refine ⟨.int (lo + i), ?_, .inl rfl, e2⟩
    unfold rngL
    rw [List.getElem?_map, List.getElem?_range hi2]
    simp
  · show n ≤ _
    simp [rngL]
theorem walk_rngC {K : PySem.W.Frag} {lo c : Int} {n : Nat} {p0 : Wl} {H0 : Hp} : Walk K (Itc lo c n) (rngL lo c n) [] p0 H0 := by
  refine ⟨fun i p S H f s hg hi => (by show i < n; simpa [rngL] using hi), fun i p S H x H' f s hg hi hy => ?_, fun p S H f s hg => ?_⟩
  · obtain ⟨eH, e2⟩ := hy
    subst eH
    have hi2 : i < n := by simpa [rngL] using hi
    refine ⟨.int (lo + (i : Int) * c), ?_, .inl rfl, e2⟩
    unfold rngL
    rw [List.getElem?_map, List.getElem?_range hi2]
    rfl
  · show n ≤ _
    simp [rngL]
def i62 (i : Int) : Bool := decide (-(2 ^ 62) ≤ i) && decide (i < 2 ^ 62)
theorem i62_ok {i : Int} (h : i62 i = true) : -(2 ^ 62) ≤ i ∧ i < 2 ^ 62 := by
  unfold i62 at h
  simpa using h
/-- range(n), range(a, b), range(a, b, -1) -/
def itR1 (x : XE) : XI := fun F e => (x F e).bind fun d => (toInt d).bind fun j => if i62 j = true then M.pure (rngL 0 1 j.toNat, []) else stuck
def itR2 (x y : XE) : XI := fun F e => (x F e).bind fun d => (y F e).bind fun d' => (toInt d).bind fun i => (toInt d').bind fun j => if (i62 i && i62 j) = true then M.pure (rngL i 1 (j - i).toNat, []) else stuck
def itR3 (x y z : XE) : XI := fun F e => (x F e).bind fun d => (y F e).bind fun d' => (z F e).bind fun d2 => (toInt d).bind fun i => (toInt d').bind fun j => (toInt d2).bind fun c => if (i62 i && i62 j && decide (c = -1)) = true then M.pure (rngL i (-1) (i - j).toNat, []) else stuck
theorem toInt_wp {K : PySem.W.Frag} {p : Wl} {S : Sto} {H : Hp} {d : D} {v : V} {A : Int → Sto → Wl → Hp → Prop} {E : XK} (h : Wp K p H (toInt d S) A E) (s : SR K p S H) (r : Rep K p H d v) : ∃ i, v = .int i ∧ A i S p H := by
  cases d with
  | int i => exact ⟨i, r, Wp.ok h s⟩
  | _ => exact h.elim
theorem di_rng1 {tg : Expr} {p' : Pos} (hg : Gl X "range") (hm : X.mg "range" = none) (ha : DE X W F a x) (hs : starEach [a] X.env = [(false, eval a X.env)]) : DI X W F tg (.Call (.Name "range" p') [a] [] pos) (itR1 x) := by
  refine PI.imp (pi_range1 hg hm (pa_cons ha pa_nil hs) hs) ?_
  rintro σ H R ⟨p, e, S, sr, re, h⟩
  refine ⟨p, e, S, sr, re, h.bind.imp fun d S1 q H' f s1 h1 v r => ?_⟩
  obtain ⟨j, ev, h2⟩ := toInt_wp h1.bind s1 r
  obtain ⟨hj, h3⟩ := wp_if h2
  exact ⟨j, by rw [ev], (i62_ok hj).1, (i62_ok hj).2, Wp.ok h3 s1 _ walk_rng⟩
theorem di_rng2 {tg : Expr} {p' : Pos} (hg : Gl X "range") (hm : X.mg "range" = none) (ha : DE X W F a x) (hb : DE X W F b y) (hs : starEach [a, b] X.env = [(false, eval a X.env), (false, eval b X.env)]) (hs2 : starEach [b] X.env = [(false, eval b X.env)]) :
    DI X W F tg (.Call (.Name "range" p') [a, b] [] pos) (itR2 x y) := by
  refine PI.imp (pi_range2 hg hm (pa_cons ha (pa_cons hb pa_nil hs2) (by rw [hs, hs2])) hs hs2) ?_
  rintro σ H R ⟨p, e, S, sr, re, h⟩
  refine ⟨p, e, S, sr, re, h.bind.imp fun d S1 q H' f s1 h1 v r => ?_⟩
  refine ⟨q, e, S1, s1, re.fw f, h1.bind.imp fun d' S2 q2 H2 f2 s2 h2 v' r' => ?_⟩
  obtain ⟨i, ev, h3⟩ := toInt_wp h2.bind s2 (r.fw f2)
  obtain ⟨j, ev', h4⟩ := toInt_wp h3.bind s2 r'
  obtain ⟨hj, h5⟩ := wp_if h4
  rw [Bool.and_eq_true] at hj
  exact ⟨i, j, by rw [ev, ev'], ⟨(i62_ok hj.1).1, (i62_ok hj.1).2, (i62_ok hj.2).1, (i62_ok hj.2).2⟩, Wp.ok h5 s2 _ walk_rng⟩
theorem di_rng3 {tg : Expr} {p' : Pos} (hg : Gl X "range") (hm : X.mg "range" = none) (ha : DE X W F a x) (hb : DE X W F b y) (hc : DE X W F c z) (hs : starEach [a, b, c] X.env = (false, eval a X.env) :: starEach [b, c] X.env) (hs2 : starEach [b, c] X.env = (false, eval b X.env) :: starEach [c] X.env) (hs3 : starEach [c] X.env = [(false, eval c X.env)]) :
    DI X W F tg (.Call (.Name "range" p') [a, b, c] [] pos) (itR3 x y z) := by
  refine PI.imp (pi_range3 hg hm (pa_cons ha (pa_cons hb (pa_cons hc pa_nil hs3) hs2) hs) hs (by rw [hs2, hs3]; rfl)) ?_
  rintro σ H R ⟨p, e, S, sr, re, h⟩
  refine ⟨p, e, S, sr, re, h.bind.imp fun d S1 q H' f s1 h1 v r => ?_⟩
  refine ⟨q, e, S1, s1, re.fw f, h1.bind.imp fun d' S2 q2 H2 f2 s2 h2 v' r' => ?_⟩
  refine ⟨q2, e, S2, s2, (re.fw f).fw f2, h2.bind.imp fun d2 S3 q3 H3 f3 s3 h3 v2 r2 => ?_⟩
  obtain ⟨i, ev, h4⟩ := toInt_wp h3.bind s3 ((r.fw f2).fw f3)
  obtain ⟨j, ev', h5⟩ := toInt_wp h4.bind s3 (r'.fw f3)
  obtain ⟨k, ev2, h6⟩ := toInt_wp h5.bind s3 r2
  obtain ⟨hj, h7⟩ := wp_if h6
  rw [Bool.and_eq_true, Bool.and_eq_true] at hj
  have hk : k = -1 := of_decide_eq_true hj.2
  subst hk
  exact ⟨i, j, -1, _, by rw [ev, ev', ev2], RgC.neg (i62_ok hj.1.1).1 (i62_ok hj.1.1).2 (i62_ok hj.1.2).1 (i62_ok hj.1.2).2, Wp.ok h7 s3 _ walk_rngC⟩
/-! ### reversed(list) -/
def itRev (x : XE) : XI := fun F e => (x F e).bind fun d S => match seqIt d S with
  | some (l, gs) => if isL d = true then .ok (l.reverse, gs) S else .bad
  | none => .bad
end
end Dn

set_option Elab.async false
set_option linter.all false
set_option maxRecDepth 100000
set_option maxHeartbeats 400000
namespace Dn
open PySem PySem.Spec PyProof.Rows L2
/-- what a def promises: what F makes of the data -/
def spF (K : PySem.W.Frag) (F : Fns) (f : Nat) (n : Nat) : Sp := fun vs H Q E => ∃ p S ds, ds.length = n ∧ SR K p S H ∧ RepL K p H ds vs ∧ Wp K p H (F f ds S) (vQ K Q) E
/-- room, and nothing is being shown -/
structure RoomG (k : Nat) (A : Around) : Prop where
  room : Room k A
  gd : A.guards = some []
theorem RoomG.mono {j k : Nat} {A : Around} (r : RoomG k A) (h : j ≤ k) : RoomG j A := ⟨r.room.mono h, r.gd⟩
theorem RoomG.deeper {k : Nat} {A : Around} (r : RoomG (k + 1) A) (env : PySem.Env) : RoomG k (A.deeper env) := ⟨r.room.deeper env, r.gd⟩
/-- a def's promise where nothing is being shown -/
structure FnG (P : Program) (w : World) (K : PySem.W.Frag) (mg : Str → Option Value) (base : Heap) (k : Nat) (fa : Addr) (fd : FuncData) (ps : List Str) (sp : Sp) : Prop where
  len : ∀ vs H Q E, sp vs H Q E → vs.length = ps.length
  run : ∀ (A : Around) (outer : List PySem.Env) (s : Shared) (H : Hp) (args : Args) (us : List Value) (vs : List V) (Q : VK) (E : XK), RoomG k A → Env0 P w K mg base A outer s H → BindsTo s fd args (ps.zip us) → Vals vs us → sp vs H Q E →
    codeAny (model P w) A (.call (.ref fa) args) (CR (L2.CX P w) outer P w H s Q E) s
section
variable {X : Cx} {W : WX} {F : Fns} {pos : Pos} {a b c : Expr} {es : List Expr} {x y z : XE} {xs : XEs}
def xCall (f : Nat) (n : Nat) (xs : XEs) : XE := fun F e => (xs F e).bind fun ds => if ds.length = n then F f ds else stuck
/-- the callee runs, at the slots σ -/
theorem run_g {k : Nat} {fa : Addr} {fd : FuncData} {ps : List Str} {sp : Sp} {args : Args} {us : List Value} {vs : List V} {pins : List (Addr × Obj)} {s : Shared} {σ : L2.St} {H : Hp} {Q : VK} (G : FnG X.prog X.w X.K X.mg X.base k fa fd ps sp) (hr : RoomG k X.A) (tk : Takes X W)
    (I : Inv X pins σ H s) (hb : BindsTo s fd args (ps.zip us)) (r : Vals vs us) (h : sp vs H Q (WE W σ)) : codeAny (model X.prog X.w) X.A (.call (.ref fa) args) (fun r s' => match r with | .ok (.ret u) => EP X pins σ Q u s' | .ok _ => False | .error e => X.xe e s') s := by
  refine codeAny_mono (G.run X.A X.stack s H args us vs Q _ hr I.env0 hb r h) fun res s' hq => ?_
  cases res with
  | error er => exact tk er s' (XE.of_call I (fun _ _ _ z => z) hq)
  | ok fl =>
    cases fl with
    | ret u => exact I.after hq
    | _ => exact hq
theorem run_gc {k : Nat} {fa : Addr} {fd : FuncData} {ps : List Str} {sp : Sp} {us : List Value} {vs : List V} {kw : List (Str × Value)} {ws : List Value} {pins : List (Addr × Obj)} {s : Shared} {σ : L2.St} {H : Hp} {Q : VK} (G : FnG X.prog X.w X.K X.mg X.base k fa fd ps sp) (hr : RoomG k X.A) (tk : Takes X W)
    (I : Inv X pins σ H s) (hb : BindsTo s fd ⟨us, kw⟩ (ps.zip ws)) (r : Vals vs ws) (h : sp vs H Q (WE W σ)) : wpAny (model X.prog X.w) X.A (call (.ref fa) us kw) (EP X pins σ Q) X.xe s := by
  refine wpAny_call (codeAny_mono (run_g G hr tk I hb r h) fun res s' hq => ?_)
  cases res with
  | error er => exact hq
  | ok fl =>
    cases fl with
    | ret u => exact hq
    | _ => exact False.elim hq
theorem de_call {f : Nat} {fa : Addr} {fd : FuncData} {ps : List Str} {k : Nat} {p' : Pos} (G : FnG X.prog X.w X.K X.mg X.base k fa fd ps (spF X.K F f ps.length)) (hr : RoomG k X.A) {nm : Str} (hg : Gl X nm) (hm : X.mg nm = some (.ref fa))
    (hk : PySem.W.keepIn X.K (.ref fa) = true) (hb : Binds X.K fd ps []) (tk : Takes X W) (ha : DA X W F (a :: es) xs) (hdb : (nm == ("__debug__" : Str)) = false)
    (he : starEach (a :: es) X.env = (false, eval a X.env) :: starEach es X.env) (hpl : (backTo pos (starEach es X.env)).any (·.1) = false) : DE X W F (.Call (.Name nm p') (a :: es) [] pos) (xCall f ps.length xs) := by
  have base : PE X (.Call (.Name nm p') (a :: es) [] pos) (tCallS (spF X.K F f ps.length) (WE W) (tA X.K W F xs)) := by
    refine ⟨fun pins s σ H Q I h => wpAny_Call_Name_kw (ld_glob I hg hm ?_ hdb)⟩
    refine PySem.W.callWith_K (h₀ := X.base) I.ok.mod.kin hk (thn (ha.run pos pins s σ H _ I h) fun us s1 ⟨vs, H1, I1, r, q⟩ => ⟨I1.kIn, ?_⟩) he hpl
    have hl : us.length = ps.length := r.length.symm.trans (G.len _ _ _ _ q)
    have bs := hb s1 us I1.kIn (by rw [List.append_nil]; exact hl)
    rw [List.append_nil] at bs
    exact run_gc (ws := us) G hr tk I1 bs r q
  refine PE.imp base ?_
  rintro σ H Q ⟨p, e, S, sr, re, h⟩
  refine ⟨p, e, S, sr, re, h.bind.imp fun ds S1 q H' f s1 h1 vs r => ?_⟩
  obtain ⟨hl, h2⟩ := wp_if h1
  exact ⟨q, S1, ds, hl, s1, r, h2⟩
/-- f(k = v, ..) alone: the values in the keywords' order, then in the parameters' -/
def xCallK (f : Nat) (n : Nat) (g : List D → List D) (xs : XEs) : XE := fun F e => (xs F e).bind fun ds => if ds.length = n then F f (g ds) else stuck
abbrev DK (X : Cx) (W : WX) (F : Fns) (kws : List Keyword) (x : XEs) : Prop := PK X kws (tA X.K W F x)
theorem PK.imp {X : Cx} {kws : List Keyword} {t t' : TA} (h : PK X kws t) (f : ∀ σ H Q, t' σ H Q → t σ H Q) : PK X kws t' := ⟨fun po pins s σ H Q I q => h.run po pins s σ H Q I (f σ H Q q)⟩
theorem dk_nil : DK X W F [] xNil := by
  refine PK.imp pk_nil ?_
  rintro σ H Q ⟨p, e, S, sr, re, h⟩
  exact Wp.ok h sr [] rfl
theorem dk_cons {nm : Option Str} {kpos : Pos} {kws : List Keyword} (ha : DE X W F a x) (hr : DK X W F kws xs) : DK X W F (⟨nm, a, kpos⟩ :: kws) (xCons x xs) := by
  refine PK.imp (pk_cons ha hr) ?_
  rintro σ H Q ⟨p, e, S, sr, re, h⟩
  refine ⟨p, e, S, sr, re, h.bind.imp fun d1 S1 q1 H1 f1 s1 h1 v r1 => ?_⟩
  refine ⟨q1, e, S1, s1, re.fw f1, h1.bind.imp fun ds S2 q2 H2 f2 s2 h2 vs r2 => ?_⟩
  exact Wp.ok h2 s2 (v :: vs) ⟨v, vs, rfl, r1.fw f2, r2⟩
theorem de_callK {f : Nat} {fa : Addr} {fd : FuncData} {ps ks : List Str} {k : Nat} {p' : Pos} {kws : List Keyword} {gD : List D → List D} {gL : List Value → List Value} {gV : List V → List V} (G : FnG X.prog X.w X.K X.mg X.base k fa fd ps (spF X.K F f ps.length)) (hr : RoomG k X.A) {nm : Str} (hg : Gl X nm) (hm : X.mg nm = some (.ref fa))
    (hk : PySem.W.keepIn X.K (.ref fa) = true) (hb : ∀ (s : Shared) (ws : List Value), X.K.In s.heap → ws.length = ks.length → BindsTo s fd ⟨[], ks.zip ws⟩ (ps.zip (gL ws)))
    (hn : ks.length = ps.length) (hgv : ∀ {vs : List V} {ws : List Value}, vs.length = ks.length → Vals vs ws → Vals (gV vs) (gL ws)) (hgd : ∀ {p : Wl} {H : Hp} {ds : List D} {vs : List V}, ds.length = ks.length → RepL X.K p H ds vs → (gD ds).length = ps.length ∧ RepL X.K p H (gD ds) (gV vs))
    (tk : Takes X W) (hkw : DK X W F kws xs) (hall : (backToKw pos (keywordEach kws X.env)).all (·.1.isSome) = true) (hks : (backToKw pos (keywordEach kws X.env)).filterMap (·.1) = ks) (hdb : (nm == ("__debug__" : Str)) = false)
    (hpl : ((backTo pos (starEach [] X.env)).any (·.1) || (backToKw pos (keywordEach kws X.env)).any (·.1.isNone)) = false) : DE X W F (.Call (.Name nm p') [] kws pos) (xCallK f ks.length gD xs) := by
  have base : PE X (.Call (.Name nm p') [] kws pos) (fun σ H Q => tA X.K W F xs σ H fun vs H1 => vs.length = ks.length ∧ spF X.K F f ps.length (gV vs) H1 Q (WE W σ)) := by
    refine ⟨fun pins s σ H Q I h => wpAny_Call_Name_kw (ld_glob I hg hm ?_ hdb)⟩
    refine PySem.W.callWith_KW0 (h₀ := X.base) I.ok.mod.kin hk hall ?_ hpl
    refine thn (hkw.run pos pins s σ H _ I h) fun ws s1 ⟨vs, H1, I1, r, hl, q⟩ => ⟨I1.kIn, ?_⟩
    rw [hks]
    exact run_gc (us := []) (kw := ks.zip ws) (ws := gL ws) G hr tk I1 (hb s1 ws I1.kIn (r.length.symm.trans hl)) (hgv hl r) q
  refine PE.imp base ?_
  rintro σ H Q ⟨p, e, S, sr, re, h⟩
  refine ⟨p, e, S, sr, re, h.bind.imp fun ds S1 q H' f s1 h1 vs r => ?_⟩
  obtain ⟨hl, h2⟩ := wp_if h1
  obtain ⟨g1, g2⟩ := hgd hl r
  exact ⟨by rw [r.length, hl], q, S1, gD ds, g1, s1, g2, h2⟩
/-! ### built-ins -/
def rN (K : PySem.W.Frag) (ev : List D → M D) : List V → Hp → VK → Prop := fun vs H Q => ∃ p S ds, SR K p S H ∧ RepL K p H ds vs ∧ ∃ E : XK, Wp K p H (ev ds S) (vQ K Q) E ∧ ∀ c d H, ¬ E c d H
def xP (ev : List D → M D) (xs : XEs) : XE := fun F e => (xs F e).bind fun ds => noX (ev ds)
theorem tN_of {ev : List D → M D} {σ : L2.St} {H : Hp} {Q : VK} (h : tE X.K W F (xP ev xs) σ H Q) : tCB (rN X.K ev) (tA X.K W F xs) σ H Q := by
  obtain ⟨p, e, S, sr, re, h⟩ := h
  exact ⟨p, e, S, sr, re, h.bind.imp fun ds S1 q H' f s1 h1 vs r => ⟨q, S1, ds, s1, r, noX_wp h1⟩⟩
theorem de_blt {nm : Str} {id : String} {p' : Pos} {ev : List D → M D} (hc : CallR X (.builtin id) (rN X.K ev)) (hg : Gl X nm) (hm : X.mg nm = none) (hv : bootBuiltins nm = some (.builtin id)) (ha : DA X W F (a :: es) xs) (hn : nm ≠ "__name__") (hdb : (nm == ("__debug__" : Str)) = false)
    (he : starEach (a :: es) X.env = (false, eval a X.env) :: starEach es X.env) (hpl : (backTo pos (starEach es X.env)).any (·.1) = false) : DE X W F (.Call (.Name nm p') (a :: es) [] pos) (xP ev xs) :=
  PE.imp (pe_callB hc hg hm hv ha hn hdb he hpl) fun σ H Q h => tN_of h
theorem de_bty {nm : Str} {T : String} {p' : Pos} {ev : List D → M D} (hc : CallR X (.type T) (rN X.K ev)) (hg : Gl X nm) (hm : X.mg nm = none) (hv : bootBuiltins nm = some (.type T)) (ha : DA X W F (a :: es) xs) (hn : nm ≠ "__name__") (hdb : (nm == ("__debug__" : Str)) = false)
    (he : starEach (a :: es) X.env = (false, eval a X.env) :: starEach es X.env) (hpl : (backTo pos (starEach es X.env)).any (·.1) = false) : DE X W F (.Call (.Name nm p') (a :: es) [] pos) (xP ev xs) :=
  PE.imp (pe_callTy hc hg hm hv ha hn hdb he hpl) fun σ H Q h => tN_of h
/-- one argument -/
def ev1 (g : D → M D) : List D → M D := fun ds => match ds with
  | [d] => g d
  | _ => stuck
def ev2 (g : D → D → M D) : List D → M D := fun ds => match ds with
  | [d, d'] => g d d'
  | _ => stuck
theorem ev1_wp {K : PySem.W.Frag} {p : Wl} {S : Sto} {H : Hp} {g : D → M D} {ds : List D} {vs : List V} {A : D → Sto → Wl → Hp → Prop} {E : XK} (h : Wp K p H (ev1 g ds S) A E) (r : RepL K p H ds vs) : ∃ d v, ds = [d] ∧ vs = [v] ∧ Rep K p H d v ∧ Wp K p H (g d S) A E := by
  cases ds with
  | nil => exact h.elim
  | cons d t =>
    cases t with
    | cons d' t => exact h.elim
    | nil =>
      obtain ⟨v, w, e, r1, r2⟩ := r
      exact ⟨d, v, rfl, by rw [e, show w = [] from r2], r1, h⟩
theorem ev2_wp {K : PySem.W.Frag} {p : Wl} {S : Sto} {H : Hp} {g : D → D → M D} {ds : List D} {vs : List V} {A : D → Sto → Wl → Hp → Prop} {E : XK} (h : Wp K p H (ev2 g ds S) A E) (r : RepL K p H ds vs) :
    ∃ d d' v v', ds = [d, d'] ∧ vs = [v, v'] ∧ Rep K p H d v ∧ Rep K p H d' v' ∧ Wp K p H (g d d' S) A E := by
  cases ds with
  | nil => exact h.elim
  | cons d t =>
    cases t with
    | nil => exact h.elim
    | cons d' t =>
      cases t with
      | cons d2 t => exact h.elim
      | nil =>
        obtain ⟨v, w, e, r1, r2⟩ := r
        obtain ⟨v', w', e', r3, r4⟩ := r2
        exact ⟨d, d', v, v', rfl, by rw [e, e', show w' = [] from r4], r1, r3, h⟩
/-- len -/
def lenO (d : D) (S : Sto) : Option Int := match d with
  | .str z => if z.length ≤ line then some z.length else none
  | .ref n => (match S[n]? with
    | some (.lst l) => some l.length
    | some (.dK l) => some l.length
    | _ => none)
  | d => (seqOf d S).map fun l => (l.length : Int)
def pLen : D → M D := fun d S => ofO ((lenO d S).map D.int) S
theorem RepF.length {α : Type} {K : PySem.W.Frag} {p : Wl} {H : Hp} : ∀ {l : List (α × D)} {vs : List (α × V)}, RepF K p H l vs → vs.length = l.length
  | [], _, h => by rw [show _ = [] from h]; rfl
  | (k, d) :: r, _, h => by
    obtain ⟨v, ws, e, h1, h2⟩ := h
    rw [e, List.length_cons, List.length_cons, RepF.length h2]
theorem cr_dnLen : CallR X (.builtin "len") (rN X.K (ev1 pLen)) := by
  rintro pins s σ H vs us Q I rv ⟨p, S, ds, sr, r, E, h, hE⟩
  obtain ⟨d, v, rfl, rfl, r1, h1⟩ := ev1_wp h r
  obtain ⟨o, e, q⟩ := wp_ofO h1 sr
  obtain ⟨n, en, eo⟩ := Option.map_eq_some_iff.mp e
  subst eo
  have q := q (.int n) rfl
  have sq : ∀ {l : List D}, seqOf d S = some l → n = (l.length : Int) → wpAny (model X.prog X.w) X.A (call (.builtin "len") us) (EP X pins σ Q) X.xe s := fun {l} h1 h2 => by
    obtain ⟨a, vs, e, h3, h4⟩ := r1.sq sr h1
    rw [h2, ← h4.length] at q
    exact call_len_seq pins s σ H [v] us Q I rv ⟨a, vs, by rw [e], h3, q⟩
  cases d with
  | str z =>
    have en : (if z.length ≤ line then some (z.length : Int) else none) = some n := en
    split at en
    · rename_i hz
      cases en
      exact call_len_str pins s σ H [v] us Q I rv ⟨z, by rw [show v = .str z from r1], by rw [line_eq]; exact hz, q⟩
    · cases en
  | ref k =>
    have en : (match S[k]? with
      | some (.lst l) => some (l.length : Int)
      | some (.dK l) => some (l.length : Int)
      | _ => none) = some n := en
    cases ek : S[k]? with
    | none => rw [ek] at en; cases en
    | some ob =>
      rw [ek] at en
      cases ob with
      | lst l => cases en; exact sq (l := l) (by show (match S[k]? with | some (.lst l) => some l | _ => none) = some l; rw [ek]) rfl
      | dK l =>
        cases en
        obtain ⟨a, ha, e⟩ := r1
        obtain ⟨vs, h1, h2⟩ := sr.obj k a _ ha ek
        rw [← h2.length] at q
        exact call_lenD pins s σ H [v] us Q I rv ⟨a, vs, by rw [e], h1, q⟩
      | ins c fs => cases en
  | tup l => cases en; exact sq (l := l) rfl rfl
  | tmp l => cases en; exact sq (l := l) rfl rfl
  | scr l => cases en; exact sq (l := l.map .int) rfl (by simp)
  | _ => cases en
/-- abs, int, min, max, divmod -/
def pAbs : D → M D := fun d => match d with
  | .int i => M.pure (.int (if i < 0 then -i else i))
  | _ => stuck
theorem cr_dnAbs : CallR X (.builtin "abs") (rN X.K (ev1 pAbs)) := by
  rintro pins s σ H vs us Q I rv ⟨p, S, ds, sr, r, E, h, hE⟩
  obtain ⟨d, v, rfl, rfl, r1, h1⟩ := ev1_wp h r
  cases d with
  | int i => exact call_abs pins s σ H [v] us Q I rv ⟨i, by rw [show v = .int i from r1], Wp.ok h1 sr _ rfl⟩
  | _ => exact h1.elim
def pMax2 : D → D → M D := fun d d' => match d, d' with
  | .int i, .int j => M.pure (.int (if j > i then j else i))
  | _, _ => stuck
def pMin2 : D → D → M D := fun d d' => match d, d' with
  | .int i, .int j => M.pure (.int (if j < i then j else i))
  | _, _ => stuck
/-- the least, the greatest of a list -/
def minL : List Int → Option Int
  | [] => none
  | a :: r => match minL r with
    | none => some a
    | some m => some (if m < a then m else a)
def maxL : List Int → Option Int
  | [] => none
  | a :: r => match maxL r with
    | none => some a
    | some m => some (if m > a then m else a)
theorem minL_ok : ∀ {l : List Int} {m : Int}, minL l = some m → m ∈ l ∧ ∀ y ∈ l, m ≤ y
  | a :: r, m, h => by
    unfold minL at h
    cases e : minL r with
    | none =>
      rw [e] at h
      cases h
      have : r = [] := by
        cases r with
        | nil => rfl
        | cons b t => unfold minL at e; cases e2 : minL t <;> rw [e2] at e <;> cases e
      subst this
      exact ⟨List.mem_cons_self, fun y hy => by have : y = a := by simpa using hy
                                                omega⟩
    | some k =>
      rw [e] at h
      obtain ⟨h1, h2⟩ := minL_ok e
      have h3 : (if k < a then k else a) = m := Option.some.inj h
      by_cases hk : k < a
      · rw [if_pos hk] at h3
        subst h3
        exact ⟨List.mem_cons_of_mem _ h1, fun y hy => by
          rcases List.mem_cons.mp hy with z | z
          · omega
          · exact h2 y z⟩
      · rw [if_neg hk] at h3
        subst h3
        exact ⟨List.mem_cons_self, fun y hy => by
          rcases List.mem_cons.mp hy with z | z
          · omega
          · have := h2 y z; omega⟩
theorem maxL_ok : ∀ {l : List Int} {m : Int}, maxL l = some m → m ∈ l ∧ ∀ y ∈ l, y ≤ m
  | a :: r, m, h => by
    unfold maxL at h
    cases e : maxL r with
    | none =>
      rw [e] at h
      cases h
      have : r = [] := by
        cases r with
        | nil => rfl
        | cons b t => unfold maxL at e; cases e2 : maxL t <;> rw [e2] at e <;> cases e
      subst this
      exact ⟨List.mem_cons_self, fun y hy => by have : y = a := by simpa using hy
                                                omega⟩
    | some k =>
      rw [e] at h
      obtain ⟨h1, h2⟩ := maxL_ok e
      have h3 : (if k > a then k else a) = m := Option.some.inj h
      by_cases hk : k > a
      · rw [if_pos hk] at h3
        subst h3
        exact ⟨List.mem_cons_of_mem _ h1, fun y hy => by
          rcases List.mem_cons.mp hy with z | z
          · omega
          · exact h2 y z⟩
      · rw [if_neg hk] at h3
        subst h3
        exact ⟨List.mem_cons_self, fun y hy => by
          rcases List.mem_cons.mp hy with z | z
          · omega
          · have := h2 y z; omega⟩
def pMin : List D → M D := fun ds S => match ds with
  | [.int i, .int j] => .ok (.int (if j < i then j else i)) S
  | [d] => if isL d = true then ofO (((seqOf d S).bind intL).bind fun l => (minL l).map D.int) S else .bad
  | _ => .bad
def pMax : List D → M D := fun ds S => match ds with
  | [.int i, .int j] => .ok (.int (if j > i then j else i)) S
  | [d] => if isL d = true then ofO (((seqOf d S).bind intL).bind fun l => (maxL l).map D.int) S else .bad
  | _ => .bad
theorem cr_dnMin (hc : X.calm = true) : CallR X (.builtin "min") (rN X.K pMin) := by
  rintro pins s σ H vs us Q I rv ⟨p, S, ds, sr, r, E, h, hE⟩
  unfold pMin at h
  split at h
  · obtain ⟨v, w, e, r1, r2⟩ := r
    obtain ⟨v', w', e', r3, r4⟩ := r2
    exact call_min2 hc pins s σ H vs us Q I rv ⟨_, _, by rw [e, e', show w' = [] from r4, show v = _ from r1, show v' = _ from r3], Wp.ok h sr _ rfl⟩
  · rename_i d
    obtain ⟨v, w, e, r1, r2⟩ := r
    by_cases hl : isL d = true
    · rw [if_pos hl] at h
      obtain ⟨o, e1, q⟩ := wp_ofO h sr
      obtain ⟨ns, e2, e3⟩ := Option.bind_eq_some_iff.mp e1
      obtain ⟨l, e4, e5⟩ := Option.bind_eq_some_iff.mp e2
      obtain ⟨m, e6, e7⟩ := Option.map_eq_some_iff.mp e3
      obtain ⟨a, ws, e8, g1, g2⟩ := r1.seq sr e4
      rw [if_pos hl] at g1
      rw [ints_eq e5] at g2
      rw [RepL.ints g2] at g1
      obtain ⟨m1, m2⟩ := minL_ok e6
      refine cr_min hc pins s σ H vs us Q I rv ⟨a, ns, by rw [e, e8, show w = [] from r2], g1, List.length_pos_of_mem m1, fun k hk1 hk2 => ?_⟩
      have : k = m := by have := hk2 m m1; have := m2 k hk1; omega
      subst this
      subst e7
      exact q _ rfl
    · rw [if_neg hl] at h; exact h.elim
  · exact h.elim
theorem cr_dnMax (hc : X.calm = true) : CallR X (.builtin "max") (rN X.K pMax) := by
  rintro pins s σ H vs us Q I rv ⟨p, S, ds, sr, r, E, h, hE⟩
  unfold pMax at h
  split at h
  · obtain ⟨v, w, e, r1, r2⟩ := r
    obtain ⟨v', w', e', r3, r4⟩ := r2
    exact call_max2 hc pins s σ H vs us Q I rv ⟨_, _, by rw [e, e', show w' = [] from r4, show v = _ from r1, show v' = _ from r3], Wp.ok h sr _ rfl⟩
  · rename_i d
    obtain ⟨v, w, e, r1, r2⟩ := r
    by_cases hl : isL d = true
    · rw [if_pos hl] at h
      obtain ⟨o, e1, q⟩ := wp_ofO h sr
      obtain ⟨ns, e2, e3⟩ := Option.bind_eq_some_iff.mp e1
      obtain ⟨l, e4, e5⟩ := Option.bind_eq_some_iff.mp e2
      obtain ⟨m, e6, e7⟩ := Option.map_eq_some_iff.mp e3
      obtain ⟨a, ws, e8, g1, g2⟩ := r1.seq sr e4
      rw [if_pos hl] at g1
      rw [ints_eq e5] at g2
      rw [RepL.ints g2] at g1
      obtain ⟨m1, m2⟩ := maxL_ok e6
      refine cr_max hc pins s σ H vs us Q I rv ⟨a, ns, by rw [e, e8, show w = [] from r2], g1, List.length_pos_of_mem m1, fun k hk1 hk2 => ?_⟩
      have : k = m := by have := hk2 m m1; have := m2 k hk1; omega
      subst this
      subst e7
      exact q _ rfl
    · rw [if_neg hl] at h; exact h.elim
  · exact h.elim
/-- sum, all, any of a list -/
def pSum : D → M D := fun d S => if isL d = true then ofO (((seqOf d S).bind intL).map fun l => D.int l.sum) S else .bad
theorem cr_dnSum (hc : X.calm = true) : CallR X (.builtin "sum") (rN X.K (ev1 pSum)) := by
  rintro pins s σ H vs us Q I rv ⟨p, S, ds, sr, r, E, h, hE⟩
  obtain ⟨d, v, rfl, rfl, r1, h1⟩ := ev1_wp h r
  unfold pSum at h1
  by_cases hl : isL d = true
  · rw [if_pos hl] at h1
    obtain ⟨o, e, q⟩ := wp_ofO h1 sr
    obtain ⟨ns, en, eo⟩ := Option.map_eq_some_iff.mp e
    obtain ⟨l, e4, e5⟩ := Option.bind_eq_some_iff.mp en
    obtain ⟨a, ws, e8, g1, g2⟩ := r1.seq sr e4
    rw [if_pos hl] at g1
    rw [ints_eq e5] at g2
    rw [RepL.ints g2] at g1
    subst eo
    exact cr_sum hc pins s σ H [v] us Q I rv ⟨a, ns, by rw [e8], g1, q _ rfl⟩
  · rw [if_neg hl] at h1; exact h1.elim
def pAll : D → M D := fun d S => if isL d = true then ofO (((seqOf d S).bind blL).map fun l => D.bl (l.all id)) S else .bad
theorem cr_dnAll (hc : X.calm = true) : CallR X (.builtin "all") (rN X.K (ev1 pAll)) := by
  rintro pins s σ H vs us Q I rv ⟨p, S, ds, sr, r, E, h, hE⟩
  obtain ⟨d, v, rfl, rfl, r1, h1⟩ := ev1_wp h r
  unfold pAll at h1
  by_cases hl : isL d = true
  · rw [if_pos hl] at h1
    obtain ⟨o, e, q⟩ := wp_ofO h1 sr
    obtain ⟨ns, en, eo⟩ := Option.map_eq_some_iff.mp e
    obtain ⟨l, e4, e5⟩ := Option.bind_eq_some_iff.mp en
    obtain ⟨a, ws, e8, g1, g2⟩ := r1.seq sr e4
    rw [if_pos hl] at g1
    rw [bls_eq e5] at g2
    rw [RepL.bls g2] at g1
    subst eo
    exact cr_all hc pins s σ H [v] us Q I rv ⟨a, ns, by rw [e8], g1, q _ rfl⟩
  · rw [if_neg hl] at h1; exact h1.elim
def pAny : D → M D := fun d S => if isL d = true then ofO (((seqOf d S).bind blL).map fun l => D.bl (l.any id)) S else .bad
theorem cr_dnAny (hc : X.calm = true) : CallR X (.builtin "any") (rN X.K (ev1 pAny)) := by
  rintro pins s σ H vs us Q I rv ⟨p, S, ds, sr, r, E, h, hE⟩
  obtain ⟨d, v, rfl, rfl, r1, h1⟩ := ev1_wp h r
  unfold pAny at h1
  by_cases hl : isL d = true
  · rw [if_pos hl] at h1
    obtain ⟨o, e, q⟩ := wp_ofO h1 sr
    obtain ⟨ns, en, eo⟩ := Option.map_eq_some_iff.mp e
    obtain ⟨l, e4, e5⟩ := Option.bind_eq_some_iff.mp en
    obtain ⟨a, ws, e8, g1, g2⟩ := r1.seq sr e4
    rw [if_pos hl] at g1
    rw [bls_eq e5] at g2
    rw [RepL.bls g2] at g1
    subst eo
    exact cr_any hc pins s σ H [v] us Q I rv ⟨a, ns, by rw [e8], g1, q _ rfl⟩
  · rw [if_neg hl] at h1; exact h1.elim
/-- int(i), str(i), tuple(s), list(s), divmod -/
def pInt : D → M D := fun d => match d with
  | .int i => M.pure (.int i)
  | .bl b => M.pure (.int (if b then 1 else 0))
  | .str z => if z.length ≤ 640 then ofO ((PySem.intText? z).map D.int) else stuck
  | _ => stuck
theorem cr_dnInt : CallR X (.type "int") (rN X.K (ev1 pInt)) := by
  rintro pins s σ H vs us Q I rv ⟨p, S, ds, sr, r, E, h, hE⟩
  obtain ⟨d, v, rfl, rfl, r1, h1⟩ := ev1_wp h r
  cases d with
  | int i => exact call_int1 pins s σ H [v] us Q I rv (.inl ⟨i, by rw [show v = .int i from r1], Wp.ok h1 sr _ rfl⟩)
  | bl i => exact call_int1 pins s σ H [v] us Q I rv (.inr ⟨i, by rw [show v = .bl i from r1], Wp.ok h1 sr _ rfl⟩)
  | str z =>
    obtain ⟨hz, h2⟩ := wp_if h1
    obtain ⟨o, e, q⟩ := wp_ofO h2 sr
    obtain ⟨n, en, eo⟩ := Option.map_eq_some_iff.mp e
    subst eo
    exact call_int_str pins s σ H [v] us Q I rv ⟨z, n, by rw [show v = .str z from r1], en, hz, q _ rfl⟩
  | _ => exact h1.elim
def pStr : D → M D := fun d => match d with
  | .int i => if i.natAbs.log2 < 1920 then M.pure (.str (Str.ofString (toString i))) else stuck
  | _ => stuck
theorem cr_dnStr : CallR X (.type "str") (rN X.K (ev1 pStr)) := by
  rintro pins s σ H vs us Q I rv ⟨p, S, ds, sr, r, E, h, hE⟩
  obtain ⟨d, v, rfl, rfl, r1, h1⟩ := ev1_wp h r
  cases d with
  | int i =>
    obtain ⟨hz, h2⟩ := wp_if h1
    exact call_str_int pins s σ H [v] us Q I rv ⟨i, by rw [show v = .int i from r1], hz, Wp.ok h2 sr _ rfl⟩
  | _ => exact h1.elim
def pTup : D → M D := fun d S => ofO ((seqOf d S).map D.tup) S
theorem cr_dnTup : CallR X (.type "tuple") (rN X.K (ev1 pTup)) := by
  rintro pins s σ H vs us Q I rv ⟨p, S, ds, sr, r, E, h, hE⟩
  obtain ⟨d, v, rfl, rfl, r1, h1⟩ := ev1_wp h r
  unfold pTup at h1
  cases e1 : seqOf d S with
  | none => rw [e1] at h1; exact h1.elim
  | some l =>
    rw [e1] at h1
    obtain ⟨a, ws, e8, g1, g2⟩ := r1.sq sr e1
    refine call_tuple_of pins s σ H [v] us Q I rv ⟨a, ws, by rw [e8], ?_⟩
    rcases g1 with g1 | g1
    · refine .inl ⟨g1, fun b hb => ?_⟩
      have f : Fw p H p (upd H b (.tup ws)) := Fw.new hb
      exact h1 p _ f (sr.new hb) _ ⟨b, ws, rfl, .inl (.inl upd_same), g2.fw f⟩
    · exact .inr ⟨g1, Wp.ok h1 sr _ ⟨a, ws, rfl, g1, g2⟩⟩
def pLst (al : Bool) : D → M D := fun d S => match seqOf d S with
  | some l => mkL al l S
  | none => .bad
theorem cr_dnLst {al : Bool} : CallR X (.type "list") (rN X.K (ev1 (pLst al))) := by
  rintro pins s σ H vs us Q I rv ⟨p, S, ds, sr, r, E, h, hE⟩
  obtain ⟨d, v, rfl, rfl, r1, h1⟩ := ev1_wp h r
  unfold pLst at h1
  cases e1 : seqOf d S with
  | none => rw [e1] at h1; exact h1.elim
  | some l =>
    rw [e1] at h1
    obtain ⟨a, ws, e8, g1, g2⟩ := r1.sq sr e1
    exact call_list_of pins s σ H [v] us Q I rv ⟨a, ws, by rw [e8], g1, (wp_mk h1 sr g2).2⟩
def pDivmod : D → D → M D := fun d d' => match d, d' with
  | .int i, .int j => if 0 < j ∧ j.natAbs.log2 < 9000 then M.pure (.tup [.int (i / j), .int (i % j)]) else stuck
  | _, _ => stuck
theorem cr_dnDivmod : CallR X (.builtin "divmod") (rN X.K (ev2 pDivmod)) := by
  rintro pins s σ H vs us Q I rv ⟨p, S, ds, sr, r, E, h, hE⟩
  obtain ⟨d, d', v, v', rfl, rfl, r1, r2, h1⟩ := ev2_wp h r
  cases d with
  | int i =>
    cases d' with
    | int j =>
      obtain ⟨hz, h2⟩ := wp_if h1
      refine call_divmodW pins s σ H [v, v'] us Q I rv ⟨i, j, by rw [show v = .int i from r1, show v' = .int j from r2], ⟨hz.1, PyProof.noPylong_of_log2 hz.2⟩, fun b hb => ?_⟩
      have f : Fw p H p (upd H b (.tup [.int (i / j), .int (i % j)])) := Fw.new hb
      exact h2 p _ f (sr.new hb) _ ⟨b, _, rfl, .inl (.inl upd_same), ⟨_, _, rfl, rfl, ⟨_, _, rfl, rfl, rfl⟩⟩⟩
    | _ => exact h1.elim
  | _ => exact h1.elim
/-! ### isinstance -/
def tyS (d : D) (S : Sto) : Option (String ⊕ Str) := match d with
  | .non => some (.inl "NoneType")
  | .bl _ => some (.inl "bool")
  | .int _ => some (.inl "int")
  | .str _ => some (.inl "str")
  | .tup _ => some (.inl "tuple")
  | .tmp _ => some (.inl "list")
  | .scr _ => some (.inl "list")
  | .ref n => (match S[n]? with
    | some (.lst _) => some (.inl "list")
    | some (.dK _) => some (.inl "dict")
    | some (.ins c _) => some (.inr c)
    | none => none)
  | _ => none
/-- the answer of isinstance for the built-in kinds that are asked for -/
def isiT (t : String) (c : String) : Option Bool := if c = "int" then some (t == "int" || t == "bool") else if c = "bool" ∨ c = "str" ∨ c = "tuple" ∨ c = "list" ∨ c = "dict" then some (t == c) else none
end
end Dn

set_option Elab.async false
set_option linter.all false
set_option maxRecDepth 100000
set_option maxHeartbeats 400000
namespace Dn
open PySem PySem.Spec PyProof.Rows L2
/-- a def's body run on data -/
def runB (k : Nat) (body : XS) (F : Fns) (ds : List D) : M D := fun S => match body F (ds.map some ++ List.replicate (k - ds.length) none) S with
  | .rt d S' => .ok d S'
  | .nx _ S' => .ok .non S'
  | .exc c fs _ S' => .exc c fs S'
  | _ => .bad
section
variable {P : Program} {w : World} {K : PySem.W.Frag} {mg : Str → Option Value} {base : Heap}
theorem repE_start {p : Wl} {H : Hp} : ∀ {ds : List D} {vs : List V}, RepL K p H ds vs → ∀ n : Nat, RepE K p H (ds.map some ++ List.replicate n none) (vs.map some ++ List.replicate n none) := by
  intro ds vs r n
  refine ⟨by simp [r.length], fun i d h => ?_⟩
  by_cases hi : i < ds.length
  · rw [List.getElem?_append_left (by simpa using hi), List.getElem?_map] at h
    cases e : ds[i]? with
    | none => rw [e] at h; cases h
    | some x =>
      rw [e] at h
      cases h
      obtain ⟨v, h1, h2⟩ := r.get e
      refine ⟨v, ?_, h2⟩
      rw [List.getElem?_append_left (by simpa [r.length] using hi), List.getElem?_map, h1]
      rfl
  · rw [List.getElem?_append_right (by simpa using hi), List.getElem?_replicate] at h
    split at h <;> cases h
/-- a def keeps what its body's reading says -/
theorem fn_dn {x qual : Str} {params : Arguments} {body : List Stmt} {scope : Scope} {fa : Addr} {fd : FuncData} {N ps : List Str} {k key : Nat} {F F' : Fns} {xb : XS} (FD : FunD K x qual params body scope [] [] fa fd) (S : FnScope N ps scope)
    (he : ∀ ds, ds.length = ps.length → F' key ds = runB N.length xb F ds)
    (hb : ∀ (cdv : Value) (A : Around) (outer : List PySem.Env) (s : Shared) (H : Hp) (E : XK), RoomG k (A.deeper (envOfC qual scope s.heap.objs.size fa cdv)) →
      DSs (cxOf (L2.CX P w) P w K mg base N qual scope fa cdv A outer s H E) (fun c d _ H => E c d H) F body xb) : FnG P w K mg base (k + 1) fa fd ps (spF K F' key ps.length) := by
  have len : ∀ vs H Q E, spF K F' key ps.length vs H Q E → vs.length = ps.length := fun vs H Q E h => by
    obtain ⟨p, S, ds, hl, sr, r, _⟩ := h
    rw [r.length, hl]
  refine ⟨len, fun A outer s H args us vs Q E hr e0 hbd rv h => ?_⟩
  obtain ⟨oc, od, dV, kV, doc, pm, an, cdv, ct, osl, efd, lk, hcd, _, _⟩ := FD.ex
  subst efd
  refine LamX.run_ofS (k := k) lk hcd S hr.room e0 hbd rv (len _ _ _ _ h) fun _ => ⟨_, hb cdv A outer s H E (hr.deeper _), ?_⟩
  obtain ⟨p, S1, ds, hl, sr, r, h⟩ := h
  rw [he ds hl] at h
  have es : L2.start N vs = vs.map some ++ List.replicate (N.length - ds.length) none := by
    unfold L2.start
    rw [r.length]
  rw [es]
  refine ⟨p, _, S1, sr, repE_start r _, ?_⟩
  unfold runB at h
  cases e1 : xb F (ds.map some ++ List.replicate (N.length - ds.length) none) S1 with
  | nx e S2 => rw [e1] at h; exact fun q H' σ f s' _ => h q H' f s' .non rfl
  | rt d S2 => rw [e1] at h; exact fun q H' v f s' rv => h q H' f s' v rv
  | bk e S2 => rw [e1] at h; exact h.elim
  | ct e S2 => rw [e1] at h; exact h.elim
  | exc c fs e S2 => rw [e1] at h; exact fun q H' σ dx vs f s' _ hd nd rf => h q H' dx vs f s' hd nd rf
  | bad => rw [e1] at h; exact h.elim
end
/-- in a def's body: an exception leaves it -/
theorem tk_def {P : Program} {w : World} {K : PySem.W.Frag} {mg : Str → Option Value} {base : Heap} {N : List Str} {qual : Str} {scope : Scope} {f : Addr} {cd : Value} {A : Around} {outer : List PySem.Env} {s : Shared} {H : Hp} {E : XK} :
    Takes (cxOf (L2.CX P w) P w K mg base N qual scope f cd A outer s H E) (fun c d _ H => E c d H) := takes_of rfl rfl rfl rfl
theorem po_def {P : Program} {w : World} {K : PySem.W.Frag} {mg : Str → Option Value} {base : Heap} {N : List Str} {qual : Str} {scope : Scope} {f : Addr} {cd : Value} {A : Around} {outer : List PySem.Env} {s : Shared} {H : Hp} {E : XK} :
    PassesOwn (model P w) (cxOf (L2.CX P w) P w K mg base N qual scope f cd A outer s H E).A (cxOf (L2.CX P w) P w K mg base N qual scope f cd A outer s H E).env (cxOf (L2.CX P w) P w K mg base N qual scope f cd A outer s H E).xe :=
  passes_of (X := cxOf (L2.CX P w) P w K mg base N qual scope f cd A outer s H E) rfl
/-! ### the head's facts -/
/-- what the head is asked: a check of the written part, and the defs -/
def obsC (chk : PySem.W.Frag → Bool) (fn : List He.DefD) (K : PySem.W.Frag) : He.AlD := (chk K && fn.all fun d => d.ok K, fn.map fun d => He.fnW K d.at_)
def SaysC (chk : PySem.W.Frag → Bool) (fn : List He.DefD) (K : PySem.W.Frag) : Prop := obsC chk fn K = He.valD fn
def obsCG (n : Nat) (chk : PySem.W.Frag → Bool) (fn : List He.DefD) (g : Addr → Option Obj) : He.AlD := obsC chk fn (He.frG g (He.asD g n))
def hookC (n : Nat) (chk : PySem.W.Frag → Bool) (fn : List He.DefD) : PySem.W.Hook where
  α := He.AlD
  obs := fun s => obsCG n chk fn s.heap.get?
  val := fun _ => He.valD fn
  says := fun _ h => ∃ K : PySem.W.Frag, K.In h ∧ SaysC chk fn K
  of := fun _ _ e => ⟨_, He.frG_in, e⟩
  keeps := fun _ _ _ ⟨K, hK, c⟩ k => ⟨K, PySem.W.Frag.In.keeps hK k, c⟩
theorem obsCG_eq {n : Nat} {chk : PySem.W.Frag → Bool} {fn : List He.DefD} {g : Addr → Option Obj} {s : Shared} (h : ∀ a, g a = s.heap.get? a) : obsCG n chk fn g = (hookC n chk fn).obs s := by
  have e : g = s.heap.get? := funext h
  rw [e] <;> rfl
section
variable {chk : PySem.W.Frag → Bool} {fn : List He.DefD} {K : PySem.W.Frag}
theorem SaysC.chk_ (c : SaysC chk fn K) : chk K = true := (He.ba (show (chk K && fn.all fun d => d.ok K) = true from congrArg (fun z : He.AlD => z.1) c)).1
theorem SaysC.def_ (c : SaysC chk fn K) (i : Nat) {d : He.DefD} (h : fn[i]? = some d) : ∃ fd, FunD K d.name d.qual d.params d.body d.scope (d.dvs K) (d.kws K) (He.fAd K d.at_) fd := by
  have c2 := (He.ba (show (chk K && fn.all fun d => d.ok K) = true from congrArg (fun z : He.AlD => z.1) c)).2
  have e : fn.map (fun d => He.fnW K d.at_) = fn.map He.DefD.val := congrArg (fun z : He.AlD => z.2) c
  have e2 : (fn.map fun d => He.fnW K d.at_)[i]? = (fn.map He.DefD.val)[i]? := by rw [e]
  rw [List.getElem?_map, List.getElem?_map, h] at e2
  exact He.DefD.funD (Option.some.inj e2) (List.all_eq_true.mp c2 d (List.mem_of_getElem? h))
end
/-! ### the end -/
/-- the law's def at the heap behind the top -/
theorem law_dn {P : Program} {w : World} {K : PySem.W.Frag} {mg mb : Str → Option Value} {k key : Nat} {F : Fns} {fa a : Addr} {fd : FuncData} {x : Str} {s₁ : Shared} {vs : List Value} {ns : List Int}
    (KX : K.In s₁.heap) (hns : s₁.heap.Ns mainGlobals mg) (hb : s₁.heap.Ns builtinsNs mb) (hbb : ∀ x : Str, x ≠ "__name__" → mb x = bootBuiltins x) (hlim : s₁.heap.NoLimit) (hg : s₁.gens = #[])
    (ha : s₁.heap.get? a = some { cls := .type "list", data := .seq vs.toArray }) (hi : IntsAre vs ns) (hl : ns.length ≤ sizeLine) (hr : RoomG k callerA)
    (G : ∀ hp : Heap, K.In hp → hp.Ns mainGlobals mg → FnG P w K mg hp k fa fd [x] (spF K F key 1)) (hbind : ∀ (s : Shared) (u : Value), BindsTo s fd ⟨[u], []⟩ [(x, u)]) (run : ∃ S, F key [.scr ns] [] = .ok (.bl true) S) :
    codeAny (model P w) callerA (.call (.ref fa) ⟨[.ref a], []⟩) (fun r s' => r = .ok (.ret (.bool true)) ∧ OldK s₁.heap s'.heap ∧ s'.os = s₁.os ∧ AllBare s'.gens) s₁ := by
  have vints := vals_ints hi
  have vlen := hi.length
  -- an abstract heap that tells of the script alone, or of nothing
  have main : ∀ T : Hp, (∀ b u, T b = some u → b = a ∧ ∃ o xs, u = .frz o (.lst xs)) → HOk P w T s₁.heap → (T a ≠ none → K.lookup a = none) → Rep K ⟨[], []⟩ T (.scr ns) (.ref a) →
      codeAny (model P w) callerA (.call (.ref fa) ⟨[.ref a], []⟩) (fun r s' => r = .ok (.ret (.bool true)) ∧ OldK s₁.heap s'.heap ∧ s'.os = s₁.os ∧ AllBare s'.gens) s₁ := by
    intro T tOnly tOk tK tRep
    have tDict : ∀ {b : Addr} {o : Obj} {es : Array DictEntry} {ep : Nat}, s₁.heap.get? b = some o → o.data = .dict es ep → T b = none := fun {b o es ep} eb db => by
      cases tb : T b with
      | none => rfl
      | some u =>
        have ea := (tOnly b u tb).1
        rw [ea, ha] at eb
        cases eb
        cases db
    have tNs : ∀ {b : Addr} {m : Str → Option Value}, s₁.heap.Ns b m → (hidT s₁.heap T).Ns b m := fun {b m} ⟨o, es, ep, e1, e2, e3⟩ => ⟨o, es, ep, hidT_get e1 (tDict e1 e2), e2, e3⟩
    have tIn : K.In (hidT s₁.heap T) := fun b o kb => hidT_get (KX b o kb) (by
      cases tb : T b with
      | none => rfl
      | some u =>
        have ea := (tOnly b u tb).1
        rw [ea] at kb tb
        rw [tK (by rw [tb]; exact fun z => nomatch z)] at kb
        cases kb)
    have tMod : Mod K mg (hidT s₁.heap T) := by
      refine ⟨tIn, tNs hns, ⟨mb, tNs hb, hbb⟩, ?_⟩
      obtain ⟨mc, c1, c2⟩ := hlim
      exact ⟨mc, tNs c1, c2⟩
    have tE0 : Env0 P w K mg (hidT s₁.heap T) callerA [] s₁ T := by
      refine ⟨rfl, tMod, fun b o eb => of_hidT eb, Nat.le_of_eq (hidT_size _ _), trivial, fun b bm => ?_, tOk, .of_eq hg⟩
      exact absurd (show b ∈ ([] : List Addr) from bm) (by simp)
    obtain ⟨Sx, ex⟩ := run
    have tSp : spF K F key 1 [V.ref a] T (fun v _ => v = .bl true) (fun _ _ _ => False) := by
      refine ⟨⟨[], []⟩, [], [.scr ns], rfl, ⟨rfl, List.nodup_nil, fun b bm => absurd bm (by simp), fun m b o e1 _ => by simp at e1⟩, ⟨.ref a, [], rfl, tRep, rfl⟩, ?_⟩
      rw [ex]
      exact fun q H' f s v r => r
    refine codeAny_mono ((G _ tIn (tNs hns)).run callerA [] s₁ T ⟨[.ref a], []⟩ [.ref a] [V.ref a] _ _ hr tE0 (hbind s₁ (.ref a)) (.cons rfl .nil) tSp) fun res s' hres => ?_
    cases res with
    | error er =>
      obtain ⟨_, _, _, _, _, _, _, _, _, _, _, _, z⟩ := hres
      exact z.elim
    | ok fl =>
      cases fl with
      | ret u =>
        obtain ⟨v, T', os', bare', un', ok', rv, ev⟩ := hres
        have ev : v = .bl true := ev
        subst ev
        have eu : u = Value.bool true := rv
        subst eu
        refine ⟨rfl, OldK.of_keep fun b o eb => ?_, os', bare'⟩
        cases tb : T b with
        | none => exact un'.keep b o eb tb (by intro z; exact absurd (show b ∈ ([] : List Addr) from z) (by simp)) (by simp)
        | some u =>
          obtain ⟨_, ob, xs, eu⟩ := tOnly b u tb
          rw [eu] at tb
          have k1 := (tOk b _ tb).1
          have k2 := (ok' b _ (un'.frzs b ob _ tb)).1
          rw [eb] at k1
          cases k1
          exact k2
      | next => exact False.elim hres
      | brk => exact False.elim hres
      | cont => exact False.elim hres
  cases hk : K.lookup a with
  | some o =>
    have eo := KX a o hk
    rw [ha] at eo
    cases eo
    exact main (fun _ => none) (fun b u z => nomatch (show (none : Option HO) = some u from z)) (fun b u z => nomatch (show (none : Option HO) = some u from z)) (fun z => absurd rfl z)
      ⟨a, rfl, .inr ⟨_, vs.toArray, _, hk, rfl, rfl, rfl, by rw [List.size_toArray, vlen]; exact hl, by simpa using vints⟩⟩
  | none =>
    refine main (fun b => if b = a then some (.frz { cls := .type "list", data := .seq vs.toArray } (.lst (ns.map V.int))) else none) (fun b u z => ?_) (fun b u z => ?_) (fun _ => hk) ⟨a, rfl, .inl ⟨_, if_pos rfl⟩⟩
    · by_cases eb : b = a
      · rw [if_pos eb] at z
        cases z
        exact ⟨eb, _, _, rfl⟩
      · rw [if_neg eb] at z
        cases z
    · dsimp only at z
      by_cases eb : b = a
      · rw [if_pos eb] at z
        cases z
        rw [eb]
        exact ⟨ha, by rw [List.length_map]; exact hl, vs, _, vints, ha⟩
      · rw [if_neg eb] at z
        cases z
theorem walk_dn {l : PySem.W.OpenLaw} {n k : Nat} {q : Program} {loose : List Str} {XP : (Str → Option Value) → Heap → Prop} {YP : World → Heap → Prop} {d : DefRec} {x : Str} {key : Nat} {F : Fns}
    (hn : l.most = some n) (hn2 : n ≤ sizeLine) (hdf : d.params.defaults = []) (hr : RoomG k callerA)
    (G : ∀ (w : World) (mg : Str → Option Value) (fa : Addr) (h : Heap), YP w h → h.Ns mainGlobals mg → mg d.name = some (.ref fa) →
      ∃ (K : PySem.W.Frag) (fd : FuncData), K.In h ∧ (∀ (s : Shared) (u : Value), BindsTo s fd ⟨[u], []⟩ [(x, u)]) ∧
        ∀ hp : Heap, K.In hp → hp.Ns mainGlobals mg → FnG l.prog w K mg hp k fa fd [x] (spF K F key 1))
    (run : ∀ ns : List Int, ns.length ≤ n → (∀ z ∈ ns, Builtin.Int.intBits z ≤ 1048576) → ∃ S, F key [.scr ns] [] = .ok (.bl true) S) :
    PySem.W.WalkO q loose XP YP l.row.toRowW d [] (fun f vs => PySem.call f vs) := by
  refine Att.attach_callB hn hdf fun w s₀ s₁ mg mb fa o pm cd doc a vs ns G' Y ho hd hcd hmg hobj hints hlen hbits hg => ?_
  obtain ⟨K, fd, KX, hb, hF⟩ := G w mg fa _ Y G'.T.g hmg
  exact law_dn KX G'.T.g G'.T.b G'.T.builtins G'.T.nolimit hg hobj hints (Nat.le_trans hlen hn2) hr hF hb (run ns hlen hbits)
end Dn

set_option Elab.async false
set_option linter.all false
set_option maxRecDepth 100000
set_option maxHeartbeats 400000
namespace Dn
open PySem PySem.Spec PyProof.Rows L2
/-! ### fields -/
def fldO (cs : List Str) (f : Str) (d : D) (S : Sto) : Option D := match d with
  | .ref n => (match S[n]? with
    | some (.ins c fs) => if c ∈ cs then fs.lookup f else none
    | _ => none)
  | _ => none
theorem fldO_some {cs : List Str} {f : Str} {d o : D} {S : Sto} (h : fldO cs f d S = some o) : ∃ n c fs, c ∈ cs ∧ d = .ref n ∧ S[n]? = some (.ins c fs) ∧ fs.lookup f = some o := by
  cases d with
  | ref n =>
    have h : (match S[n]? with
      | some (.ins c fs) => if c ∈ cs then fs.lookup f else none
      | _ => none) = some o := h
    cases e : S[n]? with
    | none => rw [e] at h; cases h
    | some ob =>
      rw [e] at h
      cases ob with
      | ins c fs =>
        have h : (if c ∈ cs then fs.lookup f else none) = some o := h
        by_cases hc : c ∈ cs
        · rw [if_pos hc] at h
          exact ⟨n, c, fs, hc, rfl, e, h⟩
        · rw [if_neg hc] at h
          cases h
      | _ => cases h
  | _ => cases h
theorem RepF.look {K : PySem.W.Frag} {p : Wl} {H : Hp} {f : Str} {d : D} : ∀ {l : List (Str × D)} {vs : List (Str × V)}, RepF K p H l vs → l.lookup f = some d → ∃ v, vs.lookup f = some v ∧ Rep K p H d v
  | [], _, _, e => by cases e
  | (k, x) :: r, _, h, e => by
    obtain ⟨v, ws, e1, h1, h2⟩ := h
    rw [e1]
    rw [List.lookup_cons] at e ⊢
    cases q : (f == k) with
    | true =>
      rw [q] at e
      cases e
      exact ⟨v, rfl, h1⟩
    | false =>
      rw [q] at e
      exact h2.look e
theorem RepF.lookN {K : PySem.W.Frag} {p : Wl} {H : Hp} {f : Str} : ∀ {l : List (Str × D)} {vs : List (Str × V)}, RepF K p H l vs → l.lookup f = none → vs.lookup f = none
  | [], _, h, e => by rw [show _ = [] from h]; rfl
  | (k, x) :: r, _, h, e => by
    obtain ⟨v, ws, e1, h1, h2⟩ := h
    rw [e1]
    rw [List.lookup_cons] at e ⊢
    cases q : (f == k) with
    | true => rw [q] at e; cases e
    | false => rw [q] at e; exact h2.lookN e
def putD (f : Str) (d : D) : List (Str × D) → List (Str × D)
  | [] => [(f, d)]
  | (g, x) :: r => if g = f then (g, d) :: r else (g, x) :: putD f d r
theorem RepF.put {K : PySem.W.Frag} {p : Wl} {H : Hp} {f : Str} {d : D} {v : V} (hr : Rep K p H d v) : ∀ {l : List (Str × D)} {vs : List (Str × V)}, RepF K p H l vs → RepF K p H (putD f d l) (putF f v vs)
  | [], _, h => by rw [show _ = [] from h]; exact ⟨v, [], rfl, hr, rfl⟩
  | (k, x) :: r, _, h => by
    obtain ⟨w, ws, e1, h1, h2⟩ := h
    rw [e1]
    unfold putD putF
    by_cases q : k = f
    · rw [if_pos q, if_pos q]; exact ⟨v, ws, rfl, hr, h2⟩
    · rw [if_neg q, if_neg q]; exact ⟨w, _, rfl, h1, h2.put hr⟩
section
variable {X : Cx} {W : WX} {F : Fns} {pos pos' : Pos} {a b : Expr} {es : List Expr} {x y : XE} {xs : XEs}
def xFld (cs : List Str) (f : Str) (a : XE) : XE := fun F e => (a F e).bind fun d S => ofO (fldO cs f d S) S
theorem de_fld {cs : List Str} {f : Str} (hc : ∀ c ∈ cs, Cls X.K (He.ga X.K c) ∧ NoAttr X.K (He.ga X.K c) f) (ha : DE X W F a x) (hb : attributeBase a f X.env (eval a X.env) = eval a X.env) : DE X W F (.Attribute a f pos) (xFld cs f x) := by
  refine PE.imp (pe_fld ha hb) ?_
  rintro σ H Q ⟨p, e, S, sr, re, h⟩
  refine ⟨p, e, S, sr, re, h.bind.imp fun d S1 q H' f1 s1 h1 v r => ?_⟩
  obtain ⟨o, eo, h2⟩ := wp_ofO h1 s1
  obtain ⟨n, c, fs, hm, rfl, e1, e2⟩ := fldO_some eo
  obtain ⟨ad, h3, rfl⟩ := r
  obtain ⟨dx, vs, h4, _, h5⟩ := s1.obj n ad _ h3 e1
  obtain ⟨w, h6, h7⟩ := h5.look e2
  exact ⟨ad, _, dx, vs, w, rfl, h4, (hc c hm).1, (hc c hm).2, h6, h2 w h7⟩
/-- o.f = v -/
def evPutF (cs : List Str) (f : Str) (d v : D) : M Unit := fun S => match d with
  | .ref n => (match S[n]? with
    | some (.ins c fs) => if c ∈ cs ∧ fs.length < 1000 then .ok () (S.set n (.ins c (putD f v fs))) else .bad
    | _ => .bad)
  | _ => .bad
def sFldP (cs : List Str) (f : Str) (o v : XE) : XS := fun F e => eS ((v F e).bind fun d => (o F e).bind fun r => evPutF cs f r d) e fun _ S => .nx e S
theorem ds_fld {cs : List Str} {f : Str} (hc : ∀ c ∈ cs, Cls X.K (He.ga X.K c) ∧ NoAttr X.K (He.ga X.K c) f) (ho : DE X W F a x) (hv : DE X W F b y) (hs : swapsWith b (some (.Attribute a f pos')) pos.line X.env = pure false) : DS X W F (.Assign [.Attribute a f pos'] b pos) (sFldP cs f x y) := by
  refine PS.imp (ps_fld ho hv hs) ?_
  rintro N σ H ⟨p, e, S, sr, re, h⟩
  have h := h.eS re
  refine ⟨p, e, S, sr, re, h.bind.imp fun d S1 q1 H1 f1 s1 h1 w r1 => ?_⟩
  refine ⟨q1, e, S1, s1, re.fw f1, h1.bind.imp fun o S2 q2 H2 f2 s2 h2 u r2 => ?_⟩
  cases o with
  | ref n =>
    unfold evPutF at h2
    dsimp only at h2
    cases e1 : S2[n]? with
    | none => rw [e1] at h2; exact h2.elim
    | some ob =>
      rw [e1] at h2
      cases ob with
      | ins c fs =>
        dsimp only at h2
        by_cases hq : c ∈ cs ∧ fs.length < 1000
        · rw [if_pos hq] at h2
          obtain ⟨hm, hl⟩ := hq
          obtain ⟨ad, h3, rfl⟩ := r2
          obtain ⟨dx, vs, h4, h5, h6⟩ := s2.obj n ad _ h3 e1
          refine ⟨ad, _, dx, vs, rfl, h4, (hc c hm).1, (hc c hm).2, by rw [h6.length]; exact hl, ?_⟩
          have hin : ad ∈ q2.s := List.mem_of_getElem? h3
          have fp : Fw q2 H2 q2 (upd H2 ad (.ins (He.ga X.K c) dx (putF f w vs))) := Fw.put s2 hin
          have hdx : dx ≠ ad := fun z => by rw [z, h4] at h5; cases h5
          have sp : SR X.K q2 (S2.set n (.ins c (putD f d fs))) (upd H2 ad (.ins (He.ga X.K c) dx (putF f w vs))) := s2.put h3 ⟨dx, _, upd_same, by rw [upd_ne hdx]; exact h5, (h6.put (r1.fw f2)).fw fp⟩
          exact h2 q2 _ fp sp q2 _ σ (Fw.refl _ _) sp ((re.fw (f1.trans f2)).fw fp)
        · rw [if_neg hq] at h2; exact h2.elim
      | _ => exact h2.elim
  | _ => exact h2.elim
/-! ### a new instance -/
theorem RoomG.in1 {k : Nat} {A : Around} (r : RoomG (k + 1) A) : RoomG k A.in1 := ⟨r.room.in1, r.gd⟩
theorem RoomG.make {k : Nat} {A : Around} (r : RoomG (k + 1) A) (C : Addr) (us : List Value) (kw : List (Str × Value)) : RoomG k (A.under (.builtin "type.__call__" ⟨.ref C :: us, kw⟩)) := ⟨r.room.make C us kw, by
  have := r.gd
  first | exact this | simpa [Around.under, Code.weight, Code.isCreation, Code.isGuard, Code.isCaller, Code.frames, Code.isFrame, guardIds] using this⟩
/-- C(..) -/
def xNew (c : Str) (f : Nat) (n : Nat) (xs : XEs) : XE := fun F e => (xs F e).bind fun ds S => if ds.length + 1 = n then ((F f (.ref S.length :: ds)).bind fun d => if d = .non then M.pure (.ref S.length) else stuck) (S ++ [.ins c []]) else .bad
theorem run_new {k : Nat} {C fa : Addr} {fd : FuncData} {ps : List Str} {sp : Sp} {pins : List (Addr × Obj)} {σ : L2.St} {H : Hp} {s : Shared} {Q : VK} {us : List Value} {vs : List V} (M : Mk X.K C fa) (G : FnG X.prog X.w X.K X.mg X.base k fa fd ps sp) (hr : RoomG (k + 1) X.A) (hb : Binds X.K fd ps []) (tk : Takes X W)
    (I : Inv X pins σ H s) (r : Vals vs us)
    (h : ∀ x dx, H x = none → H dx = none → dx ≠ x → sp (.ref x :: vs) (upd (upd H dx (.own x)) x (.ins C dx [])) (fun v H2 => v = .non ∧ Q (.ref x) H2) (WE W σ)) :
    wpAny (model X.prog X.w) X.A (call (.ref C) us) (EP X pins σ Q) X.xe s := by
  have hq := h (s.heap.objs.size + 1) s.heap.objs.size (I.hok.fresh (Nat.le_succ _)) (I.hok.fresh (Nat.le_refl _)) (Nat.ne_of_lt (Nat.lt_succ_self _))
  have I2 := Inv.made (C := C) I
  have r2 : Vals (V.ref (s.heap.objs.size + 1) :: vs) (Value.ref (s.heap.objs.size + 1) :: us) := .cons rfl r
  have hl : (Value.ref (s.heap.objs.size + 1) :: us).length = ps.length := by
    have e := r2.length
    rw [G.len _ _ _ _ hq] at e
    exact e.symm
  have bs := hb { s with heap := (s.heap.push PySem.W.emptyDict).push (PySem.W.instObj C s.heap.objs.size) } (Value.ref (s.heap.objs.size + 1) :: us) I2.kIn (by rw [List.append_nil]; exact hl)
  rw [List.append_nil] at bs
  refine wpAny_call (make_map (f := fa) I.kIn M.makes M.init (beq_iff_eq.mp M.fn) (codeAny_mono (G.run _ X.stack _ _ ⟨Value.ref (s.heap.objs.size + 1) :: us, []⟩ (Value.ref (s.heap.objs.size + 1) :: us) _ _ _ (hr.make C us [])
    (I2.env0.make C us []) bs r2 hq) fun r s' hq' => ?_))
  cases r with
  | error e => exact tk e s' (XE.of_call I2 (fun _ _ _ z => z) hq')
  | ok fl =>
    cases fl with
    | ret u =>
      obtain ⟨v, H', I3, rv, ev, q3⟩ := I2.after hq'
      subst ev
      exact ⟨rv, ⟨V.ref (s.heap.objs.size + 1), H', I3, rfl, q3⟩⟩
    | next => exact False.elim hq'
    | brk => exact False.elim hq'
    | cont => exact False.elim hq'
theorem de_new {c : Str} {f : Nat} {fa : Addr} {fd : FuncData} {ps : List Str} {k : Nat} {p' : Pos} (M : Mk X.K (He.ga X.K c) fa) (G : FnG X.prog X.w X.K X.mg X.base k fa fd ps (spF X.K F f ps.length)) (hr : RoomG (k + 1) X.A) (hg : Gl X c) (hm : X.mg c = some (.ref (He.ga X.K c)))
    (hb : Binds X.K fd ps []) (tk : Takes X W) (ha : DA X W F (a :: es) xs) (hdb : (c == ("__debug__" : Str)) = false)
    (he : starEach (a :: es) X.env = (false, eval a X.env) :: starEach es X.env) (hpl : (backTo pos (starEach es X.env)).any (·.1) = false) : DE X W F (.Call (.Name c p') (a :: es) [] pos) (xNew c f ps.length xs) := by
  have base : PE X (.Call (.Name c p') (a :: es) [] pos) (fun σ H Q => tA X.K W F xs σ H fun vs H1 => ∀ x dx, H1 x = none → H1 dx = none → dx ≠ x → spF X.K F f ps.length (.ref x :: vs) (upd (upd H1 dx (.own x)) x (.ins (He.ga X.K c) dx [])) (fun v H2 => v = .non ∧ Q (.ref x) H2) (WE W σ)) := by
    refine ⟨fun pins s σ H Q I h => wpAny_Call_Name_kw (ld_glob I hg hm ?_ hdb)⟩
    refine PySem.W.callWith_K (h₀ := X.base) I.ok.mod.kin M.kp (thn (ha.run pos pins s σ H _ I h) fun us s1 ⟨vs, H1, I1, r, q⟩ => ⟨I1.kIn, ?_⟩) he hpl
    exact run_new M G hr hb tk I1 r q
  refine PE.imp base ?_
  rintro σ H Q ⟨p, e, S, sr, re, h⟩
  refine ⟨p, e, S, sr, re, h.bind.imp fun ds S1 q H' f1 s1 h1 vs r ad dx na nd ne => ?_⟩
  by_cases hl : ds.length + 1 = ps.length
  · rw [if_pos hl] at h1
    have e1 : (upd (upd H' dx (.own ad)) ad (.ins (He.ga X.K c) dx [])) ad = some (.ins (He.ga X.K c) dx []) := upd_same
    have fa0 : Fw q H' q (upd H' dx (.own ad)) := Fw.new nd
    have na1 : (upd H' dx (.own ad)) ad = none := by rw [upd_ne ne.symm]; exact na
    have s2 : SR X.K q S1 (upd H' dx (.own ad)) := s1.new nd
    have fb : Fw q (upd H' dx (.own ad)) (q.add ad) (upd (upd H' dx (.own ad)) ad (.ins (He.ga X.K c) dx [])) := Fw.alloc na1
    have s3 : SR X.K (q.add ad) (S1 ++ [.ins c []]) (upd (upd H' dx (.own ad)) ad (.ins (He.ga X.K c) dx [])) :=
      s2.push na1 fb (fun b u hb => by rw [upd_ne (ne_of_none hb na1)]; exact hb) ⟨dx, [], upd_same, by rw [upd_ne ne, upd_same], rfl⟩
    have ff := fa0.trans fb
    refine ⟨q.add ad, _, .ref S1.length :: ds, by rw [List.length_cons]; exact hl, s3, ⟨.ref ad, vs, rfl, ⟨ad, ?_, rfl⟩, r.fw ff⟩, ?_⟩
    · show (q.s ++ [ad])[S1.length]? = some ad
      rw [← s1.len, List.getElem?_append_right (Nat.le_refl _)]
      simp
    · refine ((h1.later ff).bind).imp fun d S2 q2 H2 f2 s4 h2 v rv => ?_
      obtain ⟨rfl, h3⟩ := wp_if h2
      refine ⟨rv, Wp.ok h3 s4 _ ⟨ad, ?_, rfl⟩⟩
      refine f2.at ?_
      show (q.s ++ [ad])[S1.length]? = some ad
      rw [← s1.len, List.getElem?_append_right (Nat.le_refl _)]
      simp
  · rw [if_neg hl] at h1
    exact h1.elim
end
end Dn

set_option Elab.async false
set_option linter.all false
set_option maxRecDepth 100000
set_option maxHeartbeats 400000
namespace Dn
open PySem PySem.Spec PyProof.Rows L2
/-! ### list + list, list * int, tuple * int -/
def lstOf (d : D) (S : Sto) : Option (List D) := match d with
  | .tmp l => some l
  | .ref n => (match S[n]? with
    | some (.lst l) => some l
    | _ => none)
  | _ => none
theorem Rep.lst {K : PySem.W.Frag} {p : Wl} {S : Sto} {H : Hp} {d : D} {v : V} {l : List D} (r : Rep K p H d v) (s : SR K p S H) (h : lstOf d S = some l) : ∃ a vs, v = .ref a ∧ H a = some (.lst vs) ∧ RepL K p H l vs := by
  cases d with
  | tmp m =>
    cases h
    obtain ⟨a, vs, e, h1, _, _, h2⟩ := r
    exact ⟨a, vs, e, h1, h2⟩
  | ref n =>
    have h : (match S[n]? with
      | some (.lst l) => some l
      | _ => none) = some l := h
    obtain ⟨a, ha, e⟩ := r
    cases q : S[n]? with
    | none => rw [q] at h; cases h
    | some o =>
      rw [q] at h
      cases o with
      | lst m =>
        cases h
        obtain ⟨vs, h1, h2⟩ := s.obj n a _ ha q
        exact ⟨a, vs, e, h1, h2⟩
      | _ => cases h
  | _ => cases h
def evAddA (al : Bool) : E2 := fun d1 d2 S => match lstOf d1 S with
  | some l => (match lstOf d2 S with
    | some m => mkL al (l ++ m) S
    | none => .bad)
  | none => evAdd d1 d2 S
theorem RepL.rep {K : PySem.W.Frag} {p : Wl} {H : Hp} {l : List D} {vs : List V} (h : RepL K p H l vs) : ∀ k : Nat, RepL K p H (List.replicate k l).flatten (List.replicate k vs).flatten
  | 0 => rfl
  | k + 1 => by
    rw [List.replicate_succ, List.replicate_succ, List.flatten_cons, List.flatten_cons]
    exact h.append (h.rep k)
section
variable {X : Cx}
theorem op_dnAddA {al : Bool} : OpR X (binaryOp .Add) (r2 X.K (evAddA al)) := by
  rintro pins s σ H v w uv uw Q I rv rw' ⟨p, S, d1, d2, sr, h1, h2, E, h, hE⟩
  unfold evAddA at h
  cases e1 : lstOf d1 S with
  | none =>
    rw [e1] at h
    exact op_dnAdd pins s σ H v w uv uw Q I rv rw' ⟨p, S, d1, d2, sr, h1, h2, E, h, hE⟩
  | some l =>
    rw [e1] at h
    cases e2 : lstOf d2 S with
    | none => rw [e2] at h; exact h.elim
    | some m =>
      rw [e2] at h
      obtain ⟨a, vs, ea, h3, h4⟩ := h1.lst sr e1
      obtain ⟨b, ws, eb, h5, h6⟩ := h2.lst sr e2
      obtain ⟨hz, q⟩ := wp_mk h sr (h4.append h6)
      rw [List.length_append] at hz
      exact op_cat pins s σ H v w uv uw Q I rv rw' ⟨a, b, vs, ws, ea, eb, h3, h5, hz, q⟩
end
/-- tuple * 1, tuple * 0 -/
theorem tup_mul1 (l : Addr) (items : Array Value) (n : Nat) (dd : Option Addr) (sl : Array (Option Value)) (u : Tok) :
    Meets (Builtin.«tuple.__mul__» ⟨[.ref l, .int 1 u], []⟩) (fun _ R s => s.heap.get? l = some { cls := .type "tuple", dict := dd, data := .seq items n, slots := sl } ∧ R (.ok (.ret (Value.ref l))) s) :=
  .of_wp fun prog w A R s h => by
    obtain ⟨hp, g, d, tk, os⟩ := s
    obtain ⟨hl, h⟩ := h
    have f1 := AutoSeq1.idx_int
    have c0 : (decide ((1 : Int) < -(2 ^ 63)) || decide ((1 : Int) ≥ 2 ^ 63)) = false := by decide
    have c1 : (items.isEmpty || ((1 : Int) == 1)) = true := by rw [Bool.or_eq_true]; exact .inr rfl
    wp_walk using wpAny_loadPart' hl
    repeat (first
      | (refine wpAny_ite_false (decide_eq_false (by rw [c0]; exact Bool.false_ne_true)) ?_; wp_walk using wpAny_loadPart' hl)
      | (refine wpAny_ite_true (decide_eq_true c1) ?_; wp_walk using wpAny_loadPart' hl))
    exact ⟨_, rfl, h⟩
theorem tup_mul0 (l : Addr) (items : Array Value) (n : Nat) (dd : Option Addr) (sl : Array (Option Value)) (u : Tok) (hi : items.isEmpty = false) :
    Meets (Builtin.«tuple.__mul__» ⟨[.ref l, .int 0 u], []⟩) (fun _ R s => s.heap.get? l = some { cls := .type "tuple", dict := dd, data := .seq items n, slots := sl } ∧
      R (.ok (.ret (Value.ref s.heap.objs.size))) { s with heap := s.heap.push { cls := Value.type "tuple", data := Data.seq #[] }, toks := s.toks }) :=
  .of_wp fun prog w A R s h => by
    obtain ⟨hp, g, d, tk, os⟩ := s
    obtain ⟨hl, h⟩ := h
    have f1 := AutoSeq1.idx_int
    have c0 : (decide ((0 : Int) < -(2 ^ 63)) || decide ((0 : Int) ≥ 2 ^ 63)) = false := by decide
    have c1 : (items.isEmpty || ((0 : Int) == 1)) = false := by rw [hi]; rfl
    have c2 : (decide ((0 : Int) ≤ 0) || items.isEmpty) = true := by rw [Bool.or_eq_true]; exact .inl (by decide)
    wp_walk using wpAny_loadPart' hl
    repeat (first
      | (refine wpAny_ite_false (decide_eq_false (by rw [c0]; exact Bool.false_ne_true)) ?_; wp_walk using wpAny_loadPart' hl)
      | (refine wpAny_ite_false (decide_eq_false (by rw [c1]; exact Bool.false_ne_true)) ?_; wp_walk using wpAny_loadPart' hl)
      | (refine wpAny_ite_true (decide_eq_true c2) ?_; wp_walk using wpAny_loadPart' hl))
    exact ⟨_, rfl, h⟩
end Dn

set_option Elab.async false
set_option linter.all false
set_option maxRecDepth 100000
set_option maxHeartbeats 400000
namespace Dn
open PySem PySem.Spec PyProof.Rows L2
open AutoSeq1 (wpAny_loadPart')
/-! ### enumerate -/
def enumD (k : Nat) : List D → List D
  | [] => []
  | d :: r => .tup [.int (k : Nat), d] :: enumD (k + 1) r
theorem enumD_length : ∀ (k : Nat) (l : List D), (enumD k l).length = l.length
  | _, [] => rfl
  | k, d :: r => by show (enumD (k + 1) r).length + 1 = r.length + 1; rw [enumD_length]
theorem enumD_get : ∀ (k : Nat) (l : List D) (i : Nat), (enumD k l)[i]? = (l[i]?).map fun d => .tup [.int ((k + i : Nat) : Int), d]
  | _, [], i => by simp [enumD]
  | k, d :: r, 0 => by simp [enumD]
  | k, d :: r, i + 1 => by
    show (enumD (k + 1) r)[i]? = (r[i]?).map _
    rw [enumD_get, show k + 1 + i = k + (i + 1) by omega]
def enIt (d : D) (S : Sto) : Option (List D × Gd) := match d with
  | .str _ => none
  | d => (seqIt d S).map fun lg => (enumD 0 lg.1, lg.2)
def itEnum (x : XE) : XI := fun F e => (x F e).bind fun d S => ofO (enIt d S) S
/-- the tuple at a, each item in a new pair -/
def IteT (K : PySem.W.Frag) (a : Addr) : It :=
  ⟨fun i H => ∃ (xs : List V) (x : V), SqT K H a xs ∧ xs[i]? = some x, fun i H v H' => ∃ T x, v = .ref T ∧ H T = none ∧ H' = upd H T (.tup [.int (i : Nat), x]) ∧ ∀ xs, SqT K H a xs → xs[i]? = some x, fun i H => ∃ xs : List V, SqT K H a xs ∧ xs.length ≤ i⟩
theorem turn_enumT {P : Program} {w : World} {K : PySem.W.Frag} {elts : List Expr} {kk : Nat} {tpos : Pos} (a e it : Addr) :
    Turn P w K (.Tuple elts kk tpos) (IteT K a) [e, it] e (fun i h => (∃ old, IsEnum h e it ((i : Nat) : Int) old) ∧ h.IsTupleIter it a i ∧ e ≠ it) where
  mem := by simp
  obj := fun i h st b hb => by
    obtain ⟨⟨old, he⟩, ⟨o, ho, hc, hd⟩, _⟩ := st
    have e' : b = e ∨ b = it := by simpa using hb
    rcases e' with z | z
    · rw [z]; exact ⟨_, he, fun v q => nomatch q⟩
    · rw [z]; exact ⟨o, ho, fun v q => by rw [hd] at q; cases q⟩
  keep := fun i h h' st k => let ⟨⟨old, he⟩, hi, hne⟩ := st; ⟨⟨old, k e (by simp) _ he⟩, hi.at fun o q => k it (by simp) o q, hne⟩
  item := by
    intro X hP hw hK hc i pins s σ H E I hf st hg
    subst hP hw hK
    obtain ⟨⟨old, he⟩, hit, hne⟩ := st
    obtain ⟨xs, x, hq, hx⟩ := hg
    obtain ⟨its, rv, p, hz⟩ := I.tuple hq
    obtain ⟨u, hu, ru⟩ := rv.get hx
    have hel : e < s.heap.objs.size := Heap.lt_size he
    have hil : it < s.heap.objs.size := by obtain ⟨_, q, _⟩ := hit; exact Heap.lt_size q
    have hp : s.heap.IsTuple a its.toArray := p
    have hai : a ≠ it := fun z => by
      obtain ⟨o1, q1, c1, _⟩ := hp
      obtain ⟨o2, q2, c2, _⟩ := hit
      rw [z, q2] at q1
      cases q1
      rw [c2] at c1
      exact absurd c1 (by decide)
    have hae : a ≠ e := fun z => by
      obtain ⟨o1, q1, c1, _⟩ := hp
      rw [z, show s.heap.get? e = _ from he] at q1
      cases q1
      exact absurd (show Value.type "enumerate" = Value.type "tuple" from c1) (by decide)
    have hlt : i < its.toArray.size := by
      have := (List.getElem?_eq_some_iff.mp hu).1
      simpa using this
    refine wpAny_pyNext_enum_itemD (Draws.tuple (A := X.A.in1) (show X.A.in1.handled = none from I.ok.hd hc) it a hai its.toArray) he ⟨hit, hp⟩ hlt hne (by simp [hne, hae.symm]) fun y h' tk hy ho hst hT hsz hk => ?_
    have ey : y = u := by
      have hy : its.toArray[i]? = some y := hy
      have hu' : its.toArray[i]? = some u := by simpa using hu
      rw [hu'] at hy
      exact (Option.some.inj hy).symm
    subst ey
    refine ⟨_, rfl, wpAny_letOwnedTupleGo_enum (s := { s with heap := h', toks := tk + 1 }) ho fun h'' he' sb => ?_⟩
    have hT2 : h''.get? s.heap.objs.size = some { cls := .type "tuple", data := .seq #[.int i tk, y] } := (sb.2 _ (Nat.ne_of_gt hel)).trans hT
    have new : ObjOk X.prog X.w (upd H s.heap.objs.size (.tup [.int (i : Nat), x])) h'' s.heap.objs.size (.tup [.int (i : Nat), x]) :=
      ⟨by show 2 ≤ sizeLine; decide, [.int i tk, y], .cons ⟨_, rfl⟩ (.cons ru .nil), ⟨_, hT2, rfl, _, rfl⟩⟩
    have I1 : Inv X pins σ (upd H s.heap.objs.size (.tup [.int (i : Nat), x])) { s with heap := h'', toks := tk + 1 } :=
      I.turnedNew (ch := [e, it]) (fun b ob hb q => (sb.2 b (fun z => hb (by simp [z]))).trans (hk b ob (fun z => hb (by simp [z])) (fun z => hb (by simp [z])) q)) hf (Nat.le_refl _) new
    refine ⟨.ref s.heap.objs.size, _, I1, rfl, ⟨_, x, rfl, I.hok.fresh (Nat.le_refl _), rfl, fun ys hy => by rw [I.tuple_inj hy hq]; exact hx⟩, ⟨⟨y, ?_⟩, hst.1.at fun o q => (sb.2 it (Ne.symm hne)).trans q, hne⟩, fun b hb => ?_⟩
    · have e1 : ((i + 1 : Nat) : Int) = (i : Int) + 1 := by omega
      rw [e1]; exact he'
    · have hb' : b < s.heap.objs.size := by
        have e' : b = e ∨ b = it := by simpa using hb
        rcases e' with z | z
        · rw [z]; exact hel
        · rw [z]; exact hil
      rw [upd_ne (Nat.ne_of_lt hb')]
      exact (hf b hb).1
  done := by
    intro X hP hw hK hc i pins s σ H E I hf st hg
    subst hP hw hK
    obtain ⟨⟨old, he⟩, hit, hne⟩ := st
    obtain ⟨xs, hq, hx⟩ := hg
    obtain ⟨its, rv, p, hz⟩ := I.tuple hq
    obtain ⟨f0, f1, f2, f3, f4, f5⟩ := hf it (by simp)
    have hl := rv.length
    have hp : s.heap.IsTuple a its.toArray := p
    have hT : s.TypeIs (.ref e) "enumerate" := ⟨_, he, rfl⟩
    unfold pyNext
    refine wpAny_bind (wpAny_attempt (wpAny_callSpecial?_slot (name := Str.ofString "__next__") hT F.slot_enumerate_next
      (wpAny_call_entry F.slot_enumerate_next hT F.entry_enumerate_next ?_ (F.args_enumerate_next_1 _))))
    show wpAny _ _ (field (.ref e) 2 >>= _) _ _ _
    refine wpAny_bind (wpAny_field he rfl (x := .ref it) rfl ?_)
    refine wpAny_bind (wpAny_nextOf_tuple_end (I.ok.hd hc) hit hp (by simp; omega) fun h' x he' hx' => ?_)
    obtain ⟨o, ho, hcc⟩ := hx'
    refine wpAny_bind (wpAny_isInstance (T := "StopIteration") (b := true) ⟨o, ho, hcc⟩ isSubtype_stop ?_)
    exact wpAny_pure ⟨rfl, I.turned (t' := s.toks) (fun b o hb q => he' b o hb q) f0 f1 f3 f4 f5⟩
  self := fun A i s Q E st h => let ⟨⟨_, he⟩, _⟩ := st; wpAny_pyIter_enum he h
theorem enum_newT (l : Addr) (items : Array Value) (n : Nat) (dct : Option Addr) (sl : Array (Option Value)) :
    Meets (Builtin.«enumerate.__new__» ⟨[.type "enumerate", .ref l], []⟩) (fun _ R s => s.heap.get? l = some { cls := .type "tuple", dict := dct, data := .seq items n, slots := sl } ∧
      R (.ok (.ret (.ref (s.heap.push { cls := .type "tuple_iterator", data := .fields #[.ref l, .int 0 0] }).objs.size)))
        { s with heap := (s.heap.push { cls := .type "tuple_iterator", data := .fields #[.ref l, .int 0 0] }).push { cls := .type "enumerate", data := .fields #[.none, .bool false, .ref s.heap.objs.size, rawInt 0, .none, .none] } }) :=
  .of_wp fun prog w A R s h => by
    obtain ⟨hp, g, d, tk, os⟩ := s; obtain ⟨hl, h⟩ := h
    have hsub := sub_enumerate
    have hL : Heap.IsTuple (Shared.heap ⟨hp, g, d, tk, os⟩) l items := ⟨_, hl, rfl, n, rfl⟩
    wp_walk using wpAny_loadPart' hl
    refine wpAny_stack_any fun st => wpAny_pure ?_
    split
    · rename_i c _ _ _ _ _
      cases (c == Value.type "enumerate")
      · wp_walk using wpAny_loadPart' hl, wpAny_pyIter_tuple hL
        exact ⟨_, rfl, h⟩
      · wp_walk using wpAny_loadPart' hl, wpAny_pyIter_tuple hL
        exact ⟨_, rfl, h⟩
    · wp_walk using wpAny_loadPart' hl, wpAny_pyIter_tuple hL
      exact ⟨_, rfl, h⟩
theorem call_enumT {prog : Program} {w : World} {A : Around} {E : Value → Shared → Prop} {s : Shared} {l : Addr} {items : Array Value} {Q : Value → Shared → Prop} (hL : s.heap.IsTuple l items)
    (h : ∀ h', IsEnum h' (s.heap.objs.size + 1) s.heap.objs.size 0 .none → h'.IsTupleIter s.heap.objs.size l 0 → h'.objs.size = s.heap.objs.size + 2 →
      (∀ b o, s.heap.get? b = some o → h'.get? b = some o) → Q (.ref (s.heap.objs.size + 1)) { s with heap := h' }) :
    wpAny (model prog w) A (call (.type "enumerate") [.ref l]) Q E s := by
  obtain ⟨⟨c, dct, dt, sl⟩, hl, hc, n, hd⟩ := hL
  replace hc : c = .type "tuple" := hc
  replace hd : dt = .seq items n := hd
  subst hc hd
  refine callType_new F.called_enumerate (by decide) (F.typeCall_enumerate_1 _) (F.newCall_enumerate_1 _) (fun obj => F.args_object_init_2 obj _) F.entry_enumerate_new
    (enum_newT l items n dct sl) ⟨hl, ?_⟩
  have hz : (s.heap.push { cls := .type "tuple_iterator", data := .fields #[.ref l, .int 0 0] }).objs.size = s.heap.objs.size + 1 := Heap.size_push ..
  show _ ∧ _
  rw [hz]
  have he : IsEnum ((s.heap.push { cls := .type "tuple_iterator", data := .fields #[.ref l, .int 0 0] }).push
      { cls := .type "enumerate", data := .fields #[.none, .bool false, .ref s.heap.objs.size, rawInt 0, .none, .none] }) (s.heap.objs.size + 1) s.heap.objs.size 0 .none := by
    have := Heap.get?_push_size (s.heap.push { cls := .type "tuple_iterator", data := .fields #[.ref l, .int 0 0] })
      (o := { cls := .type "enumerate", data := .fields #[.none, .bool false, .ref s.heap.objs.size, rawInt 0, .none, .none] }) rfl
    rw [hz] at this; exact this
  refine ⟨⟨_, he, rfl⟩, h _ he ⟨_, Heap.get?_push_of_some _ (Heap.get?_push_size _ rfl), rfl, rfl⟩ (by rw [Heap.size_push, hz]) fun b o x => Heap.get?_push_of_some _ (Heap.get?_push_of_some _ x)⟩
def iEnumT (K : PySem.W.Frag) (ta : TA) : TI := fun σ H R => ta σ H fun vs H1 => ∃ a xs, vs = [.ref a] ∧ SqT K H1 a xs ∧ R (IteT K a) H1
theorem pi_enumT {X : Cx} {e : Expr} {ta : TA} {p pos tpos : Pos} {elts : List Expr} {kk : Nat} (hg : Gl X "enumerate") (hm : X.mg "enumerate" = none) (ha : PA X [e] ta) (hs : starEach [e] X.env = [(false, eval e X.env)]) :
    PI X (.Tuple elts kk tpos) (.Call (.Name "enumerate" p) [e] [] pos) (iEnumT X.K ta) := by
  refine ⟨fun pins s σ H R I h => ?_⟩
  refine Call_ (ld_blt I hg hm boot_enumerate (PyProof.Rows.callWith_type1 (thn (ha.run pos pins s σ H _ I h) fun us s1 ⟨vs, H1, I1, r1, q1⟩ => ?_) hs rfl))
  obtain ⟨a, xs, ex, hq, q⟩ := q1
  subst ex
  cases r1 with
  | cons r rr =>
    cases rr
    cases r
    obtain ⟨its, rv, p', hz⟩ := I1.tuple hq
    refine call_enumT (items := its.toArray) p' fun h' he hit hsz hk => wpAny_pyIter_enum he ?_
    have I2 : Inv X pins σ H1 { s1 with heap := h' } := I1.kept (t' := s1.toks) hk
    refine ⟨s1.heap.objs.size + 1, [s1.heap.objs.size + 1, s1.heap.objs.size], _, _, H1, rfl, I2, turn_enumT a (s1.heap.objs.size + 1) s1.heap.objs.size, ⟨⟨.none, he⟩, hit, Nat.succ_ne_self _⟩, fun b hb => ?_, q⟩
    have e' : b = s1.heap.objs.size + 1 ∨ b = s1.heap.objs.size := by simpa using hb
    have hle : s1.heap.objs.size ≤ b := by
      rcases e' with z | z
      · rw [z]; exact Nat.le_add_right _ _
      · rw [z]; exact Nat.le_refl _
    exact I1.fpOk hle (I1.hok.fresh hle)
theorem walk_enum {K : PySem.W.Frag} {d : D} {v : V} {l : List D} {gs : Gd} {p0 : Wl} {S0 : Sto} {H0 : Hp} (s0 : SR K p0 S0 H0) (r : Rep K p0 H0 d v) (hS : ∀ p S H, Fw p0 H0 p H → SR K p S H → okG gs S = true → seqOf d S = some l) (h0 : okG gs S0 = true) :
    ∃ a, v = .ref a ∧ (if isL d = true then (∃ xs, SqL K H0 a xs) ∧ Walk K (Ite K a) (enumD 0 l) gs p0 H0 else (∃ xs, SqT K H0 a xs) ∧ Walk K (IteT K a) (enumD 0 l) gs p0 H0) := by
  obtain ⟨a, vs, e, h1, h2⟩ := r.seq s0 (hS p0 S0 H0 (Fw.refl _ _) s0 h0)
  refine ⟨a, e, ?_⟩
  have at_ : ∀ p S H, Fw p0 H0 p H → SR K p S H → okG gs S = true → ∃ ws, (if isL d = true then SqL K H a ws else SqT K H a ws) ∧ RepL K p H l ws := fun p S H f s hg => by
    obtain ⟨b, ws, e2, g1, g2⟩ := (r.fw f).seq s (hS p S H f s hg)
    rw [e] at e2
    cases e2
    exact ⟨ws, g1, g2⟩
  by_cases q : isL d = true
  · rw [if_pos q] at h1 ⊢
    refine ⟨⟨vs, h1⟩, ⟨fun i p S H f s hg hi => ?_, fun i p S H x H' f s hg hi hy => ?_, fun p S H f s hg => ?_⟩⟩
    · obtain ⟨ws, g1, g2⟩ := at_ p S H f s hg
      rw [if_pos q] at g1
      rw [enumD_length] at hi
      exact ⟨ws, ws[i]'(by rw [g2.length]; exact hi), g1, List.getElem?_eq_getElem _⟩
    · obtain ⟨ws, g1, g2⟩ := at_ p S H f s hg
      rw [if_pos q] at g1
      rw [enumD_length] at hi
      obtain ⟨T, y, rfl, hT, eH, hx⟩ := hy
      obtain ⟨w, g3, g4⟩ := g2.get (List.getElem?_eq_getElem hi)
      have ew : y = w := Option.some.inj ((hx ws g1).symm.trans g3)
      subst ew
      subst eH
      have fn : Fw p H p (upd H T (.tup [.int (i : Nat), y])) := Fw.new hT
      refine ⟨.tup [.int ((0 + i : Nat) : Int), l[i]], by rw [enumD_get, List.getElem?_eq_getElem hi]; rfl, .inr ⟨T, _, hT, rfl⟩, T, [.int (i : Nat), y], rfl, .inl (.inl upd_same), .int (i : Nat), [y], rfl, by rw [Nat.zero_add]; exact rfl, y, [], rfl, g4.fw fn, rfl⟩
    · obtain ⟨ws, g1, g2⟩ := at_ p S H f s hg
      rw [if_pos q] at g1
      exact ⟨ws, g1, by rw [g2.length, enumD_length]; exact Nat.le_refl _⟩
  · rw [if_neg q] at h1 ⊢
    refine ⟨⟨vs, h1⟩, ⟨fun i p S H f s hg hi => ?_, fun i p S H x H' f s hg hi hy => ?_, fun p S H f s hg => ?_⟩⟩
    · obtain ⟨ws, g1, g2⟩ := at_ p S H f s hg
      rw [if_neg q] at g1
      rw [enumD_length] at hi
      exact ⟨ws, ws[i]'(by rw [g2.length]; exact hi), g1, List.getElem?_eq_getElem _⟩
    · obtain ⟨ws, g1, g2⟩ := at_ p S H f s hg
      rw [if_neg q] at g1
      rw [enumD_length] at hi
      obtain ⟨T, y, rfl, hT, eH, hx⟩ := hy
      obtain ⟨w, g3, g4⟩ := g2.get (List.getElem?_eq_getElem hi)
      have ew : y = w := Option.some.inj ((hx ws g1).symm.trans g3)
      subst ew
      subst eH
      have fn : Fw p H p (upd H T (.tup [.int (i : Nat), y])) := Fw.new hT
      refine ⟨.tup [.int ((0 + i : Nat) : Int), l[i]], by rw [enumD_get, List.getElem?_eq_getElem hi]; rfl, .inr ⟨T, _, hT, rfl⟩, T, [.int (i : Nat), y], rfl, .inl (.inl upd_same), .int (i : Nat), [y], rfl, by rw [Nat.zero_add]; exact rfl, y, [], rfl, g4.fw fn, rfl⟩
    · obtain ⟨ws, g1, g2⟩ := at_ p S H f s hg
      rw [if_neg q] at g1
      exact ⟨ws, g1, by rw [g2.length, enumD_length]; exact Nat.le_refl _⟩
section
variable {X : Cx} {W : WX} {F : Fns} {pos : Pos} {a : Expr} {x : XE}
theorem enIt_ok {d : D} {S1 : Sto} {m : List D} {gs : Gd} (h : enIt d S1 = some (m, gs)) : ∃ l, m = enumD 0 l ∧ okG gs S1 = true ∧ ∀ S, okG gs S = true → seqOf d S = some l := by
  have hs : ∀ z, d ≠ .str z := fun z e => by rw [e] at h; cases h
  have h : (seqIt d S1).map (fun lg => (enumD 0 lg.1, lg.2)) = some (m, gs) := by
    cases d with
    | str z => exact absurd rfl (hs z)
    | _ => exact h
  obtain ⟨⟨l, g⟩, e1, e2⟩ := Option.map_eq_some_iff.mp h
  cases e2
  obtain ⟨h1, h2⟩ := seqIt_ok e1 hs
  exact ⟨l, rfl, h1, h2⟩
theorem di_enum {elts : List Expr} {kk : Nat} {tpos p' : Pos} (hg : Gl X "enumerate") (hm : X.mg "enumerate" = none) (ha : DE X W F a x) (hs : starEach [a] X.env = [(false, eval a X.env)]) : DI X W F (.Tuple elts kk tpos) (.Call (.Name "enumerate" p') [a] [] pos) (itEnum x) := by
  have ha1 : DA X W F [a] (xCons x xNil) := da_cons ha da_nil (by rw [hs]; rfl)
  refine PI.imp (PI.or (pi_enum hg hm ha1 hs) (pi_enumT hg hm ha1 hs)) ?_
  rintro σ H R ⟨p, e, S, sr, re, h⟩
  have hb := h.bind
  cases ex : x F e S with
  | bad => rw [ex] at hb; exact hb.elim
  | exc c fs S1 =>
    refine .inl ⟨p, e, S, sr, re, ?_⟩
    show Wp X.K p H (M.bind (x F e) _ S) _ _
    unfold M.bind
    rw [ex] at hb ⊢
    exact hb
  | ok d S1 =>
    rw [ex] at hb
    have one : ∀ {A : List D → Sto → Wl → Hp → Prop}, (∀ q H', Fw p H q H' → SR X.K q S1 H' → A [d] S1 q H') → Wp X.K p H (xCons x xNil F e S) A (WE W σ) := fun {A} k => by
      show Wp X.K p H (M.bind (x F e) _ S) _ _
      unfold M.bind
      rw [ex]
      exact k
    by_cases hl : isL d = true
    · refine .inl ⟨p, e, S, sr, re, one fun q H' f s' vs rs => ?_⟩
      obtain ⟨v, ws, rfl, r, hw⟩ := rs
      obtain ⟨⟨m, gs⟩, e1, k⟩ := wp_ofO (hb q H' f s') s'
      obtain ⟨l, rfl, g1, g2⟩ := enIt_ok e1
      obtain ⟨b, e2, w⟩ := walk_enum s' r (fun p S H _ _ hg => g2 S hg) g1
      rw [if_pos hl] at w
      obtain ⟨⟨xs, hx⟩, w⟩ := w
      exact ⟨b, xs, by rw [show ws = [] from hw, e2], hx, k _ w⟩
    · refine .inr ⟨p, e, S, sr, re, one fun q H' f s' vs rs => ?_⟩
      obtain ⟨v, ws, rfl, r, hw⟩ := rs
      obtain ⟨⟨m, gs⟩, e1, k⟩ := wp_ofO (hb q H' f s') s'
      obtain ⟨l, rfl, g1, g2⟩ := enIt_ok e1
      obtain ⟨b, e2, w⟩ := walk_enum s' r (fun p S H _ _ hg => g2 S hg) g1
      rw [if_neg hl] at w
      obtain ⟨⟨xs, hx⟩, w⟩ := w
      exact ⟨b, xs, by rw [show ws = [] from hw, e2], hx, k _ w⟩
end
end Dn

set_option Elab.async false
set_option linter.all false
set_option maxRecDepth 100000
set_option maxHeartbeats 400000
namespace Dn
open PySem PySem.Spec PyProof.Rows L2
/-! ### times -/
def evMulT : E2 := fun d1 d2 => match d1, d2 with
  | .tup l, .int k => if l ≠ [] ∧ 0 ≤ k ∧ k ≤ 1000 ∧ l.length ≤ 1000 then M.pure (.tup (List.replicate k.toNat l).flatten) else stuck
  | _, _ => evMul d1 d2
def evMulA (al : Bool) : E2 := fun d1 d2 S => match lstOf d1 S with
  | some l => (match d2 with
    | .int k => if -(2 ^ 63) ≤ k ∧ k < 2 ^ 63 ∧ l.length * k.toNat ≤ line then mkL al (List.replicate k.toNat l).flatten S else .bad
    | _ => .bad)
  | none => evMulT d1 d2 S
section
variable {X : Cx}
/-- tuple * 0, * 1 -/
theorem op_repT1 : OpR X (binaryOp .Mult) (fun x y H Q => ∃ l xs, x = .ref l ∧ y = .int 1 ∧ SqT X.K H l xs ∧ Q (.ref l) H) := by
  intro pins s σ H x y v u Q I rx ry h
  obtain ⟨l, xs, rfl, rfl, hT, q⟩ := h
  cases rx
  obtain ⟨t, rfl⟩ := ry
  obtain ⟨its, r, ⟨⟨cls, dd, data, sl⟩, ho, hc, n, hd⟩, hs⟩ := I.tuple hT
  simp only at hc hd
  subst hc hd
  refine wpAny_binaryOp_repeat_ref (T := "tuple") (U := "int") (by decide) ⟨_, ho, rfl⟩ (fun s' => typeIs_int s' 1 t) noFill_tuple_mul F.fills_int_mul F.slot_int_rmul repeat_tuple F.slot_int_index.lookup
    (call_meets F.slot_int_rmul (typeIs_int s 1 t) F.entry_int_rmul (F.args_int_rmul_2 _ _) (int_rmul_tuple 1 t l its.toArray n dd sl)
      ⟨ho, rfl, ⟨_, ho, rfl⟩, call_meets F.slot_tuple_mul ⟨_, ho, rfl⟩ F.entry_tuple_mul (F.args_tuple_mul_2 _ _) (tup_mul1 l its.toArray n dd sl t) ⟨ho, ?_⟩⟩)
  exact ⟨.ref l, H, I, rfl, q⟩
theorem op_repT0 : OpR X (binaryOp .Mult) (fun x y H Q => ∃ l xs, x = .ref l ∧ y = .int 0 ∧ SqT X.K H l xs ∧ xs ≠ [] ∧ ∀ p, H p = none → Q (.ref p) (upd H p (.tup []))) := by
  intro pins s σ H x y v u Q I rx ry h
  obtain ⟨l, xs, rfl, rfl, hT, hne, q⟩ := h
  cases rx
  obtain ⟨t, rfl⟩ := ry
  obtain ⟨its, r, ⟨⟨cls, dd, data, sl⟩, ho, hc, n, hd⟩, hs⟩ := I.tuple hT
  simp only at hc hd
  subst hc hd
  have hle : its.length = xs.length := r.length.symm
  have hi : its.toArray.isEmpty = false := by
    cases its with
    | nil => exact absurd (List.eq_nil_of_length_eq_zero hle.symm) hne
    | cons a b => rfl
  refine wpAny_binaryOp_repeat_ref (T := "tuple") (U := "int") (by decide) ⟨_, ho, rfl⟩ (fun s' => typeIs_int s' 0 t) noFill_tuple_mul F.fills_int_mul F.slot_int_rmul repeat_tuple F.slot_int_index.lookup
    (call_meets F.slot_int_rmul (typeIs_int s 0 t) F.entry_int_rmul (F.args_int_rmul_2 _ _) (int_rmul_tuple 0 t l its.toArray n dd sl)
      ⟨ho, rfl, ⟨_, ho, rfl⟩, call_meets F.slot_tuple_mul ⟨_, ho, rfl⟩ F.entry_tuple_mul (F.args_tuple_mul_2 _ _) (tup_mul0 l its.toArray n dd sl t hi) ⟨ho, ?_⟩⟩)
  refine ⟨.ref s.heap.objs.size, _, I.laid (t' := s.toks) (o := .tup []) (fun b ob q => Heap.get?_push_of_some _ q) (Nat.le_refl _) ?_, rfl, q _ (I.hok.fresh (Nat.le_refl _))⟩
  exact ⟨by simp, [], .nil, IsTup.new _ _⟩
theorem op_dnMulT : OpR X (binaryOp .Mult) (r2 X.K evMulT) := by
  rintro pins s σ H v w uv uw Q I rv rw' ⟨p, S, d1, d2, sr, h1, h2, E, h, hE⟩
  by_cases hc : ∃ l k, d1 = .tup l ∧ d2 = .int k
  · obtain ⟨l, k, rfl, rfl⟩ := hc
    obtain ⟨⟨hn, h0, h3, h4⟩, h⟩ := wp_if h
    obtain ⟨a, vs, e1, g1, k1⟩ := h1
    have hl := k1.length
    have hvn : vs ≠ [] := fun z => hn (List.eq_nil_of_length_eq_zero (by rw [← hl, z]; rfl))
    by_cases hk0 : k = 0
    · subst hk0
      refine op_repT0 pins s σ H v w uv uw Q I rv rw' ⟨a, vs, e1, h2, g1, hvn, fun b hb => ?_⟩
      have f : Fw p H p (upd H b (.tup [])) := Fw.new hb
      exact h p _ f (sr.new hb) (.ref b) ⟨b, [], rfl, .inl (.inl upd_same), rfl⟩
    · by_cases hk1 : k = 1
      · subst hk1
        refine op_repT1 pins s σ H v w uv uw Q I rv rw' ⟨a, vs, e1, h2, g1, ?_⟩
        have e2 : (List.replicate (1 : Int).toNat l).flatten = l := by simp
        rw [e2] at h
        exact Wp.ok h sr _ ⟨a, vs, rfl, g1, k1⟩
      · refine op_repT pins s σ H v w uv uw Q I rv rw' ⟨a, k, vs, e1, h2, g1, hvn, by omega, h3, by omega, fun b hb => ?_⟩
        have f : Fw p H p (upd H b (.tup (List.replicate k.toNat vs).flatten)) := Fw.new hb
        exact h p _ f (sr.new hb) (.ref b) ⟨b, _, rfl, .inl (.inl upd_same), (k1.rep k.toNat).fw f⟩
  · have e : evMulT d1 d2 S = evMul d1 d2 S := by
      cases d1 <;> first | rfl | (cases d2 <;> first | rfl | exact absurd ⟨_, _, rfl, rfl⟩ hc)
    rw [e] at h
    exact op_dnMul pins s σ H v w uv uw Q I rv rw' ⟨p, S, d1, d2, sr, h1, h2, E, h, hE⟩
theorem op_dnMulA {al : Bool} : OpR X (binaryOp .Mult) (r2 X.K (evMulA al)) := by
  rintro pins s σ H v w uv uw Q I rv rw' ⟨p, S, d1, d2, sr, h1, h2, E, h, hE⟩
  unfold evMulA at h
  cases e1 : lstOf d1 S with
  | none =>
    rw [e1] at h
    exact op_dnMulT pins s σ H v w uv uw Q I rv rw' ⟨p, S, d1, d2, sr, h1, h2, E, h, hE⟩
  | some l =>
    rw [e1] at h
    cases d2 with
    | int k =>
      dsimp only at h
      by_cases hc : -(2 ^ 63) ≤ k ∧ k < 2 ^ 63 ∧ l.length * k.toNat ≤ line
      · rw [if_pos hc] at h
        obtain ⟨a, vs, ea, h3, h4⟩ := h1.lst sr e1
        obtain ⟨hz, q⟩ := wp_mk h sr (h4.rep k.toNat)
        exact op_rep pins s σ H v w uv uw Q I rv rw' ⟨a, k, vs, ea, h2, h3, hc.1, hc.2.1, by rw [h4.length, line_eq]; exact hc.2.2, q⟩
      · rw [if_neg hc] at h; exact h.elim
    | _ => exact h.elim
end
/-! ### methods of built-ins -/
def rM (K : PySem.W.Frag) (ev : D → List D → M D) : V → List V → Hp → VK → Prop := fun x vs H Q => ∃ p S d ds, SR K p S H ∧ Rep K p H d x ∧ RepL K p H ds vs ∧ ∃ E : XK, Wp K p H (ev d ds S) (vQ K Q) E ∧ ∀ c d H, ¬ E c d H
def xBM (chk : D → Sto → Bool) (ev : D → List D → M D) (o : XE) (xs : XEs) : XE := fun F e => (o F e).bind fun d S => if chk d S = true then ((xs F e).bind fun ds => noX (ev d ds)) S else .bad
def isLstB (d : D) (S : Sto) : Bool := isL d && (seqOf d S).isSome
def isStrB (d : D) (_ : Sto) : Bool := match d with
  | .str _ => true
  | _ => false
theorem isLst_ty {K : PySem.W.Frag} {p : Wl} {S : Sto} {H : Hp} {d : D} {v : V} (s : SR K p S H) (r : Rep K p H d v) (h : isLstB d S = true) : tyV K "list" v H := by
  obtain ⟨h1, h2⟩ := (Bool.and_eq_true _ _).mp h
  obtain ⟨l, hl⟩ := Option.isSome_iff_exists.mp h2
  obtain ⟨a, vs, e, g1, g2⟩ := r.seq s hl
  rw [if_pos h1] at g1
  rw [e]
  exact .inl ⟨rfl, vs, g1⟩
theorem isStr_ty {K : PySem.W.Frag} {p : Wl} {S : Sto} {H : Hp} {d : D} {v : V} (s : SR K p S H) (r : Rep K p H d v) (h : isStrB d S = true) : tyV K "str" v H := by
  cases d with
  | str z => rw [show v = .str z from r]; rfl
  | _ => cases h
section
variable {X : Cx} {W : WX} {F : Fns} {pos apos : Pos} {o a : Expr} {es : List Expr} {x : XE} {xs : XEs}
theorem de_bm {T id : String} {name : Str} {chk : D → Sto → Bool} {ev : D → List D → M D} (pa : PlainAttrs T) (slot : Slot T name id) (hty : typeOf (.builtin id) = pure (.type "method_descriptor")) (hm : MtR X id (rM X.K ev))
    (hk : ∀ {p : Wl} {S : Sto} {H : Hp} {d : D} {v : V}, SR X.K p S H → Rep X.K p H d v → chk d S = true → tyV X.K T v H) (ho : DE X W F o x) (ha : DA X W F (a :: es) xs) (hbase : attributeBase o name X.env (eval o X.env) = eval o X.env)
    (hfew : ((backTo pos (starEach (a :: es) X.env)).all (fun x => !x.1) && (backToKw pos (keywordEach [] X.env)).all (fun x => x.1.isSome)
      && decide ((a :: es).length + ([] : List Keyword).length + (if ([] : List Keyword).isEmpty then 0 else 1) < 30)) = true)
    (hline : (apos.endLine == pos.line) = true) (hs : starEach (a :: es) X.env = (false, eval a X.env) :: starEach es X.env) (hplain : (backTo pos (starEach es X.env)).any (·.1) = false) :
    DE X W F (.Call (.Attribute o name apos) (a :: es) [] pos) (xBM chk ev x xs) := by
  refine PE.imp (pe_bm pa slot hty hm ho ha hbase hfew hline hs hplain) ?_
  rintro σ H Q ⟨p, e, S, sr, re, h⟩
  refine ⟨p, e, S, sr, re, h.bind.imp fun d S1 q1 H1 f1 s1 h1 v r => ?_⟩
  by_cases hc : chk d S1 = true
  · rw [if_pos hc] at h1
    refine ⟨hk s1 r hc, q1, e, S1, s1, re.fw f1, h1.bind.imp fun ds S2 q2 H2 f2 s2 h2 vs r2 => ?_⟩
    exact ⟨q2, S2, d, ds, s2, r.fw f2, r2, noX_wp h2⟩
  · rw [if_neg hc] at h1
    exact h1.elim
theorem de_bm0 {T id : String} {name : Str} {chk : D → Sto → Bool} {ev : D → List D → M D} (pa : PlainAttrs T) (slot : Slot T name id) (hty : typeOf (.builtin id) = pure (.type "method_descriptor")) (hm : MtR X id (rM X.K ev))
    (hk : ∀ {p : Wl} {S : Sto} {H : Hp} {d : D} {v : V}, SR X.K p S H → Rep X.K p H d v → chk d S = true → tyV X.K T v H) (ho : DE X W F o x) (hbase : attributeBase o name X.env (eval o X.env) = eval o X.env)
    (hline : (apos.endLine == pos.line) = true) : DE X W F (.Call (.Attribute o name apos) [] [] pos) (xBM chk ev x xNil) := by
  refine PE.imp (pe_bm0 pa slot hty hm ho hbase hline) ?_
  rintro σ H Q ⟨p, e, S, sr, re, h⟩
  refine ⟨p, e, S, sr, re, h.bind.imp fun d S1 q1 H1 f1 s1 h1 v r => ?_⟩
  by_cases hc : chk d S1 = true
  · rw [if_pos hc] at h1
    exact ⟨hk s1 r hc, q1, S1, d, [], s1, r, rfl, noX_wp (Wp.ok h1.bind s1)⟩
  · rw [if_neg hc] at h1
    exact h1.elim
/-- l.append(v) -/
def evApp : D → List D → M D := fun d ds S => match d, ds with
  | .ref n, [v] => (match S[n]? with
    | some (.lst l) => if l.length < line then .ok .non (S.set n (.lst (l ++ [v]))) else .bad
    | _ => .bad)
  | _, _ => .bad
theorem mt_dnApp : MtR X "list.append" (rM X.K evApp) := by
  rintro pins s σ H y vs u us Q I ry rvs ⟨p, S, d, ds, sr, r, rs, E, h, hE⟩
  cases d with
  | ref n =>
    cases ds with
    | nil => exact h.elim
    | cons d2 t =>
      cases t with
      | cons d3 t => exact h.elim
      | nil =>
        unfold evApp at h
        dsimp only at h
        cases e1 : S[n]? with
        | none => rw [e1] at h; exact h.elim
        | some ob =>
          rw [e1] at h
          cases ob with
          | lst l =>
            dsimp only at h
            by_cases hz : l.length < line
            · rw [if_pos hz] at h
              obtain ⟨ad, h3, e3⟩ := r
              obtain ⟨xs, h4, h5⟩ := sr.obj n ad _ h3 e1
              obtain ⟨v, ws, rfl, r1, hw⟩ := rs
              rw [show ws = [] from hw] at rvs
              refine mt_append pins s σ H y [v] u us Q I ry rvs ⟨ad, xs, v, e3, rfl, h4, by rw [line_eq, h5.length]; exact hz, ?_⟩
              have hin : ad ∈ p.s := List.mem_of_getElem? h3
              have fp : Fw p H p (upd H ad (.lst (xs ++ [v]))) := Fw.put sr hin
              have sp : SR X.K p (S.set n (.lst (l ++ [d2]))) (upd H ad (.lst (xs ++ [v]))) := sr.put h3 ⟨_, upd_same, (h5.fw fp).append (RepL.one (r1.fw fp))⟩
              exact h p _ fp sp .non rfl
            · rw [if_neg hz] at h; exact h.elim
          | _ => exact h.elim
  | _ => exact h.elim
/-- t.join(l) -/
def evJoin : D → List D → M D := fun d ds S => match d, ds with
  | .str z, [v] => (match (seqOf v S).bind strL with
    | some ys => if (ys.map (·.length)).sum + ys.length * z.length ≤ line then .ok (.str (Txt.join z ys)) S else .bad
    | none => .bad)
  | _, _ => .bad
theorem mt_dnJoin : MtR X "str.join" (rM X.K evJoin) := by
  rintro pins s σ H y vs u us Q I ry rvs ⟨p, S, d, ds, sr, r, rs, E, h, hE⟩
  cases d with
  | str z =>
    cases ds with
    | nil => exact h.elim
    | cons d2 t =>
      cases t with
      | cons d3 t => exact h.elim
      | nil =>
        unfold evJoin at h
        dsimp only at h
        cases e1 : (seqOf d2 S).bind strL with
        | none => rw [e1] at h; exact h.elim
        | some ys =>
          rw [e1] at h
          dsimp only at h
          by_cases hz : (ys.map (·.length)).sum + ys.length * z.length ≤ line
          · rw [if_pos hz] at h
            obtain ⟨v, ws, rfl, r1, hw⟩ := rs
            rw [show ws = [] from hw] at rvs
            obtain ⟨l, el, es⟩ := Option.bind_eq_some_iff.mp e1
            obtain ⟨ad, xs, e2, h4, h5⟩ := r1.seq sr el
            rw [strs_eq es] at h5
            rw [RepL.strs h5] at h4
            refine mt_join pins s σ H y [v] u us Q I ry rvs ⟨z, ad, ys, r, by rw [e2], ?_, hz, Wp.ok h sr _ rfl⟩
            by_cases hl : isL d2 = true
            · rw [if_pos hl] at h4; exact .inl h4
            · rw [if_neg hl] at h4; exact .inr h4
          · rw [if_neg hz] at h; exact h.elim
  | _ => exact h.elim
end
end Dn

set_option Elab.async false
set_option linter.all false
set_option maxRecDepth 100000
set_option maxHeartbeats 400000
namespace Dn
open PySem PySem.Spec PyProof.Rows L2
/-! ### sum, max, min of tuples -/
section
variable {prog : Program} {w : World} {A : Around} {E : Value → Shared → Prop} {s : Shared} {l : Addr} {its : List Value} {ns : List Int} {Q : Value → Shared → Prop}
theorem iter_tupD {items : Array Value} (hl : s.heap.IsTuple l items)
    (h : ∀ s₂ : Shared, s₂ = { s with heap := s.heap.push { cls := .type "tuple_iterator", data := .fields #[.ref l, .int 0 0] } } →
      (s₂.heap.IsTupleIter s.heap.objs.size l 0 ∧ s₂.heap.IsTuple l items) → (∀ b ∈ [s.heap.objs.size, l], b < s₂.heap.objs.size) → l ≠ s.heap.objs.size → Q (.ref s.heap.objs.size) s₂) :
    wpAny (model prog w) A (pyIter (.ref l)) Q E s := by
  have hlt : l < s.heap.objs.size := by obtain ⟨_, e, _⟩ := hl; exact Heap.lt_size e
  refine wpAny_pyIter_tuple hl (h _ rfl ⟨⟨_, Heap.get?_push_size _ rfl, rfl, rfl⟩, hl.at fun o e => Heap.get?_push_of_some _ e⟩ (fun b hb => ?_) (Nat.ne_of_lt hlt))
  show b < (s.heap.push _).objs.size
  rw [Heap.size_push]
  rcases List.mem_cons.mp hb with rfl | hb
  · exact Nat.lt_succ_self _
  · rcases List.mem_cons.mp hb with rfl | hb
    · exact Nat.lt_succ_of_lt hlt
    · cases hb
theorem old_keptT {h' : Heap} (hk : ∀ b o, b ∉ [s.heap.objs.size] → (s.heap.push { cls := .type "tuple_iterator", data := .fields #[.ref l, .int 0 0] }).get? b = some o → h'.get? b = some o) :
    ∀ b o, s.heap.get? b = some o → h'.get? b = some o := fun b o e => by
  refine hk b o (fun hm => ?_) (Heap.get?_push_of_some _ e)
  rcases List.mem_cons.mp hm with e1 | hm
  · exact absurd (e1 ▸ Heap.lt_size e) (Nat.lt_irrefl _)
  · cases hm
theorem sum_rawT (hh : A.handled = none) (hl : s.heap.IsTuple l its.toArray) (hi : IntsAre its ns)
    (h : ∀ h' tk t', (∀ b o, s.heap.get? b = some o → h'.get? b = some o) → Q (.int ns.sum t') { s with heap := h', toks := tk }) : wpAny (model prog w) A (call (.builtin "sum") [.ref l]) Q E s := by
  obtain ⟨xs, e⟩ := hi.allInts.items
  have hn : numsOf (intItems xs).toList = ns := by rw [← e]; exact hi.numsOf
  rw [nums_intItems] at hn
  rw [e] at hl
  refine call_sum_walkG (iter_tupD hl fun s₂ e st hfp hlI => ?_)
  subst e
  refine ⟨_, _, _, _, _, _, numAt xs, rfl, Walks.tuple (A := A.in1) hh _ l hlI (intItems xs), st, hfp, (fun _ _ => intItems_at), fun h' tk t' hk => ?_⟩
  have := h h' tk t' (old_keptT hk)
  have e3 : preSum (numAt xs) (intItems xs).size = ns.sum := by
    rw [preSum_eq, List.take_of_length_le (by simp [intItems]), hn]
  rw [e3]
  exact this
theorem max_rawT (hh : A.handled = none) (hl : s.heap.IsTuple l its.toArray) (hi : IntsAre its ns) (hne : 0 < ns.length)
    (h : ∀ h' tk M t', (∀ b o, s.heap.get? b = some o → h'.get? b = some o) → M ∈ ns → (∀ a, a ∈ ns → a ≤ M) → Q (.int M t') { s with heap := h', toks := tk }) : wpAny (model prog w) A (call (.builtin "max") [.ref l]) Q E s := by
  obtain ⟨xs, e⟩ := hi.allInts.items
  have hn : numsOf (intItems xs).toList = ns := by rw [← e]; exact hi.numsOf
  rw [nums_intItems] at hn
  subst hn
  rw [e] at hl
  have hsz : 0 < xs.size := by simpa using hne
  refine call_max_walk (iter_tupD hl fun s₂ e st hfp hlI => ?_)
  subst e
  refine ⟨_, _, _, _, _, _, _, rfl, Walks.tuple (A := A.in1) hh _ l hlI (intItems xs), st, hfp, by simpa [intItems] using hsz, CmpOf.ints_gt (numAt xs) (fun _ _ => intItems_at), fun v h' tk hP hk => ?_⟩
  have hv : (intItems xs)[argBest (fun i j => decide (numAt xs i > numAt xs j)) (xs.size - 1)]? = some v := by simpa [intItems] using hP
  obtain ⟨t, rfl⟩ := intItems_at hv
  obtain ⟨h1, h2⟩ := argBest_gt (numAt xs) (xs.size - 1)
  refine h h' tk _ t (old_keptT hk) ?_ fun a ha => ?_
  · rw [numAt_eq]; exact PySem.getD_mem (by rw [List.length_map, Array.length_toList]; omega)
  · obtain ⟨j, hj, rfl⟩ := mem_getD ha
    rw [List.length_map, Array.length_toList] at hj
    rw [← numAt_eq]; exact h2 j (by omega)
theorem min_rawT (hh : A.handled = none) (hl : s.heap.IsTuple l its.toArray) (hi : IntsAre its ns) (hne : 0 < ns.length)
    (h : ∀ h' tk M t', (∀ b o, s.heap.get? b = some o → h'.get? b = some o) → M ∈ ns → (∀ a, a ∈ ns → M ≤ a) → Q (.int M t') { s with heap := h', toks := tk }) : wpAny (model prog w) A (call (.builtin "min") [.ref l]) Q E s := by
  obtain ⟨xs, e⟩ := hi.allInts.items
  have hn : numsOf (intItems xs).toList = ns := by rw [← e]; exact hi.numsOf
  rw [nums_intItems] at hn
  subst hn
  rw [e] at hl
  have hsz : 0 < xs.size := by simpa using hne
  refine call_min_walk (iter_tupD hl fun s₂ e st hfp hlI => ?_)
  subst e
  refine ⟨_, _, _, _, _, _, _, rfl, Walks.tuple (A := A.in1) hh _ l hlI (intItems xs), st, hfp, by simpa [intItems] using hsz, CmpOf.ints_lt (numAt xs) (fun _ _ => intItems_at), fun v h' tk hP hk => ?_⟩
  have hv : (intItems xs)[argBest (fun i j => decide (numAt xs i < numAt xs j)) (xs.size - 1)]? = some v := by simpa [intItems] using hP
  obtain ⟨t, rfl⟩ := intItems_at hv
  obtain ⟨h1, h2⟩ := argBest_lt (numAt xs) (xs.size - 1)
  refine h h' tk _ t (old_keptT hk) ?_ fun a ha => ?_
  · rw [numAt_eq]; exact PySem.getD_mem (by rw [List.length_map, Array.length_toList]; omega)
  · obtain ⟨j, hj, rfl⟩ := mem_getD ha
    rw [List.length_map, Array.length_toList] at hj
    rw [← numAt_eq]; exact h2 j (by omega)
end
section
variable {X : Cx}
def pSumT : D → M D := fun d S => ofO (((seqOf d S).bind intL).map fun l => D.int l.sum) S
theorem cr_dnSumT (hc : X.calm = true) : CallR X (.builtin "sum") (rN X.K (ev1 pSumT)) := by
  rintro pins s σ H vs us Q I rv ⟨p, S, ds, sr, r, E, h, hE⟩
  obtain ⟨d, v, rfl, rfl, r1, h1⟩ := ev1_wp h r
  unfold pSumT at h1
  obtain ⟨o, e, q⟩ := wp_ofO h1 sr
  obtain ⟨ns, en, eo⟩ := Option.map_eq_some_iff.mp e
  obtain ⟨l, e4, e5⟩ := Option.bind_eq_some_iff.mp en
  obtain ⟨a, ws, e8, g1, g2⟩ := r1.seq sr e4
  rw [ints_eq e5] at g2
  rw [RepL.ints g2] at g1
  subst eo
  by_cases hl : isL d = true
  · rw [if_pos hl] at g1
    exact cr_sum hc pins s σ H [v] us Q I rv ⟨a, ns, by rw [e8], g1, q _ rfl⟩
  · rw [if_neg hl] at g1
    obtain ⟨its, rv2, hp, _⟩ := I.tuple g1
    rw [e8] at rv
    rw [Vals.ref1 rv]
    exact sum_rawT (I.ok.hd hc) hp rv2.ints fun h' tk t' hk => ⟨.int _, H, I.kept hk, ⟨_, rfl⟩, q _ rfl⟩
theorem minL_len {l : List Int} {m : Int} (h : minL l = some m) : 0 < l.length := by
  cases l with
  | nil => cases h
  | cons a r => simp
theorem maxL_len {l : List Int} {m : Int} (h : maxL l = some m) : 0 < l.length := by
  cases l with
  | nil => cases h
  | cons a r => simp
def pMinT : List D → M D := fun ds S => match ds with
  | [.int i, .int j] => .ok (.int (if j < i then j else i)) S
  | [d] => ofO (((seqOf d S).bind intL).bind fun l => (minL l).map D.int) S
  | _ => .bad
def pMaxT : List D → M D := fun ds S => match ds with
  | [.int i, .int j] => .ok (.int (if j > i then j else i)) S
  | [d] => ofO (((seqOf d S).bind intL).bind fun l => (maxL l).map D.int) S
  | _ => .bad
theorem cr_dnMinT (hc : X.calm = true) : CallR X (.builtin "min") (rN X.K pMinT) := by
  rintro pins s σ H vs us Q I rv ⟨p, S, ds, sr, r, E, h, hE⟩
  unfold pMinT at h
  split at h
  · obtain ⟨v, w, e, r1, r2⟩ := r
    obtain ⟨v', w', e', r3, r4⟩ := r2
    exact call_min2 hc pins s σ H vs us Q I rv ⟨_, _, by rw [e, e', show w' = [] from r4, show v = _ from r1, show v' = _ from r3], Wp.ok h sr _ rfl⟩
  · rename_i d
    obtain ⟨v, w, e, r1, r2⟩ := r
    obtain ⟨o, e1, q⟩ := wp_ofO h sr
    obtain ⟨ns, e2, e3⟩ := Option.bind_eq_some_iff.mp e1
    obtain ⟨l, e4, e5⟩ := Option.bind_eq_some_iff.mp e2
    obtain ⟨m, e6, e7⟩ := Option.map_eq_some_iff.mp e3
    obtain ⟨a, ws, e8, g1, g2⟩ := r1.seq sr e4
    rw [ints_eq e5] at g2
    rw [RepL.ints g2] at g1
    subst e7
    obtain ⟨k1, k2⟩ := minL_ok e6
    have un : ∀ m' : Int, m' ∈ ns → (∀ y ∈ ns, m' ≤ y) → m' = m := fun m' a1 a2 => by
      have b1 := a2 m k1
      have b2 := k2 m' a1
      omega
    rw [show w = [] from r2] at e
    subst e
    by_cases hl : isL d = true
    · rw [if_pos hl] at g1
      exact cr_min hc pins s σ H [v] us Q I rv ⟨a, ns, by rw [e8], g1, minL_len e6, fun m' a1 a2 => by rw [un m' a1 a2]; exact q _ rfl⟩
    · rw [if_neg hl] at g1
      obtain ⟨its, rv2, hp, _⟩ := I.tuple g1
      rw [e8] at rv
      rw [Vals.ref1 rv]
      exact min_rawT (I.ok.hd hc) hp rv2.ints (minL_len e6) fun h' tk m' t' hk a1 a2 => ⟨.int _, H, I.kept hk, ⟨_, rfl⟩, by rw [un m' a1 a2]; exact q _ rfl⟩
  · exact h.elim
theorem cr_dnMaxT (hc : X.calm = true) : CallR X (.builtin "max") (rN X.K pMaxT) := by
  rintro pins s σ H vs us Q I rv ⟨p, S, ds, sr, r, E, h, hE⟩
  unfold pMaxT at h
  split at h
  · obtain ⟨v, w, e, r1, r2⟩ := r
    obtain ⟨v', w', e', r3, r4⟩ := r2
    exact call_max2 hc pins s σ H vs us Q I rv ⟨_, _, by rw [e, e', show w' = [] from r4, show v = _ from r1, show v' = _ from r3], Wp.ok h sr _ rfl⟩
  · rename_i d
    obtain ⟨v, w, e, r1, r2⟩ := r
    obtain ⟨o, e1, q⟩ := wp_ofO h sr
    obtain ⟨ns, e2, e3⟩ := Option.bind_eq_some_iff.mp e1
    obtain ⟨l, e4, e5⟩ := Option.bind_eq_some_iff.mp e2
    obtain ⟨m, e6, e7⟩ := Option.map_eq_some_iff.mp e3
    obtain ⟨a, ws, e8, g1, g2⟩ := r1.seq sr e4
    rw [ints_eq e5] at g2
    rw [RepL.ints g2] at g1
    subst e7
    obtain ⟨k1, k2⟩ := maxL_ok e6
    have un : ∀ m' : Int, m' ∈ ns → (∀ y ∈ ns, y ≤ m') → m' = m := fun m' a1 a2 => by
      have b1 := a2 m k1
      have b2 := k2 m' a1
      omega
    rw [show w = [] from r2] at e
    subst e
    by_cases hl : isL d = true
    · rw [if_pos hl] at g1
      exact cr_max hc pins s σ H [v] us Q I rv ⟨a, ns, by rw [e8], g1, maxL_len e6, fun m' a1 a2 => by rw [un m' a1 a2]; exact q _ rfl⟩
    · rw [if_neg hl] at g1
      obtain ⟨its, rv2, hp, _⟩ := I.tuple g1
      rw [e8] at rv
      rw [Vals.ref1 rv]
      exact max_rawT (I.ok.hd hc) hp rv2.ints (maxL_len e6) fun h' tk m' t' hk a1 a2 => ⟨.int _, H, I.kept hk, ⟨_, rfl⟩, by rw [un m' a1 a2]; exact q _ rfl⟩
  · exact h.elim
/-! ### repr -/
def isRefD : D → Bool
  | .non => true
  | .bl _ => true
  | .int _ => true
  | .str _ => true
  | .tup _ => true
  | .tmp _ => true
  | .ref _ => true
  | .scr _ => true
  | _ => false
def pRepr : D → M D := fun d S => match dat S 60 d with
  | some x => if (x.showable && !x.hasDict && decide (x.depth ≤ 60) && decide (x.shown.length ≤ line)) = true ∧ isRefD d = true then .ok (.str x.shown) S else .bad
  | none => .bad
theorem cr_dnRepr (hg : X.A.guards = some []) (hu : X.A.units + 65 < cLine) : CallR X (.builtin "repr") (rN X.K (ev1 pRepr)) := by
  rintro pins s σ H vs us Q I rv ⟨p, S, ds, sr, r, E, h, hE⟩
  obtain ⟨d, v, rfl, rfl, r1, h1⟩ := ev1_wp h r
  unfold pRepr at h1
  cases e : dat S 60 d with
  | none => rw [e] at h1; exact h1.elim
  | some x =>
    rw [e] at h1
    dsimp only at h1
    split at h1
    · rename_i hc
      obtain ⟨hc, hr⟩ := hc
      simp only [Bool.and_eq_true, decide_eq_true_eq, Bool.not_eq_true'] at hc
      obtain ⟨⟨⟨c1, c2⟩, c3⟩, c4⟩ := hc
      have fin : ∀ u tk, EP X pins σ Q (.str x.shown u) { s with toks := tk } := fun u tk => ⟨.str x.shown, H, I.tok _, ⟨_, rfl⟩, Wp.ok h1 sr _ rfl⟩
      have ref : ∀ a, v = .ref a → wpAny (model X.prog X.w) X.A (call (.builtin "repr") us) (EP X pins σ Q) X.xe s := fun a ev => by
        have dp := dp_of sr r1 e
        subst ev
        rw [Vals.ref1 rv]
        obtain ⟨as, rd⟩ := Dp.reads I x (.ref a) (.ref a) dp rfl
        refine repr_of_reads' rd c1 (fun z => absurd (z.symm.trans c2) (by decide)) hg (by omega) (fun b o q => q) (fun h' u tk hk => ?_) (by rw [line_eq]; exact c4)
        exact ⟨.str x.shown, H, I.kept hk, ⟨_, rfl⟩, Wp.ok h1 sr _ rfl⟩
      cases d with
      | non =>
        cases e
        rw [show v = .non from r1] at rv
        cases rv with | cons q1 q2 => cases q2; cases q1; exact P.repr_of_none (fin _ _)
      | bl b =>
        cases e
        rw [show v = .bl b from r1] at rv
        have fin2 := fin s.toks (s.toks + 1)
        simp only [PyData.shown] at fin2
        cases rv with | cons q1 q2 => cases q2; cases q1; exact P.repr_of_bool (by cases b <;> exact fin2)
      | int i =>
        cases e
        rw [show v = .int i from r1] at rv
        simp only [PyData.showable, decide_eq_true_eq] at c1
        cases rv with | cons q1 q2 => cases q2; obtain ⟨t, rfl⟩ := q1; exact P.repr_of_int c1 (fin _ _)
      | str y =>
        cases e
        rw [show v = .str y from r1] at rv
        cases rv with | cons q1 q2 => cases q2; obtain ⟨t, rfl⟩ := q1; exact P.repr_of_str (fin _ _) (by rw [line_eq]; exact c4)
      | tup l => obtain ⟨a, _, e, _⟩ := r1; exact ref a e
      | tmp l => obtain ⟨a, _, e, _⟩ := r1; exact ref a e
      | ref l => obtain ⟨a, _, e⟩ := r1; exact ref a e
      | scr l => obtain ⟨a, e, _⟩ := r1; exact ref a e
      | _ => cases hr
    · exact h1.elim
end
end Dn

set_option Elab.async false
set_option linter.all false
set_option maxRecDepth 100000
set_option maxHeartbeats 400000
namespace Dn
open PySem PySem.Spec PyProof.Rows L2
/-! ### where a def stands -/
inductive Wh where
  | top (x : Str) | meth (c m : Str) | prop (c m : Str)
def Wh.ad (K : PySem.W.Frag) : Wh → Addr
  | .top x => He.ga K x
  | .meth c m => He.ma K (He.ga K c) m
  | .prop c m => (match PySem.W.recIn K (He.ma K (He.ga K c) m) "property" with
    | some (.ref g :: _) => g
    | _ => 0)
structure DefQ where
  at_ : Wh
  name : Str
  qual : Str
  params : Arguments
  body : List Stmt
  scope : Scope
def fnQ (K : PySem.W.Frag) (p : Wh) : He.FnW := match K.lookup (p.ad K) with
  | some ⟨_, _, .func fd, _⟩ => some (fd.name, fd.qualname, fd.params, fd.body, fd.scope, fd.globals, fd.closure, fd.builtins)
  | _ => none
def DefQ.val (d : DefQ) : He.FnW := some (d.name, d.qual, d.params, .stmts d.body, d.scope, mainGlobals, [], builtinsNs)
def DefQ.ok (K : PySem.W.Frag) (d : DefQ) : Bool := PySem.W.keepIn K (.ref (d.at_.ad K)) && (match K.lookup (d.at_.ad K) with
  | some ⟨_, _, .func fd, _⟩ => PySem.W.codeIn K fd.code d.qual && (He.dflB K fd.defaults [] && He.kwdB K fd.kwdefaults [])
  | _ => false)
theorem DefQ.funD {K : PySem.W.Frag} {d : DefQ} (e : fnQ K d.at_ = d.val) (c : d.ok K = true) : ∃ fd, FunD K d.name d.qual d.params d.body d.scope [] [] (d.at_.ad K) fd := by
  obtain ⟨kp, c2⟩ := He.ba c
  unfold fnQ at e
  cases q : K.lookup (d.at_.ad K) with
  | none =>
    rw [q] at c2
    cases c2
  | some o =>
    obtain ⟨oc, od, dt, osl⟩ := o
    rw [q] at c2 e
    cases dt with
    | func fd =>
      obtain ⟨n1, n2, n3, n4, n5, n6, n7, n8, n9, n10, n11, n12, n13, n14, n15⟩ := fd
      have e2 : (some (n1, n2, n3, n4, n5, n6, n7, n15) : He.FnW) = some (d.name, d.qual, d.params, .stmts d.body, d.scope, mainGlobals, [], builtinsNs) := e
      simp only [Option.some.injEq, Prod.mk.injEq] at e2
      obtain ⟨h1, h2, h3, h4, h5, h6, h7, h8⟩ := e2
      subst h1 h2 h3 h4 h5 h6 h7 h8
      have c3 : (PySem.W.codeIn K n13 d.qual && (He.dflB K n8 [] && He.kwdB K n9 [])) = true := c2
      obtain ⟨k1, k2⟩ := He.ba c3
      obtain ⟨k3, k4⟩ := He.ba k2
      exact ⟨_, ⟨oc, od, n8, n9, n10, n11, n12, n13, n14, osl, rfl, q, k1, He.dflB_ok k3, He.kwdB_ok k4⟩, kp⟩
    | _ => cases c2
abbrev AlQ := Bool × List He.FnW
def obsQ (chk : PySem.W.Frag → Bool) (fn : List DefQ) (K : PySem.W.Frag) : AlQ := (chk K && fn.all fun d => d.ok K, fn.map fun d => fnQ K d.at_)
def valQ (fn : List DefQ) : AlQ := (true, fn.map DefQ.val)
def SaysQ (chk : PySem.W.Frag → Bool) (fn : List DefQ) (K : PySem.W.Frag) : Prop := obsQ chk fn K = valQ fn
def obsQG (n : Nat) (chk : PySem.W.Frag → Bool) (fn : List DefQ) (g : Addr → Option Obj) : AlQ := obsQ chk fn (He.frG g (He.asD g n))
def hookQ (n : Nat) (chk : PySem.W.Frag → Bool) (fn : List DefQ) : PySem.W.Hook where
  α := AlQ
  obs := fun s => obsQG n chk fn s.heap.get?
  val := fun _ => valQ fn
  says := fun _ h => ∃ K : PySem.W.Frag, K.In h ∧ SaysQ chk fn K
  of := fun _ _ e => ⟨_, He.frG_in, e⟩
  keeps := fun _ _ _ ⟨K, hK, c⟩ k => ⟨K, PySem.W.Frag.In.keeps hK k, c⟩
theorem obsQG_eq {n : Nat} {chk : PySem.W.Frag → Bool} {fn : List DefQ} {g : Addr → Option Obj} {s : Shared} (h : ∀ a, g a = s.heap.get? a) : obsQG n chk fn g = (hookQ n chk fn).obs s := by
  have e : g = s.heap.get? := funext h
  rw [e] <;> rfl
section
variable {chk : PySem.W.Frag → Bool} {fn : List DefQ} {K : PySem.W.Frag}
theorem SaysQ.chk_ (c : SaysQ chk fn K) : chk K = true := (He.ba (show (chk K && fn.all fun d => d.ok K) = true from congrArg (fun z : AlQ => z.1) c)).1
theorem SaysQ.def_ (c : SaysQ chk fn K) (i : Nat) {d : DefQ} (h : fn[i]? = some d) : ∃ fd, FunD K d.name d.qual d.params d.body d.scope [] [] (d.at_.ad K) fd := by
  have c2 := (He.ba (show (chk K && fn.all fun d => d.ok K) = true from congrArg (fun z : AlQ => z.1) c)).2
  have e : fn.map (fun d => fnQ K d.at_) = fn.map DefQ.val := congrArg (fun z : AlQ => z.2) c
  have e2 : (fn.map fun d => fnQ K d.at_)[i]? = (fn.map DefQ.val)[i]? := by rw [e]
  rw [List.getElem?_map, List.getElem?_map, h] at e2
  exact DefQ.funD (Option.some.inj e2) (List.all_eq_true.mp c2 d (List.mem_of_getElem? h))
end
/-- a property of a class -/
def propB (K : PySem.W.Frag) (c f : Str) : Bool := He.eqO (PySem.W.findIn K (.ref (He.ga K c)) f) (some (some (.ref (He.ma K (He.ga K c) f)))) &&
  (He.eqO (PySem.W.specialIn K (.ref (He.ma K (He.ga K c) f)) "__get__") (some (some (.builtin "property.__get__"))) && (decide (PySem.W.takesIn K (.ref (He.ma K (He.ga K c) f)) = some true) &&
    (match PySem.W.recIn K (He.ma K (He.ga K c) f) "property" with
    | some (.ref _ :: _) => true
    | _ => false)))
theorem propB_ok {K : PySem.W.Frag} {c f : Str} (h : propB K c f = true) : PropOf K (He.ga K c) f (He.ma K (He.ga K c) f) (Wh.ad K (.prop c f)) := by
  obtain ⟨h1, h⟩ := He.ba h
  obtain ⟨h2, h⟩ := He.ba h
  obtain ⟨h3, h4⟩ := He.ba h
  refine ⟨He.eqO_ok h1, He.eqO_ok h2, of_decide_eq_true h3, ?_⟩
  have ead : Wh.ad K (.prop c f) = (match PySem.W.recIn K (He.ma K (He.ga K c) f) "property" with
    | some (.ref g :: _) => g
    | _ => 0) := rfl
  rw [ead]
  cases e : PySem.W.recIn K (He.ma K (He.ga K c) f) "property" with
  | none => rw [e] at h4; cases h4
  | some l =>
    rw [e] at h4
    cases l with
    | nil => cases h4
    | cons v r =>
      cases v with
      | ref g => exact ⟨r, rfl⟩
      | _ => cases h4
/-! ### e.f by a property, o.m(..) -/
def insC (d : D) (S : Sto) : Option Str := match d with
  | .ref n => (match S[n]? with
    | some (.ins c _) => some c
    | _ => none)
  | _ => none
theorem insC_ok {K : PySem.W.Frag} {p : Wl} {S : Sto} {H : Hp} {c : Str} {d : D} {v : V} (s : SR K p S H) (r : Rep K p H d v) (h : insC d S = some c) : ∃ a dx vs, v = .ref a ∧ H a = some (.ins (He.ga K c) dx vs) := by
  cases d with
  | ref n =>
    have h : (match S[n]? with
      | some (.ins c _) => some c
      | _ => none) = some c := h
    cases e : S[n]? with
    | none => rw [e] at h; cases h
    | some o =>
      rw [e] at h
      cases o with
      | ins c' fs =>
        cases h
        obtain ⟨a, ha, ev⟩ := r
        obtain ⟨dx, vs, h3, _, h4⟩ := s.obj n a _ ha e
        exact ⟨a, dx, vs, ev, h3⟩
      | _ => cases h
  | _ => cases h
/-- an instance of c without an own attribute m -/
def insB (c m : Str) (d : D) (S : Sto) : Bool := match d with
  | .ref n => (match S[n]? with
    | some (.ins c' fs) => decide (c' = c) && (fs.lookup m).isNone
    | _ => false)
  | _ => false
theorem insB_ok {K : PySem.W.Frag} {p : Wl} {S : Sto} {H : Hp} {c m : Str} {d : D} {v : V} (s : SR K p S H) (r : Rep K p H d v) (h : insB c m d S = true) : ∃ a dx vs, v = .ref a ∧ H a = some (.ins (He.ga K c) dx vs) ∧ vs.lookup m = none := by
  cases d with
  | ref n =>
    have h : (match S[n]? with
      | some (.ins c' fs) => decide (c' = c) && (fs.lookup m).isNone
      | _ => false) = true := h
    cases e : S[n]? with
    | none => rw [e] at h; cases h
    | some o =>
      rw [e] at h
      cases o with
      | ins c' fs =>
        obtain ⟨h1, h2⟩ := He.ba h
        have h1 := of_decide_eq_true h1
        subst h1
        obtain ⟨a, ha, ev⟩ := r
        obtain ⟨dx, vs, h3, _, h4⟩ := s.obj n a _ ha e
        exact ⟨a, dx, vs, ev, h3, h4.lookN (Option.isNone_iff_eq_none.mp h2)⟩
      | _ => cases h
  | _ => cases h
structure PropC (X : Cx) (F : Fns) (k : Nat) (f c : Str) (key : Nat) : Prop where
  cls : Cls X.K (He.ga X.K c)
  pr : PropOf X.K (He.ga X.K c) f (He.ma X.K (He.ga X.K c) f) (Wh.ad X.K (.prop c f))
  G : ∃ fd ps, FnG X.prog X.w X.K X.mg X.base k (Wh.ad X.K (.prop c f)) fd ps (spF X.K F key 1) ∧ Binds X.K fd ps []
structure MethC (X : Cx) (F : Fns) (k : Nat) (m c : Str) (key n : Nat) : Prop where
  cls : Cls X.K (He.ga X.K c)
  me : Meth X.K (He.ga X.K c) m (He.ma X.K (He.ga X.K c) m)
  G : ∃ fd ps, ps.length = n ∧ FnG X.prog X.w X.K X.mg X.base k (He.ma X.K (He.ga X.K c) m) fd ps (spF X.K F key n) ∧ Binds X.K fd ps []
section
variable {X : Cx} {W : WX} {F : Fns} {pos apos : Pos} {a o : Expr} {es : List Expr} {x y : XE} {xs : XEs}
def xProp (tb : List (Str × Nat)) (a : XE) : XE := fun F e => (a F e).bind fun d S => match (insC d S).bind fun c => tb.lookup c with
  | some key => noX (F key [d]) S
  | none => .bad
theorem de_prop {tb : List (Str × Nat)} {f : Str} {k : Nat} (hT : ∀ c key, tb.lookup c = some key → PropC X F k f c key) (hr : RoomG (k + 1) X.A) (ha : DE X W F a x) (hab : attributeBase a f X.env (eval a X.env) = eval a X.env) :
    DE X W F (.Attribute a f pos) (xProp tb x) := by
  have base : PE X (.Attribute a f pos) (fun σ H Q => tE X.K W F x σ H fun v H1 => ∃ c key a dx fs, tb.lookup c = some key ∧ v = .ref a ∧ H1 a = some (.ins (He.ga X.K c) dx fs) ∧ spF X.K F key 1 [.ref a] H1 Q (fun _ _ _ => False)) := by
    refine ⟨fun pins s σ H Q I h => ?_⟩
    refine attr_of hab (thn (ha.run pins s σ H _ I h) fun u s1 ⟨v, H1, I1, rx, c, key, ad, dx, fs, et, ex, ea, q⟩ => ?_)
    obtain ⟨hc, hp, fd, ps, G, hb⟩ := hT c key et
    subst ex
    obtain rfl : u = Value.ref ad := rx
    obtain ⟨mA, O, _, _, _, _⟩ := ins_get I1.hok ea
    obtain ⟨od, J, _⟩ := O.look
    obtain ⟨rest, hrec⟩ := hp.rec_
    have I2 := I1.tok (s1.toks + 1)
    have hl : [Value.ref ad].length = ps.length := G.len _ _ _ _ q
    have hcl : (PySem.W.clsIn X.K (He.ga X.K c)).isSome = true := by
      obtain ⟨cd, hc, _⟩ := PySem.W.any_some hc.hd
      rw [hc]
      rfl
    have bs := hb { s1 with toks := s1.toks + 1 } [.ref ad] I2.kIn (by rw [List.append_nil]; exact hl)
    rw [List.append_nil] at bs
    refine PySem.W.get_bind I1.kIn J (PySem.W.plainGet_of (hc.get f)).1 (PySem.W.findObj_data hcl hp.at_ hp.get hp.tak) (PySem.W.plainGet_of (hc.get f)).2 (wpAny_call (PySem.W.prop_get (s := { s1 with toks := s1.toks + 1 }) I1.kIn hrec ?_))
    refine codeAny_mono (G.run X.A.in1 X.stack { s1 with toks := s1.toks + 1 } H1 ⟨[.ref ad], []⟩ [.ref ad] [.ref ad] Q _ hr.in1 I2.env0.in1 bs (.cons rfl .nil) q) fun r s' hq => ?_
    cases r with
    | error er =>
      obtain ⟨_, _, _, _, _, _, _, _, _, _, _, _, z⟩ := hq
      exact z.elim
    | ok fl =>
      cases fl with
      | ret u =>
        obtain ⟨v, H', I3, rv, q3⟩ := I2.after hq
        show wpAny _ _ (handedOut u) _ _ _
        rw [PySem.W.handedOut_of (handed_of rv)]
        exact wpAny_pure ⟨v, H', I3, rv, q3⟩
      | next => exact False.elim hq
      | brk => exact False.elim hq
      | cont => exact False.elim hq
  refine PE.imp base ?_
  rintro σ H Q ⟨p, e, S, sr, re, h⟩
  refine ⟨p, e, S, sr, re, h.bind.imp fun d S1 q H' f1 s1 h1 v r => ?_⟩
  cases ek : (insC d S1).bind fun c => tb.lookup c with
  | none => rw [ek] at h1; exact h1.elim
  | some key =>
    rw [ek] at h1
    have h1 : Wp X.K q H' (noX (F key [d]) S1) (vQ X.K Q) (WE W σ) := h1
    obtain ⟨c, ec, et⟩ := Option.bind_eq_some_iff.mp ek
    obtain ⟨ad, dx, vs, ev, h2⟩ := insC_ok s1 r ec
    obtain ⟨E', h3, hE⟩ := noX_wp h1
    rw [ev] at r
    refine ⟨c, key, ad, dx, vs, et, ev, h2, q, S1, [d], rfl, s1, RepL.one r, ?_⟩
    cases er : F key [d] S1 with
    | ok d2 S2 => rw [er] at h3; exact h3
    | exc c fs S2 =>
      unfold noX at h1
      rw [er] at h1
      exact h1.elim
    | bad => rw [er] at h3; exact h3
/-- o.m(..) -/
def xMeth (m : Str) (tb : List (Str × Nat × Nat)) (o : XE) (xs : XEs) : XE := fun F e => (o F e).bind fun d S => match (insC d S).bind fun c => if insB c m d S = true then tb.lookup c else none with
  | some kn => ((xs F e).bind fun ds => if ds.length + 1 = kn.2 then F kn.1 (d :: ds) else stuck) S
  | none => .bad
theorem de_meth {m : Str} {tb : List (Str × Nat × Nat)} {k : Nat} {pl : Sem Bool} (hT : ∀ c kn, tb.lookup c = some kn → MethC X F k m c kn.1 kn.2) (hr : RoomG k X.A) (tk : Takes X W) (ho : DE X W F o x) (ha : DA X W F (a :: es) xs)
    (hst : starEach (a :: es) X.env = (false, eval a X.env) :: starEach es X.env) (hpl : (backTo pos (starEach es X.env)).any (·.1) = false)
    (ht : eval (.Call (.Attribute o m apos) (a :: es) [] pos) X.env = (do
      let ov ← eval o X.env
      standAt apos.atName
      let (f, first) ← holding [ov] (getMethod ov m pl)
      callWith pos f first (backTo pos (starEach (a :: es) X.env)) (backToKw pos (keywordEach [] X.env)))) :
    DE X W F (.Call (.Attribute o m apos) (a :: es) [] pos) (xMeth m tb x xs) := by
  have base : PE X (.Call (.Attribute o m apos) (a :: es) [] pos) (fun σ H Q => tE X.K W F x σ H fun v H1 => ∃ c kn ad dx fs, tb.lookup c = some kn ∧ v = .ref ad ∧ H1 ad = some (.ins (He.ga X.K c) dx fs) ∧ fs.lookup m = none ∧
      tA X.K W F xs σ H1 fun vs H2 => spF X.K F kn.1 kn.2 (v :: vs) H2 Q (WE W σ)) := by
    refine ⟨fun pins s σ H Q I h => ?_⟩
    refine PySem.W.methodCall_KW (pl := pl) (thn (ho.run pins s σ H _ I h) fun u s1 ⟨v, H1, I1, rx, c, kn, ad, dx, fs, et, ex, ea, l, q⟩ => ?_) ht
    obtain ⟨hc, hm, fd, ps, hn, G, hb⟩ := hT c kn et
    subst ex
    obtain rfl : u = Value.ref ad := rx
    refine getmeth_ok I1 ea hc hm l ?_
    refine PySem.W.callWith_K (first := [.ref ad]) (h₀ := X.base) I.ok.mod.kin hm.kp (thn (ha.run pos pins s1 σ H1 _ I1 q) fun us s2 ⟨vs, H2, I2, r, q2⟩ => ⟨I2.kIn, ?_⟩) hst hpl
    have hl : (Value.ref ad :: us).length = ps.length := (show (V.ref ad :: vs).length = (Value.ref ad :: us).length by simp [r.length]).symm.trans (G.len _ _ _ _ q2)
    have bs := hb s2 (.ref ad :: us) I2.kIn (by rw [List.append_nil]; exact hl)
    rw [List.append_nil] at bs
    exact run_gc (us := .ref ad :: us) (ws := .ref ad :: us) (vs := .ref ad :: vs) G hr tk I2 bs (.cons rfl r) q2
  refine PE.imp base ?_
  rintro σ H Q ⟨p, e, S, sr, re, h⟩
  refine ⟨p, e, S, sr, re, h.bind.imp fun d S1 q H' f1 s1 h1 v r => ?_⟩
  cases ek : (insC d S1).bind fun c => if insB c m d S1 = true then tb.lookup c else none with
  | none => rw [ek] at h1; exact h1.elim
  | some kn =>
    rw [ek] at h1
    have h1 : Wp X.K q H' (((xs F e).bind fun ds => if ds.length + 1 = kn.2 then F kn.1 (d :: ds) else stuck) S1) (vQ X.K Q) (WE W σ) := h1
    obtain ⟨c, ec, et⟩ := Option.bind_eq_some_iff.mp ek
    by_cases hq : insB c m d S1 = true
    · rw [if_pos hq] at et
      obtain ⟨ad, dx, vs, ev, h2, h3⟩ := insB_ok s1 r hq
      refine ⟨c, kn, ad, dx, vs, et, ev, h2, h3, q, e, S1, s1, re.fw f1, h1.bind.imp fun ds S2 q2 H2 f2 s2 h4 ws rs => ?_⟩
      obtain ⟨hl, h5⟩ := wp_if h4
      exact ⟨q2, S2, d :: ds, by rw [List.length_cons]; exact hl, s2, ⟨v, ws, rfl, r.fw f2, rs⟩, h5⟩
    · rw [if_neg hq] at et
      cases et
end
end Dn

set_option Elab.async false
set_option linter.all false
set_option maxRecDepth 100000
set_option maxHeartbeats 400000
namespace Dn
open PySem PySem.Spec PyProof.Rows L2
/-! ### constants of the module -/
mutual
def repB (K : PySem.W.Frag) : Nat → D → Value → Bool
  | 0, _, _ => false
  | n + 1, d, u => (match d, u with
    | .non, .none => true
    | .bl b, .bool c => b == c
    | .int i, .int j _ => decide (i = j)
    | .str x, .str y _ => decide (x = y)
    | .tup l, .ref a => (match K.lookup a with
      | some ⟨.type c, _, .seq its _, _⟩ => decide (c = "tuple") && (decide (its.size ≤ sizeLine) && repBL K n l its.toList)
      | _ => false)
    | _, _ => false)
def repBL (K : PySem.W.Frag) : Nat → List D → List Value → Bool
  | 0, _, _ => false
  | _ + 1, [], [] => true
  | n + 1, d :: r, u :: us => repB K n d u && repBL K n r us
  | _ + 1, _, _ => false
end
theorem repB_step {K : PySem.W.Frag} (n : Nat) : (∀ {d : D} {u : Value}, repB K n d u = true → ∃ v, RelV v u ∧ ∀ p H, Rep K p H d v) ∧ (∀ {l : List D} {us : List Value}, repBL K n l us = true → ∃ vs, Vals vs us ∧ ∀ p H, RepL K p H l vs) := by
  induction n with
  | zero =>
    refine ⟨fun {d u} h => ?_, fun {l us} h => ?_⟩
    · unfold repB at h; cases h
    · unfold repBL at h; cases h
  | succ n ih =>
    refine ⟨fun {d u} h => ?_, fun {l us} h => ?_⟩
    · unfold repB at h
      split at h
      · exact ⟨.non, rfl, fun _ _ => rfl⟩
      · rename_i b c
        have e := eq_of_beq h
        subst e
        exact ⟨.bl b, rfl, fun _ _ => rfl⟩
      · rename_i i j t
        have e := of_decide_eq_true h
        subst e
        exact ⟨.int i, ⟨t, rfl⟩, fun _ _ => rfl⟩
      · rename_i i j t
        have e := of_decide_eq_true h
        subst e
        exact ⟨.str i, ⟨t, rfl⟩, fun _ _ => rfl⟩
      · rename_i l a
        split at h
        · rename_i c od its k sl q
          obtain ⟨h1, h2⟩ := He.ba h
          obtain ⟨h3, h4⟩ := He.ba h2
          obtain ⟨vs, h5, h6⟩ := ih.2 h4
          exact ⟨.ref a, rfl, fun p H => ⟨a, vs, rfl, .inr ⟨_, its, k, q, congrArg Value.type (of_decide_eq_true h1), rfl, of_decide_eq_true h3, h5⟩, h6 p H⟩⟩
        · cases h
      · cases h
    · unfold repBL at h
      split at h
      · rename_i e; cases e
      · exact ⟨[], .nil, fun _ _ => rfl⟩
      · rename_i m d r u us e
        cases e
        obtain ⟨h1, h2⟩ := He.ba h
        obtain ⟨v, a1, a2⟩ := ih.1 h1
        obtain ⟨vs, b1, b2⟩ := ih.2 h2
        exact ⟨v :: vs, .cons a1 b1, fun p H => ⟨v, vs, rfl, a2 p H, b2 p H⟩⟩
      · cases h
def gloB (K : PySem.W.Frag) (x : Str) (d : D) : Bool := match PySem.W.nsIn K mainGlobals x with
  | some (some u) => repB K 40 d u
  | _ => false
theorem gloB_ok {K : PySem.W.Frag} {h : Heap} {mg : Str → Option Value} (X : K.In h) (G : h.Ns mainGlobals mg) {x : Str} {d : D} (c : gloB K x d = true) : ∃ u v, mg x = some u ∧ RelV v u ∧ ∀ p H, Rep K p H d v := by
  unfold gloB at c
  split at c
  · rename_i u e
    obtain ⟨v, h1, h2⟩ := (repB_step 40).1 c
    exact ⟨u, v, PySem.W.mg_of X G e, h1, h2⟩
  · cases c
section
variable {X : Cx} {W : WX} {F : Fns} {pos : Pos} {a b : Expr} {es : List Expr} {x y : XE} {xs : XEs}
theorem de_glo {n : Str} {d : D} (hg : Gl X n) (h : ∃ u v, X.mg n = some u ∧ RelV v u ∧ ∀ p H, Rep X.K p H d v) (hd : (n == ("__debug__" : Str)) = false) : DE X W F (.Name n pos) (xC d) := by
  obtain ⟨u, v, h1, h2, h3⟩ := h
  exact de_c (pe_glob hg h1 h2 hd) h3
theorem de_gcl {n : Str} (hg : Gl X n) (h : X.mg n = some (.ref (He.ga X.K n))) (hd : (n == ("__debug__" : Str)) = false) : DE X W F (.Name n pos) (xC (.gl n)) := de_c (pe_glob (v := .ref (He.ga X.K n)) hg h rfl hd) fun _ _ => rfl
theorem de_ty {n : Str} {t : String} (hg : Gl X n) (hm : X.mg n = none) (hv : bootBuiltins n = some (.type t)) (hn : n ≠ "__name__") (hd : (n == ("__debug__" : Str)) = false) : DE X W F (.Name n pos) (xC (.ty t)) := de_c (pe_bltn (v := .ty t) hg hm hv rfl hn hd) fun _ _ => rfl
end
/-! ### own == -/
def boolOf (m : M D) : M D := m.bind fun d => match d with
  | .bl b => M.pure (.bl b)
  | _ => stuck
def evEqF (tbl : Str → Option Nat) (F : Fns) : E2 := fun d1 d2 S => match insC d1 S with
  | some c => if insC d2 S = some c then (match tbl c with
    | some key => noX (boolOf (F key [d1, d2])) S
    | none => .bad) else .bad
  | none => evEq d1 d2 S
structure EqC (X : Cx) (F : Fns) (k : Nat) (c : Str) (key : Nat) : Prop where
  cls : Cls X.K (He.ga X.K c)
  at_ : PySem.W.findIn X.K (.ref (He.ga X.K c)) "__eq__" = some (some (.ref (He.ma X.K (He.ga X.K c) "__eq__")))
  fn : PySem.W.isFn X.K (.ref (He.ma X.K (He.ga X.K c) "__eq__")) = true
  G : ∃ fd ps, FnG X.prog X.w X.K X.mg X.base k (He.ma X.K (He.ga X.K c) "__eq__") fd ps (spF X.K F key 2) ∧ Binds X.K fd ps []
section
variable {X : Cx} {F : Fns}
theorem op_dnEqF {tbl : Str → Option Nat} {k : Nat} (hr : RoomG k X.A) (T : ∀ c key, tbl c = some key → EqC X F k c key) : OpR X (compareOp .Eq) (r2 X.K (evEqF tbl F)) := by
  rintro pins s σ H v w uv uw Q I rv rw' ⟨p, S, d1, d2, sr, h1, h2, E, h, hE⟩
  have hu : X.A.units + 64 < cLine := by have := hr.room.un; omega
  unfold evEqF at h
  cases e1 : insC d1 S with
  | none => rw [e1] at h; exact op_dnEq hu pins s σ H v w uv uw Q I rv rw' ⟨p, S, d1, d2, sr, h1, h2, E, h, hE⟩
  | some c =>
    rw [e1] at h
    dsimp only at h
    by_cases hc : insC d2 S = some c
    · rw [if_pos hc] at h
      cases ek : tbl c with
      | none => rw [ek] at h; exact h.elim
      | some key =>
        rw [ek] at h
        have h : Wp X.K p H (noX (boolOf (F key [d1, d2])) S) (vQ X.K Q) E := h
        obtain ⟨C1, C2, C3, fd, ps, G, hb⟩ := T c key ek
        obtain ⟨a, dx, vs, ea, ha⟩ := insC_ok sr h1 e1
        obtain ⟨b, dy, ws, eb, hb'⟩ := insC_ok sr h2 hc
        subst ea eb
        cases rv
        cases rw'
        obtain ⟨mA, J, _⟩ := ins_get I.hok ha
        obtain ⟨mB, J', _⟩ := ins_get I.hok hb'
        obtain ⟨od, J, _⟩ := J.look
        obtain ⟨od', J', _⟩ := J'.look
        obtain ⟨m, hF⟩ := I.fr
        show wpAny (model X.prog X.w) X.A (richCompare .Eq _ _) _ _ _
        refine PySem.W.cmp_K (op := .Eq) (tb := .ref (He.ga X.K c)) hr.room.units0 hF I.ok.mod.kin J J'.type (by simp [PySem.W.notFirst]) C2 C3 ?_
        have hsp : spF X.K F key 2 [.ref a, .ref b] H (fun v H' => (∃ z, v = .bl z) ∧ Q v H') (fun _ _ _ => False) := by
          refine ⟨p, S, [d1, d2], rfl, sr, ⟨_, _, rfl, h1, _, _, rfl, h2, rfl⟩, ?_⟩
          unfold noX boolOf M.bind at h
          cases er : F key [d1, d2] S with
          | ok d S' =>
            rw [er] at h
            dsimp only at h
            cases d with
            | bl z => exact fun q H' f s' v r => ⟨⟨z, r⟩, h q H' f s' v r⟩
            | _ => exact h.elim
          | exc c fs S' => rw [er] at h; exact h.elim
          | bad => rw [er] at h; exact h.elim
        have hl := G.len _ _ _ _ hsp
        have bs := hb s [.ref a, .ref b] I.kIn (by simpa using hl)
        rw [List.append_nil] at bs
        refine wpAny_call (codeAny_mono (G.run X.A X.stack s H ⟨[.ref a, .ref b], []⟩ [.ref a, .ref b] [.ref a, .ref b] _ _ hr I.env0 bs (.cons rfl (.cons rfl .nil)) hsp) fun r s' hq => ?_)
        cases r with
        | error e =>
          obtain ⟨_, _, _, _, _, _, _, _, _, _, _, _, z⟩ := hq
          exact z.elim
        | ok fl =>
          cases fl with
          | ret w =>
            obtain ⟨z, H', I', rz, ⟨b0, ez⟩, q⟩ := I.after hq
            subst ez
            cases rz
            exact ⟨.bl b0, H', I', rfl, q⟩
          | next => exact False.elim hq
          | brk => exact False.elim hq
          | cont => exact False.elim hq
    · rw [if_neg hc] at h; exact h.elim
end
/-! ### isinstance -/
def tyNs : List String := ["NoneType", "bool", "int", "str", "tuple", "list", "dict"]
def isNs : List String := ["int", "bool", "str", "tuple", "list", "dict"]
def pIsi (cs : List Str) : D → D → M D := fun d c S => match c with
  | .ty n => (match tyS d S with
    | some (.inl t) => ofO ((isiT t n).map D.bl) S
    | some (.inr k) => if k ∈ cs ∧ n ∈ isNs then .ok (.bl false) S else .bad
    | none => .bad)
  | .gl n => if n ∈ cs then (match tyS d S with
    | some (.inl _) => .ok (.bl false) S
    | some (.inr k) => if k ∈ cs then .ok (.bl (k == n)) S else .bad
    | none => .bad) else .bad
  | _ => .bad
def isiB (K : PySem.W.Frag) (cs : List Str) : Bool := cs.all fun c => (He.Fa.cls c).ok K && (He.eqO (PySem.W.findIn K (.ref (He.ga K c)) "__class__") (some (some (.builtin "object.__class__"))) &&
  (He.eqO (PySem.W.specialIn K (.builtin "object.__class__") "__get__") (some (some (.builtin "getset_descriptor.__get__"))) && (decide (PySem.W.takesIn K (.builtin "object.__class__") = some true) &&
  (decide (PySem.W.mroIn K (He.ga K c) (.type "object") = some true) && ((tyNs.all fun t => decide (PySem.W.kitOne K (.type t) (.ref (He.ga K c)) = some false)) &&
  ((cs.all fun k => decide (PySem.W.kitOne K (.ref (He.ga K k)) (.ref (He.ga K c)) = some (k == c))) && (isNs.all fun n => decide (PySem.W.kitOne K (.ref (He.ga K c)) (.type n) = some false))))))))
theorem kit_all : (tyNs.all fun t => isNs.all fun n => decide (kitB t n = isiT t n)) = true := by decide +kernel
theorem isiT_in {t n : String} {b : Bool} (h : isiT t n = some b) : n ∈ isNs := by
  unfold isiT at h
  split at h
  · rename_i e; subst e; decide
  · split at h
    · rename_i e
      rcases e with e | e | e | e | e <;> (subst e; decide)
    · cases h
section
variable {K : PySem.W.Frag} {p : Wl} {S : Sto} {H : Hp} {d : D} {v : V}
theorem tyS_in {t : String} (h : tyS d S = some (.inl t)) : t ∈ tyNs := by
  cases d with
  | ref n =>
    have h : (match S[n]? with
    | some (.lst _) => some (.inl "list")
    | some (.dK _) => some (.inl "dict")
    | some (.ins c _) => some (.inr c)
    | none => none : Option (String ⊕ Str)) = some (.inl t) := h
    split at h
    · cases h; decide
    · cases h; decide
    · cases h
    · cases h
  | ty _ => cases h
  | gl _ => cases h
  | _ => cases h; decide
theorem tyS_x {t : String} (s : SR K p S H) (r : Rep K p H d v) (h : tyS d S = some (.inl t)) : TyX K H v (.type t) := by
  cases d with
  | non => cases h; rw [show v = .non from r]; exact .base .non
  | bl b => cases h; rw [show v = .bl b from r]; exact .base (.bl b)
  | int b => cases h; rw [show v = .int b from r]; exact .base (.int b)
  | str b => cases h; rw [show v = .str b from r]; exact .base (.str b)
  | tup l =>
    cases h
    obtain ⟨a, vs, e, g, _⟩ := r
    rw [e]
    rcases g with (g | ⟨o, g⟩) | ⟨o, its, n, g1, g2, _⟩
    · exact .base (.tup g)
    · exact .fTuple g
    · exact .kTuple g1 g2
  | tmp l =>
    cases h
    obtain ⟨a, vs, e, g, _⟩ := r
    rw [e]
    exact .base (.lst g)
  | scr l =>
    cases h
    obtain ⟨a, e, g⟩ := r
    rw [e]
    rcases g with ⟨o, g⟩ | ⟨o, its, n, g1, g2, _⟩
    · exact .base (.frz g)
    · exact .kList g1 g2
  | ref n =>
    have h : (match S[n]? with
    | some (.lst _) => some (.inl "list")
    | some (.dK _) => some (.inl "dict")
    | some (.ins c _) => some (.inr c)
    | none => none : Option (String ⊕ Str)) = some (.inl t) := h
    obtain ⟨a, ha, e⟩ := r
    rw [e]
    split at h
    · rename_i l e1
      cases h
      obtain ⟨vs, g, _⟩ := s.obj n a _ ha e1
      exact .base (.lst g)
    · rename_i l e1
      cases h
      obtain ⟨vs, g, _⟩ := s.obj n a _ ha e1
      exact .base (.dK g)
    · cases h
    · cases h
  | ty _ => cases h
  | gl _ => cases h
theorem tyS_c {c : Str} (h : tyS d S = some (.inr c)) : insC d S = some c := by
  cases d with
  | ref n =>
    have h : (match S[n]? with
    | some (.lst _) => some (.inl "list")
    | some (.dK _) => some (.inl "dict")
    | some (.ins c _) => some (.inr c)
    | none => none : Option (String ⊕ Str)) = some (.inr c) := h
    show (match S[n]? with
    | some (.ins c _) => some c
    | _ => none) = some c
    split at h
    · cases h
    · cases h
    · rename_i e; cases h; rw [e]
    · cases h
  | _ => cases h
end
section
variable {X : Cx}
theorem cr_dnIsi {cs : List Str} (hB : isiB X.K cs = true) : CallR X (.builtin "isinstance") (rN X.K (ev2 (pIsi cs))) := by
  rintro pins s σ H vs us Q I rv ⟨p, S, ds, sr, r, E, h, hE⟩
  obtain ⟨d, c, v, w, rfl, rfl, r1, r2, h1⟩ := ev2_wp h r
  have fac : ∀ k ∈ cs, Cls X.K (He.ga X.K k) ∧ (∀ {a dx : Addr} {fs : List (Str × V)}, H a = some (.ins (He.ga X.K k) dx fs) → TyX X.K H (.ref a) (.ref (He.ga X.K k))) ∧ (∀ t ∈ tyNs, PySem.W.kitOne X.K (.type t) (.ref (He.ga X.K k)) = some false) ∧
      (∀ k' ∈ cs, PySem.W.kitOne X.K (.ref (He.ga X.K k')) (.ref (He.ga X.K k)) = some (k' == k)) ∧ (∀ n ∈ isNs, PySem.W.kitOne X.K (.ref (He.ga X.K k)) (.type n) = some false) := fun k hk => by
    have b := List.all_eq_true.mp hB k hk
    obtain ⟨b1, b⟩ := He.ba b
    obtain ⟨b2, b⟩ := He.ba b
    obtain ⟨b3, b⟩ := He.ba b
    obtain ⟨b4, b⟩ := He.ba b
    obtain ⟨b5, b⟩ := He.ba b
    obtain ⟨b6, b⟩ := He.ba b
    obtain ⟨b7, b8⟩ := He.ba b
    have c1 := He.cls_ok b1
    exact ⟨c1, fun {a dx fs} e => .base (.ins e c1 (He.eqO_ok b2) (He.eqO_ok b3) (of_decide_eq_true b4) (of_decide_eq_true b5)), fun t ht => of_decide_eq_true (List.all_eq_true.mp b6 t ht),
      fun k' hk' => of_decide_eq_true (List.all_eq_true.mp b7 k' hk'), fun n hn => of_decide_eq_true (List.all_eq_true.mp b8 n hn)⟩
  cases c with
  | ty n =>
    unfold pIsi at h1
    dsimp only at h1
    cases et : tyS d S with
    | none => rw [et] at h1; exact h1.elim
    | some z =>
      rw [et] at h1
      cases z with
      | inl t =>
        obtain ⟨o, e, q⟩ := wp_ofO h1 sr
        obtain ⟨b, eb, eo⟩ := Option.map_eq_some_iff.mp e
        subst eo
        have k1 := List.all_eq_true.mp (List.all_eq_true.mp kit_all t (tyS_in et)) n (isiT_in eb)
        have k2 : kitB t n = some b := (of_decide_eq_true k1).trans eb
        exact call_isi pins s σ H [v, w] us Q I rv ⟨v, w, _, _, b, rfl, by rw [show w = .ty n from r2]; exact .ty n, tyS_x sr r1 et, kit_ty k2, q _ rfl⟩
      | inr k =>
        dsimp only at h1
        by_cases hk : k ∈ cs ∧ n ∈ isNs
        · rw [if_pos hk] at h1
          obtain ⟨f1, f2, f3, f4, f5⟩ := fac k hk.1
          obtain ⟨a, dx, fs, ev, ha⟩ := insC_ok sr r1 (tyS_c et)
          exact call_isi pins s σ H [v, w] us Q I rv ⟨v, w, _, _, false, rfl, by rw [show w = .ty n from r2]; exact .ty n, by rw [ev]; exact f2 ha, f5 n hk.2, Wp.ok h1 sr _ rfl⟩
        · rw [if_neg hk] at h1; exact h1.elim
  | gl n =>
    unfold pIsi at h1
    dsimp only at h1
    by_cases hn : n ∈ cs
    · rw [if_pos hn] at h1
      obtain ⟨f1, f2, f3, f4, f5⟩ := fac n hn
      cases et : tyS d S with
      | none => rw [et] at h1; exact h1.elim
      | some z =>
        rw [et] at h1
        cases z with
        | inl t => exact call_isi pins s σ H [v, w] us Q I rv ⟨v, w, _, _, false, rfl, by rw [show w = .ref _ from r2]; exact .own _, tyS_x sr r1 et, f3 t (tyS_in et), Wp.ok h1 sr _ rfl⟩
        | inr k =>
          dsimp only at h1
          by_cases hk : k ∈ cs
          · rw [if_pos hk] at h1
            obtain ⟨g1, g2, _⟩ := fac k hk
            obtain ⟨a, dx, fs, ev, ha⟩ := insC_ok sr r1 (tyS_c et)
            exact call_isi pins s σ H [v, w] us Q I rv ⟨v, w, _, _, (k == n), rfl, by rw [show w = .ref _ from r2]; exact .own _, by rw [ev]; exact g2 ha, f4 k hk, Wp.ok h1 sr _ rfl⟩
          · rw [if_neg hk] at h1; exact h1.elim
    · rw [if_neg hn] at h1; exact h1.elim
  | _ => exact h1.elim
end
end Dn

set_option Elab.async false
set_option linter.all false
set_option maxRecDepth 100000
set_option maxHeartbeats 400000
namespace Dn
open PySem PySem.Spec PyProof.Rows L2
/-! ### f-strings -/
def fmtD : D → M D := fun d => match d with
  | .str y => if y.length ≤ line then M.pure (.str y) else stuck
  | .int i => if i.natAbs.log2 < 1920 then M.pure (.str (Str.ofString (toString i))) else stuck
  | _ => stuck
def xFmt (x : XE) : XE := fun F e => (x F e).bind fmtD
def joinX : List XE → Str → XE
  | [], acc => fun _ _ => M.pure (.str acc)
  | x :: r, acc => fun F e => (x F e).bind fun d => match d with
    | .str y => if (acc ++ y).length ≤ line then joinX r (acc ++ y) F e else stuck
    | _ => stuck
inductive DJ (X : Cx) (W : WX) (F : Fns) : List Expr → List XE → Prop where
  | nil : DJ X W F [] []
  | cons {e : Expr} {x : XE} {es : List Expr} {xs : List XE} (h : DE X W F e x) (r : DJ X W F es xs) : DJ X W F (e :: es) (x :: xs)
section
variable {X : Cx} {W : WX} {F : Fns} {pos : Pos} {a b : Expr} {es : List Expr} {x y : XE}
theorem de_fmt (ha : DE X W F a x) : DE X W F (.FormattedValue a (-1) none pos) (xFmt x) := by
  refine PE.imp (pe_fmt ha) ?_
  rintro σ H Q ⟨p, e, S, sr, re, h⟩
  refine ⟨p, e, S, sr, re, h.bind.imp fun d S1 q H' f s1 h1 v r => ?_⟩
  cases d with
  | str z =>
    obtain ⟨hz, h2⟩ := wp_if h1
    exact .inl ⟨z, r, by rw [line_eq]; exact hz, Wp.ok h2 s1 _ rfl⟩
  | int i =>
    obtain ⟨hz, h2⟩ := wp_if h1
    exact .inr ⟨i, r, hz, Wp.ok h2 s1 _ rfl⟩
  | _ => exact h1.elim
theorem DJ.pj {xs : List XE} (h : DJ X W F es xs) : PJ X es (xs.map (tE X.K W F)) := by
  induction h with
  | nil => exact .nil
  | cons h r ih => exact .cons h ih
theorem js_of {σ : L2.St} {Q : VK} : ∀ {xs : List XE} {acc : Str} {p : Wl} {e : Env} {S : Sto} {H : Hp}, SR X.K p S H → RepE X.K p H e σ → Wp X.K p H (joinX xs acc F e S) (vQ X.K Q) (WE W σ) → tJs (xs.map (tE X.K W F)) acc σ H (fun out H1 => Q (.str out) H1)
  | [], acc, p, e, S, H, sr, re, h => Wp.ok h sr _ rfl
  | x :: r, acc, p, e, S, H, sr, re, h => by
    refine ⟨p, e, S, sr, re, (Wp.bind h).imp fun d S1 q H' f s1 h1 v rv => ?_⟩
    cases d with
    | str y =>
      obtain ⟨hz, h2⟩ := wp_if h1
      exact ⟨y, rv, by rw [line_eq]; exact hz, js_of s1 (re.fw f) h2⟩
    | _ => exact h1.elim
theorem de_join {xs : List XE} (h : DJ X W F (a :: b :: es) xs) : DE X W F (.JoinedStr (a :: b :: es) pos) (joinX xs Str.empty) := by
  refine PE.imp (pe_joined h.pj) ?_
  rintro σ H Q ⟨p, e, S, sr, re, h⟩
  exact js_of sr re h
theorem de_join1 (ha : DE X W F a x) : DE X W F (.JoinedStr [a] pos) x := pe_joined1 ha
end
end Dn

set_option Elab.async false
set_option linter.all false
set_option maxRecDepth 100000
set_option maxHeartbeats 400000
namespace Dn
open PySem PySem.Spec PyProof.Rows L2
/-! ### how arguments are bound -/
theorem zip_look {α : Type} : ∀ {ks : List Str} {l : List α} {n : Str}, n ∈ ks → ks.length = l.length → ∃ a, (ks.zip l).lookup n = some a
  | [], _, _, h, _ => by cases h
  | k :: ks, [], _, _, h => by cases h
  | k :: ks, a :: l, n, h, hl => by
    rw [List.zip_cons_cons, List.lookup_cons]
    cases q : (n == k) with
    | true => exact ⟨a, rfl⟩
    | false =>
      have : n ∈ ks := by
        rcases List.mem_cons.mp h with e | e
        · rw [e] at q; simp at q
        · exact e
      exact zip_look this (by simpa using hl)
theorem zip_lookN {α : Type} : ∀ {ks : List Str} {l : List α} {n : Str}, n ∉ ks → (ks.zip l).lookup n = none
  | [], _, _, _ => by simp
  | k :: ks, [], _, _ => by simp
  | k :: ks, a :: l, n, h => by
    rw [List.zip_cons_cons, List.lookup_cons]
    have hk : (n == k) = false := by
      rw [beq_eq_false_iff_ne]
      exact fun e => h (by rw [e]; exact List.mem_cons_self)
    rw [hk]
    exact zip_lookN fun e => h (List.mem_cons_of_mem _ e)
/-- what is given under the names ks, in the order of ps -/
def gN {α : Type} (ks ps : List Str) (l : List α) : List α := ps.filterMap fun n => (ks.zip l).lookup n
theorem gN_length {α : Type} {ks : List Str} {l : List α} (hl : ks.length = l.length) : ∀ {ps : List Str}, (∀ n ∈ ps, n ∈ ks) → (gN ks ps l).length = ps.length
  | [], _ => rfl
  | p :: ps, h => by
    obtain ⟨a, ha⟩ := zip_look (h p List.mem_cons_self) hl
    unfold gN
    rw [List.filterMap_cons, ha]
    show (gN ks ps l).length + 1 = _
    rw [gN_length hl fun n hn => h n (List.mem_cons_of_mem _ hn), List.length_cons]
theorem gN_zip {α : Type} {ks : List Str} {l : List α} (hl : ks.length = l.length) : ∀ {ps : List Str}, (∀ n ∈ ps, n ∈ ks) → ps.filterMap (fun n => ((ks.zip l).lookup n).map (n, ·)) = ps.zip (gN ks ps l)
  | [], _ => rfl
  | p :: ps, h => by
    obtain ⟨a, ha⟩ := zip_look (h p List.mem_cons_self) hl
    have ih := gN_zip hl (ps := ps) fun n hn => h n (List.mem_cons_of_mem _ hn)
    unfold gN at ih ⊢
    rw [List.filterMap_cons, ha]
    show (p, a) :: List.filterMap _ ps = _
    rw [List.filterMap_cons, ha]
    show _ = (p, a) :: ps.zip _
    rw [ih]
theorem gN_self {α : Type} : ∀ {ps : List Str} {l : List α}, ps.Nodup → ps.length = l.length → ps.filterMap (fun n => ((ps.zip l).lookup n).map (n, ·)) = ps.zip l
  | [], _, _, _ => rfl
  | p :: ps, [], _, h => by cases h
  | p :: ps, a :: l, nd, hl => by
    obtain ⟨h1, h2⟩ := List.nodup_cons.mp nd
    rw [List.zip_cons_cons, List.filterMap_cons, List.lookup_cons_self]
    show (p, a) :: _ = _
    rw [← gN_self (l := l) h2 (by simpa using hl)]
    congr 1
    rw [gN_self (l := l) h2 (by simpa using hl)]
    conv => rhs; rw [← gN_self (l := l) h2 (by simpa using hl)]
    have : ∀ {qs : List Str}, p ∉ qs → qs.filterMap (fun n => (((p, a) :: ps.zip l).lookup n).map (n, ·)) = qs.filterMap (fun n => ((ps.zip l).lookup n).map (n, ·)) := by
      intro qs
      induction qs with
      | nil => intro _; rfl
      | cons q qs ih =>
        intro hq
        have hne : (q == p) = false := by
          rw [beq_eq_false_iff_ne]
          exact fun e => hq (by rw [e]; exact List.mem_cons_self)
        rw [List.filterMap_cons, List.filterMap_cons, List.lookup_cons, hne, ih fun e => hq (List.mem_cons_of_mem _ e)]
    exact this h1
/-- plain parameters -/
def plainP (p : Arguments) (ps : List Str) : Bool := p.posonlyargs.isEmpty && (p.kwonlyargs.isEmpty && (p.vararg.isNone && (p.kwarg.isNone && decide (p.args.map (·.arg) = ps))))
theorem bind_pos {fd : FuncData} {ps : List Str} (hp : plainP fd.params ps = true) (hd : fd.defaults = .none) (nd : ps.Nodup) {us : List Value} (hl : us.length = ps.length) : bindArgs fd ⟨us, []⟩ = pure (ps.zip us) := by
  obtain ⟨h1, hp⟩ := He.ba hp
  obtain ⟨h2, hp⟩ := He.ba hp
  obtain ⟨h3, hp⟩ := He.ba hp
  obtain ⟨h4, h5⟩ := He.ba hp
  have h1 := List.isEmpty_iff.mp h1
  have h2 := List.isEmpty_iff.mp h2
  have h3 := Option.isNone_iff_eq_none.mp h3
  have h4 := Option.isNone_iff_eq_none.mp h4
  have h5 := of_decide_eq_true h5
  have hm : ps.filter (fun n => ((ps.zip us).lookup n).isNone) = [] := by
    rw [List.filter_eq_nil_iff]
    intro n hn
    obtain ⟨a, ha⟩ := zip_look hn hl.symm
    rw [ha]
    simp
  unfold bindArgs
  have hgt : ¬ (ps.length < us.length) := by omega
  simp [h1, h2, h3, h4, h5, hd, seqItems?, notAStandIn, hm, gN_self nd hl.symm, hgt]
theorem lookup_app {α : Type} {n : Str} : ∀ {l m : List (Str × α)}, (l ++ m).lookup n = (l.lookup n).or (m.lookup n)
  | [], m => by simp
  | (k, a) :: l, m => by
    rw [List.cons_append, List.lookup_cons, List.lookup_cons]
    cases (n == k) with
    | true => rfl
    | false => exact lookup_app
/-- the loop over the keywords -/
theorem kw_loop {normal : List Str} {bad : Str × Value → Sem (ForInStep (List (Str × Value) × List (Str × Value)))} : ∀ (kw : List (Str × Value)) (slots : List (Str × Value)) (f : (Str × Value) → (List (Str × Value) × List (Str × Value)) → Sem (ForInStep (List (Str × Value) × List (Str × Value)))),
    (∀ k v sl ex, k ∈ normal → sl.lookup k = none → f (k, v) ⟨sl, ex⟩ = pure (.yield ⟨sl ++ [(k, v)], ex⟩)) → (kw.map (·.1)).Nodup → (∀ p ∈ kw, p.1 ∈ normal) → (∀ p ∈ kw, slots.lookup p.1 = none) →
    (forIn kw (⟨slots, []⟩ : (List (Str × Value) × List (Str × Value))) f : Sem _) = pure ⟨slots ++ kw, []⟩
  | [], slots, f, _, _, _, _ => by simp
  | (k, v) :: kw, slots, f, hf, nd, hn, hs => by
    rw [List.forIn_cons, hf k v slots [] (hn (k, v) List.mem_cons_self) (hs (k, v) List.mem_cons_self)]
    rw [pure_bind]
    show (forIn kw (⟨slots ++ [(k, v)], []⟩ : (List (Str × Value) × List (Str × Value))) f : Sem _) = _
    have nd' := List.nodup_cons.mp (show (k :: kw.map (·.1)).Nodup from nd)
    rw [kw_loop (bad := bad) kw (slots ++ [(k, v)]) f hf nd'.2 (fun p hp => hn p (List.mem_cons_of_mem _ hp)) fun p hp => ?_, List.append_assoc]
    · rfl
    · rw [lookup_app, hs p (List.mem_cons_of_mem _ hp), Option.none_or, List.lookup_cons]
      have : (p.1 == k) = false := by
        rw [beq_eq_false_iff_ne]
        exact fun e => nd'.1 (by rw [← e]; exact List.mem_map_of_mem hp)
      rw [this]
      rfl
theorem bind_kw {fd : FuncData} {ps ks : List Str} (hp : plainP fd.params ps = true) (hd : fd.defaults = .none) (nk : ks.Nodup) (hk : ∀ n ∈ ks, n ∈ ps) (hs : ∀ n ∈ ps, n ∈ ks) {ws : List Value} (hl : ws.length = ks.length) : bindArgs fd ⟨[], ks.zip ws⟩ = pure (ps.zip (gN ks ps ws)) := by
  obtain ⟨h1, hp⟩ := He.ba hp
  obtain ⟨h2, hp⟩ := He.ba hp
  obtain ⟨h3, hp⟩ := He.ba hp
  obtain ⟨h4, h5⟩ := He.ba hp
  have h1 := List.isEmpty_iff.mp h1
  have h2 := List.isEmpty_iff.mp h2
  have h3 := Option.isNone_iff_eq_none.mp h3
  have h4 := Option.isNone_iff_eq_none.mp h4
  have h5 := of_decide_eq_true h5
  have hm : ps.filter (fun n => ((ks.zip ws).lookup n).isNone) = [] := by
    rw [List.filter_eq_nil_iff]
    intro n hn
    obtain ⟨a, ha⟩ := zip_look (hs n hn) hl.symm
    rw [ha]
    simp
  have hz := gN_zip (l := ws) hl.symm hs
  have hmap : (ks.zip ws).map (·.1) = ks := by
    rw [List.map_fst_zip]
    omega
  unfold bindArgs
  dsimp only
  rw [h1, h2]
  simp only [List.map_nil, List.nil_append, List.zip_nil_right, h5]
  rw [kw_loop (normal := ps) (bad := fun _ => pure (.yield ([], []))) (ks.zip ws) [] _ ?_ (by rw [hmap]; exact nk) (fun p hp => hk p.1 ?_) (fun p hp => rfl)]
  · simp [h3, h4, hd, seqItems?, notAStandIn, hm, hz]
  · intro k v sl ex hkn hls
    simp [hkn, hls]
  · rw [← hmap]
    exact List.mem_map_of_mem hp
end Dn

set_option Elab.async false
set_option linter.all false
set_option maxRecDepth 100000
set_option maxHeartbeats 400000
namespace Dn
open PySem PySem.Spec PyProof.Rows L2
/-! ### the forms of the text, in general -/
def noStar : Expr → Bool
  | .Starred _ _ => false
  | _ => true
theorem star_cons {a : Expr} {es : List Expr} {env : PySem.Env} (h : noStar a = true) : starEach (a :: es) env = (false, eval a env) :: starEach es env := by
  cases a <;> first | rfl | cases h
theorem star_any {env : PySem.Env} {pos : Pos} : ∀ {es : List Expr}, es.all noStar = true → (backTo pos (starEach es env)).any (·.1) = false
  | [], _ => by first | rfl | simp [starEach, backTo]
  | a :: es, h => by
    obtain ⟨h1, h2⟩ := (Bool.and_eq_true _ _).mp (show (noStar a && es.all noStar) = true from h)
    rw [star_cons h1]
    exact star_any h2
theorem star_all {env : PySem.Env} {pos : Pos} : ∀ {es : List Expr}, es.all noStar = true → (backTo pos (starEach es env)).all (fun x => !x.1) = true
  | [], _ => by first | rfl | simp [starEach, backTo]
  | a :: es, h => by
    obtain ⟨h1, h2⟩ := (Bool.and_eq_true _ _).mp (show (noStar a && es.all noStar) = true from h)
    rw [star_cons h1]
    exact star_all h2
/-- a test that is its value's truth -/
def plainT : Expr → Bool
  | .UnaryOp .Not _ _ => false
  | .BoolOp _ _ _ => false
  | .IfExp _ _ _ _ => false
  | .Compare _ _ _ _ => false
  | _ => true
theorem plainT_ok {a : Expr} {env : PySem.Env} (h : plainT a = true) (whole : Sem Value) : isTrue a env whole = (do let v ← whole; standAt a.pos; holding [v] (truthy v)) := by
  cases a with
  | UnaryOp op x p => cases op <;> first | rfl | cases h
  | BoolOp _ _ _ => cases h
  | IfExp _ _ _ _ => cases h
  | Compare _ _ _ _ => cases h
  | _ => rfl
def noSlice : Expr → Bool
  | .Slice _ _ _ _ => false
  | _ => true
theorem plainIx_of {b : Expr} (h : noSlice b = true) : PlainIx b := by
  intro o i
  cases b <;> first | rfl | cases h
def noComp : Expr → Bool
  | .ListComp _ _ _ _ => false
  | .SetComp _ _ _ _ => false
  | .DictComp _ _ _ _ _ => false
  | _ => true
theorem swaps_no {a : Expr} {t : Option Expr} {n : Nat} {env : PySem.Env} (h : noComp a = true) : swapsWith a t n env = pure false := by
  cases a <;> first | rfl | cases h
def noSetE : Expr → Bool
  | .Set _ _ _ => false
  | _ => true
theorem fold_no {a : Expr} {env : PySem.Env} {x : Value} (h : noSetE a = true) : foldedSetIterable a env x = pure x := by
  cases a <;> first | rfl | cases h
/-- not super() -/
def noSup : Expr → Bool
  | .Call (.Name id _) [] [] _ => id != "super"
  | _ => true
theorem base_no {a : Expr} {f : Str} {env : PySem.Env} (h : noSup a = true) : attributeBase a f env (eval a env) = eval a env := by
  unfold attributeBase
  split
  · rename_i id p p2
    have h : (id != "super") = true := h
    simp [h]
  · rfl
theorem meth_form {o : Expr} {m : Str} {apos pos : Pos} {args : List Expr} {env : PySem.Env} (hs : noSup o = true) (ha : args.all noStar = true) (hl : args.length < 30) (hline : (apos.endLine == pos.line) = true) :
    eval (.Call (.Attribute o m apos) args [] pos) env = (do
      let ov ← eval o env
      standAt apos.atName
      let (f, first) ← holding [ov] (getMethod ov m (do return (← importBound o env).getD true))
      callWith pos f first (backTo pos (starEach args env)) (backToKw pos (keywordEach [] env))) := by
  have e1 : eval (.Call (.Attribute o m apos) args [] pos) env = (do
    let ov ← attributeBase o m env (eval o env)
    standAt apos.atName
    methodCall o m apos pos env ov (args.length + ([] : List Keyword).length) (backTo pos (starEach args env)) (backToKw pos (keywordEach [] env))) := rfl
  have hf : methodCallForm (args.length + ([] : List Keyword).length) (backTo pos (starEach args env)) (backToKw pos (keywordEach [] env)) = true := by
    unfold methodCallForm
    rw [star_all ha]
    have : (backToKw pos (keywordEach [] env)) = [] := by first | rfl | simp [keywordEach, backToKw]
    rw [this]
    simp
    omega
  rw [e1, base_no hs]
  unfold methodCall
  rw [hf]
  unfold calleeOf methodCallPos
  simp only [hline, if_true, Bool.or_true]
  rfl
/-- the one target of an assignment -/
theorem asg_one {tg : Expr} {env : PySem.Env} (h : noStar tg = true) : (assignEach [tg] env).map (·.2) = [assign tg env] := by
  cases tg <;> first | rfl | cases h
theorem asg_cons {a : Expr} {es : List Expr} {env : PySem.Env} (h : noStar a = true) : (assignEach (a :: es) env).map (·.2) = assign a env :: (assignEach es env).map (·.2) := by
  cases a <;> first | rfl | cases h
theorem asg_len {env : PySem.Env} : ∀ {es : List Expr}, (assignEach es env).length = es.length
  | [] => by first | rfl | simp [assignEach]
  | a :: es => by
    have ih := asg_len (env := env) (es := es)
    cases a <;> (first | (show (assignEach es env).length + 1 = _; rw [ih]; rfl) | (simp [assignEach, ih]))
theorem asg_find {env : PySem.Env} : ∀ {es : List Expr}, es.all noStar = true → (assignEach es env).findIdx? (·.1) = none
  | [], _ => by first | rfl | simp [assignEach]
  | a :: es, h => by
    obtain ⟨h1, h2⟩ := (Bool.and_eq_true _ _).mp (show (noStar a && es.all noStar) = true from h)
    have ih := asg_find (env := env) h2
    have e : assignEach (a :: es) env = (false, assign a env) :: assignEach es env := by cases a <;> first | rfl | cases h1
    rw [e, List.findIdx?_cons]
    simp [ih]
theorem sub_form {a b : Expr} {pos : Pos} {env : PySem.Env} (h : noSlice b = true) (v : Value) : assign (.Subscript a b pos) env v = (do
      let ov ← holding [v] (eval a env)
      let iv ← holding [v, ov] (eval b env)
      standAt pos
      holding [v, ov, iv] (setItem ov iv v)
      release [v, ov, iv] []) := by
  cases b <;> first | rfl | cases h
end Dn

set_option Elab.async false
set_option linter.all false
set_option maxRecDepth 100000
set_option maxHeartbeats 400000
namespace Dn
open PySem PySem.Spec PyProof.Rows L2
/-! ### one reading of two -/
theorem de_or2 {X : Cx} {W : WX} {F : Fns} {a : Expr} {x x1 x2 : XE} (h1 : DE X W F a x1) (h2 : DE X W F a x2) (h : ∀ e S, x F e S = x1 F e S ∨ x F e S = x2 F e S) : DE X W F a x := by
  refine ⟨fun pins s σ H Q I q => ?_⟩
  obtain ⟨p, e, S, sr, re, q⟩ := q
  rcases h e S with z | z
  · rw [z] at q; exact h1.run pins s σ H Q I ⟨p, e, S, sr, re, q⟩
  · rw [z] at q; exact h2.run pins s σ H Q I ⟨p, e, S, sr, re, q⟩
/-! ### count, index, in: items as data -/
def itsT (T : Bool) (d : D) (S : Sto) : Option (List PyData) := match dat S 60 d with
  | some (.list xs) => if T = true then none else some xs
  | some (.tuple xs) => if T = true then some xs else none
  | _ => none
def findB (xs : List PyData) (y : PyData) : Bool := PyData.plainAll xs && (y.plain && decide (y.depth ≤ 60))
def evFind (T : Bool) (k : List PyData → PyData → Option D) (d x : D) (S : Sto) : Res D := match itsT T d S, dat S 60 x with
  | some xs, some y => if findB xs y = true then (match k xs y with
    | some r => .ok r S
    | none => .bad) else .bad
  | _, _ => .bad
def cntD (xs : List PyData) (y : PyData) : Option D := some (.int ((xs.countP fun z => PyData.eqv z y : Nat) : Int))
def idxD (xs : List PyData) (y : PyData) : Option D := if xs.length ≤ line then (SeqAt.dataPlace xs y).map fun j => .int (j : Nat) else none
def inD (ng : Bool) (xs : List PyData) (y : PyData) : Option D := some (.bl (if ng = true then !(xs.any fun z => PyData.eqv z y) else xs.any fun z => PyData.eqv z y))
def ev1M (T : Bool) (k : List PyData → PyData → Option D) : D → List D → M D := fun d ds S => match ds with
  | [x] => evFind T k d x S
  | _ => .bad
def isTupB (d : D) (_ : Sto) : Bool := match d with
  | .tup _ => true
  | _ => false
theorem evFind_ok {K : PySem.W.Frag} {p : Wl} {H : Hp} {T : Bool} {k : List PyData → PyData → Option D} {d x : D} {S : Sto} {A : D → Sto → Wl → Hp → Prop} {E : XK} (h : Wp K p H (evFind T k d x S) A E) :
    ∃ xs y r, dat S 60 d = some (if T = true then .tuple xs else .list xs) ∧ dat S 60 x = some y ∧ PyData.plainAll xs = true ∧ y.plain = true ∧ y.depth ≤ 60 ∧ k xs y = some r ∧ Wp K p H (.ok r S) A E := by
  unfold evFind at h
  cases e1 : itsT T d S with
  | none => rw [e1] at h; exact h.elim
  | some xs =>
    rw [e1] at h
    cases e2 : dat S 60 x with
    | none => rw [e2] at h; exact h.elim
    | some y =>
      rw [e2] at h
      dsimp only at h
      by_cases hc : findB xs y = true
      · rw [if_pos hc] at h
        obtain ⟨c1, hc⟩ := He.ba hc
        obtain ⟨c2, c3⟩ := He.ba hc
        cases e3 : k xs y with
        | none => rw [e3] at h; exact h.elim
        | some r =>
          rw [e3] at h
          refine ⟨xs, y, r, ?_, rfl, c1, c2, of_decide_eq_true c3, e3, h⟩
          unfold itsT at e1
          split at e1
          · rename_i q
            cases T
            · cases e1; exact q
            · cases e1
          · rename_i q
            cases T
            · cases e1
            · cases e1; exact q
          · cases e1
      · rw [if_neg hc] at h; exact h.elim
section
variable {X : Cx}
theorem room60 (hu : X.A.units + 65 < cLine) {xs : List PyData} {y : PyData} (h : y.depth ≤ 60) : X.A.units + 1 + min (PyData.depthAll xs) y.depth < cLine := by
  have := Nat.min_le_right (PyData.depthAll xs) y.depth
  omega
/-- what a method finds in a list or a tuple -/
theorem mt_fnd {id : String} {T : Bool} {k : List PyData → PyData → Option D}
    (hk : ∀ (s : Shared) (l : Addr) (vs : Array Value) (xs : List PyData) (x : Value) (y : PyData) (as bs : List Addr) (r : D) (Q : Value → Shared → Prop) (E : Value → Shared → Prop), (if T = true then s.heap.IsTuple l vs else s.heap.IsList l vs) → ReadsAll s.heap vs.toList xs as → Reads s.heap x y bs → PyData.plainAll xs = true → y.plain = true → y.depth ≤ 60 → k xs y = some r →
      (∀ i t, r = .int i → Q (.int i t) { s with toks := s.toks + 1 }) → (∃ i, r = .int i) ∧ wpAny (model X.prog X.w) X.A (call (.builtin id) [.ref l, x]) Q E s) : MtR X id (rM X.K (ev1M T k)) := by
  rintro pins s σ H y vs u us Q I ry rvs ⟨p, S, d, ds, sr, r, rs, E, h, hE⟩
  cases ds with
  | nil => exact h.elim
  | cons d2 t =>
    cases t with
    | cons d3 t => exact h.elim
    | nil =>
      obtain ⟨v, ws, rfl, r1, hw⟩ := rs
      rw [show ws = [] from hw] at rvs
      obtain ⟨xs, yd, rr, ed, ey, c1, c2, c3, ek, h⟩ := evFind_ok h
      cases rvs with
      | cons rx rt =>
        cases rt
        obtain ⟨bs, rdx⟩ := Dp.reads I yd v _ (dp_of sr r1 ey) rx
        obtain ⟨as, rd⟩ := Dp.reads I _ y u (dp_of sr r ed) ry
        have fin : ∀ i t, rr = .int i → EP X pins σ Q (.int i t) { s with toks := s.toks + 1 } := fun i t e => by
          subst e
          exact ⟨.int i, H, I.tok _, ⟨_, rfl⟩, Wp.ok h sr (.int i) rfl⟩
        cases T with
        | true =>
          cases rd with
          | tuple h1 h2 h3 h4 =>
            obtain ⟨⟨i, e⟩, g⟩ := hk s _ _ xs _ yd _ bs rr (EP X pins σ Q) X.xe ⟨_, h1, h2, _, h3⟩ h4 rdx c1 c2 c3 ek fin
            exact g
        | false =>
          cases rd with
          | list h1 h2 h3 h4 =>
            obtain ⟨⟨i, e⟩, g⟩ := hk s _ _ xs _ yd _ bs rr (EP X pins σ Q) X.xe ⟨_, h1, h2, _, h3⟩ h4 rdx c1 c2 c3 ek fin
            exact g
theorem mt_cntL (hu : X.A.units + 65 < cLine) : MtR X "list.count" (rM X.K (ev1M false cntD)) := mt_fnd fun s l vs xs x y as bs r Q E hl rs rx c1 c2 c3 ek fin => by
  cases ek
  exact ⟨⟨_, rfl⟩, SeqAt.count_list_data hl rs rx c1 c2 (room60 hu c3) (fin _ _ rfl)⟩
theorem mt_cntT (hu : X.A.units + 65 < cLine) : MtR X "tuple.count" (rM X.K (ev1M true cntD)) := mt_fnd fun s l vs xs x y as bs r Q E hl rs rx c1 c2 c3 ek fin => by
  cases ek
  exact ⟨⟨_, rfl⟩, SeqAt.count_tuple_data hl rs rx c1 c2 (room60 hu c3) (fin _ _ rfl)⟩
theorem idx_eq {xs : List PyData} {y : PyData} {r : D} (h : idxD xs y = some r) : xs.length ≤ line ∧ ∃ j : Nat, SeqAt.dataPlace xs y = some j ∧ r = .int (j : Nat) := by
  unfold idxD at h
  split at h
  · rename_i q
    obtain ⟨j, h1, h2⟩ := Option.map_eq_some_iff.mp h
    exact ⟨q, j, h1, h2.symm⟩
  · cases h
theorem mt_idxL (hu : X.A.units + 65 < cLine) : MtR X "list.index" (rM X.K (ev1M false idxD)) := mt_fnd fun s l vs xs x y as bs r Q E hl rs rx c1 c2 c3 ek fin => by
  obtain ⟨hz, j, hj, rfl⟩ := idx_eq ek
  refine ⟨⟨_, rfl⟩, ?_⟩
  obtain ⟨⟨cls, dd, data, sl⟩, ho, hc, n, hd'⟩ := id hl
  simp only at hc hd'
  subst hc hd'
  obtain ⟨hj', hit, hno⟩ := SeqAt.hit_at (h := s.heap) rs c1 hj
  have hsz := SeqAt.len_at rs
  exact call_meets F.slot_list_index ⟨_, ho, rfl⟩ F.entry_list_index (F.args_list_index_2 _ _) (SeqAt.list_indexAt l vs n dd sl x (fun u => PyData.eqv (SeqAt.readOf s.heap u) y) j hj' (by rw [line] at hz; omega) hit hno) ⟨ho, SeqAt.items_plain rs rx c1 c2 (room60 hu c3), fin _ _ rfl⟩
theorem mt_idxT (hu : X.A.units + 65 < cLine) : MtR X "tuple.index" (rM X.K (ev1M true idxD)) := mt_fnd fun s l vs xs x y as bs r Q E hl rs rx c1 c2 c3 ek fin => by
  obtain ⟨hz, j, hj, rfl⟩ := idx_eq ek
  refine ⟨⟨_, rfl⟩, ?_⟩
  obtain ⟨⟨cls, dd, data, sl⟩, ho, hc, n, hd'⟩ := id hl
  simp only at hc hd'
  subst hc hd'
  obtain ⟨hj', hit, hno⟩ := SeqAt.hit_at (h := s.heap) rs c1 hj
  have he := SeqAt.items_plain (A := X.A) rs rx c1 c2 (room60 hu c3)
  refine call_meets F.slot_tuple_index ⟨_, ho, rfl⟩ F.entry_tuple_index (F.args_tuple_index_2 _ _)
    (SeqAt.tuple_index2_found l vs n dd sl x (fun i => if h : i < vs.size then PyData.eqv (SeqAt.readOf s.heap vs[i]) y else false) j hj' (Nat.zero_le _) hj' (by rw [dif_pos hj']; exact hit) (fun m hm _ h2 => by rw [dif_pos hm]; exact hno m hm h2)) ⟨ho, fun i hi => ?_, fin _ _ rfl⟩
  have := he vs[i] (Array.getElem_mem hi)
  rw [dif_pos hi]
  exact this
/-- x in c -/
def signIn (x c : D) : Option (Nat × Str) := match x, c with
  | .str y, .str z => (match y.cps.toList with
    | [k] => some (k, z)
    | _ => none)
  | _, _ => none
theorem signIn_ok {x c : D} {k : Nat} {z : Str} (h : signIn x c = some (k, z)) : x = .str ⟨#[k]⟩ ∧ c = .str z := by
  cases x with
  | str y =>
    cases c with
    | str w =>
      obtain ⟨cs⟩ := y
      have h : (match cs.toList with
        | [k] => some (k, w)
        | _ => none) = some (k, z) := h
      split at h
      · rename_i q
        cases h
        refine ⟨?_, rfl⟩
        congr 2
        exact Array.toList_inj.mp q
      · cases h
    | _ => cases h
  | _ => cases h
def evIn (ng : Bool) : E2 := fun x c S => match signIn x c with
  | some (k, z) => .ok (.bl (if ng = true then !decide (k ∈ z.cps.toList) else decide (k ∈ z.cps.toList))) S
  | none => if isTupB c S = true then evFind true (inD ng) c x S else evFind false (inD ng) c x S
theorem op_dnIn (hu : X.A.units + 65 < cLine) {ng : Bool} : OpR X (compareOp (if ng = true then .NotIn else .In)) (r2 X.K (evIn ng)) := by
  rintro pins s σ H v w uv uw Q I rv rw' ⟨p, S, d1, d2, sr, h1, h2, E, h, hE⟩
  have gen : ∀ T : Bool, Wp X.K p H (evFind T (inD ng) d2 d1 S) (vQ X.K Q) E → wpAny (model X.prog X.w) X.A (compareOp (if ng = true then .NotIn else .In) uv uw) (EP X pins σ Q) X.xe s := fun T h => by
    obtain ⟨xs, yd, rr, ed, ey, c1, c2, c3, ek, hw⟩ := evFind_ok h
    cases ek
    obtain ⟨bs, rdx⟩ := Dp.reads I yd v _ (dp_of sr h1 ey) rv
    obtain ⟨as, rd⟩ := Dp.reads I _ w uw (dp_of sr h2 ed) rw'
    cases ng <;> cases T
    · exact SeqAt.in_list_data rd rdx c1 c2 (room60 hu c3) ⟨.bl _, H, I, rfl, Wp.ok hw sr _ rfl⟩
    · exact SeqAt.in_tuple_data rd rdx c1 c2 (room60 hu c3) ⟨.bl _, H, I, rfl, Wp.ok hw sr _ rfl⟩
    · exact SeqAt.notIn_list_data rd rdx c1 c2 (room60 hu c3) ⟨.bl _, H, I, rfl, Wp.ok hw sr _ rfl⟩
    · exact SeqAt.notIn_tuple_data rd rdx c1 c2 (room60 hu c3) ⟨.bl _, H, I, rfl, Wp.ok hw sr _ rfl⟩
  unfold evIn at h
  split at h
  · rename_i k z hk
    obtain ⟨rfl, rfl⟩ := signIn_ok hk
    have fin := Wp.ok h sr _ rfl
    cases ng
    · exact op_in_sign pins s σ H v w uv uw Q I rv rw' ⟨_, _, h1, h2, fin⟩
    · exact op_notIn_sign pins s σ H v w uv uw Q I rv rw' ⟨_, _, h1, h2, fin⟩
  · split at h
    · exact gen true h
    · exact gen false h
end
/-! ### max, min of three -/
section
variable {X : Cx}
def pMaxU : List D → M D := fun ds S => match ds with
  | [.int i, .int j, .int k] => .ok (.int (max (max i j) k)) S
  | ds => pMaxT ds S
def pMinU : List D → M D := fun ds S => match ds with
  | [.int i, .int j, .int k] => .ok (.int (min (min i j) k)) S
  | ds => pMinT ds S
theorem nuMax_int (i j : Int) : nuMax2 (.int i) (.int j) = some (.int (max i j)) := by
  show some (if decide (i < j) = true then V.int j else V.int i) = _
  by_cases h : i < j
  · rw [decide_eq_true h, if_pos rfl, Int.max_eq_right (by omega)]
  · rw [decide_eq_false h, if_neg Bool.false_ne_true, Int.max_eq_left (by omega)]
theorem nuMin_int (i j : Int) : nuMin2 (.int i) (.int j) = some (.int (min i j)) := by
  show some (if decide (j < i) = true then V.int j else V.int i) = _
  by_cases h : j < i
  · rw [decide_eq_true h, if_pos rfl, Int.min_eq_right (by omega)]
  · rw [decide_eq_false h, if_neg Bool.false_ne_true, Int.min_eq_left (by omega)]
theorem cr_dnMaxU (hc : X.calm = true) : CallR X (.builtin "max") (rN X.K pMaxU) := by
  rintro pins s σ H vs us Q I rv ⟨p, S, ds, sr, r, E, h, hE⟩
  unfold pMaxU at h
  split at h
  · rename_i i j k
    obtain ⟨v, w, e, r1, r2⟩ := r
    obtain ⟨v', w', e', r3, r4⟩ := r2
    obtain ⟨v2, w2, e2, r5, r6⟩ := r4
    refine call_max3Nu hc pins s σ H vs us Q I rv ⟨.int i, .int j, .int k, .int (max (max i j) k), ?_, ?_, Wp.ok h sr _ rfl⟩
    · rw [e, e', e2, show w2 = [] from r6, show v = _ from r1, show v' = _ from r3, show v2 = _ from r5]
    · show (nuMax2 (.int i) (.int j)).bind _ = _
      rw [nuMax_int]
      exact nuMax_int _ _
  · exact cr_dnMaxT hc pins s σ H vs us Q I rv ⟨p, S, _, sr, r, E, h, hE⟩
theorem cr_dnMinU (hc : X.calm = true) : CallR X (.builtin "min") (rN X.K pMinU) := by
  rintro pins s σ H vs us Q I rv ⟨p, S, ds, sr, r, E, h, hE⟩
  unfold pMinU at h
  split at h
  · rename_i i j k
    obtain ⟨v, w, e, r1, r2⟩ := r
    obtain ⟨v', w', e', r3, r4⟩ := r2
    obtain ⟨v2, w2, e2, r5, r6⟩ := r4
    refine call_min3Nu hc pins s σ H vs us Q I rv ⟨.int i, .int j, .int k, .int (min (min i j) k), ?_, ?_, Wp.ok h sr _ rfl⟩
    · rw [e, e', e2, show w2 = [] from r6, show v = _ from r1, show v' = _ from r3, show v2 = _ from r5]
    · show (nuMin2 (.int i) (.int j)).bind _ = _
      rw [nuMin_int]
      exact nuMin_int _ _
  · exact cr_dnMinT hc pins s σ H vs us Q I rv ⟨p, S, _, sr, r, E, h, hE⟩
end
/-! ### methods of lists and of tuples -/
def xBM2 (c1 : D → Sto → Bool) (e1 : D → List D → M D) (c2 : D → Sto → Bool) (e2 : D → List D → M D) (o : XE) (xs : XEs) : XE := fun F e => (o F e).bind fun d S => if c1 d S = true then ((xs F e).bind fun ds => noX (e1 d ds)) S else if c2 d S = true then ((xs F e).bind fun ds => noX (e2 d ds)) S else .bad
theorem xBM2_or {c1 c2 : D → Sto → Bool} {e1 e2 : D → List D → M D} {o : XE} {xs : XEs} {F : Fns} (e : Dn.Env) (S : Sto) : xBM2 c1 e1 c2 e2 o xs F e S = xBM c1 e1 o xs F e S ∨ xBM2 c1 e1 c2 e2 o xs F e S = xBM c2 e2 o xs F e S := by
  unfold xBM2 xBM M.bind
  cases h : o F e S with
  | ok d S1 =>
    dsimp only
    by_cases h1 : c1 d S1 = true
    · left; rw [if_pos h1, if_pos h1]
    · right; rw [if_neg h1]
  | exc c fs S1 => exact .inl rfl
  | bad => exact .inl rfl
end Dn

set_option Elab.async false
set_option linter.all false
set_option maxRecDepth 100000
set_option maxHeartbeats 400000
namespace Dn
open PySem PySem.Spec PyProof.Rows L2
/-! ### the reading of a text, made by a program -/
def xBad : XE := fun _ _ => stuck
def tBad : XT := fun _ _ => stuck
def iBad : XI := fun _ _ => stuck
def gBad : XG := fun _ _ _ => stuck
section
variable {X : Cx} {W : WX} {F : Fns} {e tg : Expr}
theorem de_bad : DE X W F e xBad := ⟨fun pins s σ H Q I ⟨p, e, S, sr, re, h⟩ => h.elim⟩
theorem dt_bad : DT X W F e tBad := ⟨fun pins s σ H Q I ⟨p, e, S, sr, re, h⟩ => h.elim⟩
theorem di_bad : DI X W F tg e iBad := ⟨fun pins s σ H Q I ⟨p, e, S, sr, re, h⟩ => h.elim⟩
theorem dg_bad {ws : Option (List Nat)} : DG X F ws tg gBad := ⟨fun pins s σ H v u Q I r ⟨p, e, S, d, sr, re, rd, h⟩ => h.elim⟩
theorem dts_bad {es : List Expr} : PTs X es (tT X.K W F tBad) := ⟨fun pins s σ H Q I ⟨p, e, S, sr, re, h⟩ => h.elim⟩
theorem dss_bad {ss : List Stmt} : DSs X W F ss sNever := ⟨fun pins s σ H Q I ⟨p, e, S, sr, re, h⟩ => h.elim⟩
end
def relS (scope sc : Scope) : Scope :=
  { scope with names := scope.names.map fun (n, k) => if k == .free && sc.kind == .function && sc.names.lookup n == some .cell then (n, .cell) else (n, k) }
/-- a def of the text -/
structure Ent where
  d : DefQ
  ps : List Str
  N : List Str
structure Glob where
  ents : List Ent
  consts : List (Str × D)
  frees : List Str
  cls : List Str
  flds : List (Str × List Str)
  al : List (Nat × Nat × Nat × Nat)
def Glob.isAl (g : Glob) (p : Pos) : Bool := g.al.contains (p.line, p.col, p.endLine, p.endCol)
def findE (t : Wh → Bool) : List Ent → Nat → Option (Nat × Ent)
  | [], _ => none
  | e :: r, i => if t e.d.at_ = true then some (i, e) else findE t r (i + 1)
theorem findE_ok {t : Wh → Bool} : ∀ {l : List Ent} {i j : Nat} {e : Ent}, findE t l i = some (j, e) → i ≤ j ∧ l[j - i]? = some e ∧ t e.d.at_ = true
  | [], _, _, _, h => by cases h
  | a :: r, i, j, e, h => by
    unfold findE at h
    split at h
    · rename_i q
      cases h
      exact ⟨Nat.le_refl _, by rw [Nat.sub_self]; rfl, q⟩
    · obtain ⟨h1, h2, h3⟩ := findE_ok h
      refine ⟨by omega, ?_, h3⟩
      rw [show j - i = (j - (i + 1)) + 1 by omega]
      exact h2
def allE {α : Type} (t : Ent → Option Str) (f : Nat → Ent → α) : List Ent → Nat → List (Str × α)
  | [], _ => []
  | e :: r, i => match t e with
    | some c => (c, f i e) :: allE t f r (i + 1)
    | none => allE t f r (i + 1)
theorem allE_ok {α : Type} {t : Ent → Option Str} {f : Nat → Ent → α} : ∀ {l : List Ent} {i : Nat} {c : Str} {a : α}, (allE t f l i).lookup c = some a → ∃ j e, l[j]? = some e ∧ t e = some c ∧ a = f (i + j) e
  | [], _, _, _, h => by cases h
  | e :: r, i, c, a, h => by
    unfold allE at h
    cases q : t e with
    | none =>
      rw [q] at h
      obtain ⟨j, e', h1, h2, h3⟩ := allE_ok h
      exact ⟨j + 1, e', h1, h2, by rw [h3]; congr 1; omega⟩
    | some c' =>
      rw [q] at h
      have h : ((c', f i e) :: allE t f r (i + 1)).lookup c = some a := h
      rw [List.lookup_cons] at h
      cases qq : (c == c') with
      | true =>
        rw [qq] at h
        cases h
        have := eq_of_beq qq
        exact ⟨0, e, rfl, by rw [q, this], rfl⟩
      | false =>
        rw [qq] at h
        obtain ⟨j, e', h1, h2, h3⟩ := allE_ok h
        exact ⟨j + 1, e', h1, h2, by rw [h3]; congr 1; omega⟩
def isTop (n : Str) : Wh → Bool
  | .top x => decide (x = n)
  | _ => false
def isMeth (c m : Str) : Wh → Bool
  | .meth c' m' => decide (c' = c) && decide (m' = m)
  | _ => false
def cOfProp (f : Str) : Wh → Option Str
  | .prop c m => if m = f then some c else none
  | _ => none
def cOfMeth (f : Str) : Wh → Option Str
  | .meth c m => if m = f then some c else none
  | _ => none
theorem isTop_ok {n : Str} {w : Wh} (h : isTop n w = true) : w = .top n := by
  cases w with
  | top x => rw [of_decide_eq_true (show decide (x = n) = true from h)]
  | _ => cases h
theorem isMeth_ok {c m : Str} {w : Wh} (h : isMeth c m w = true) : w = .meth c m := by
  cases w with
  | meth x y =>
    obtain ⟨h1, h2⟩ := He.ba (show (decide (x = c) && decide (y = m)) = true from h)
    rw [of_decide_eq_true h1, of_decide_eq_true h2]
  | _ => cases h
theorem cOfProp_ok {f c : Str} {w : Wh} (h : cOfProp f w = some c) : w = .prop c f := by
  cases w with
  | prop x y =>
    have h : (if y = f then some x else none) = some c := h
    split at h
    · rename_i e; cases h; rw [e]
    · cases h
  | _ => cases h
theorem cOfMeth_ok {f c : Str} {w : Wh} (h : cOfMeth f w = some c) : w = .meth c f := by
  cases w with
  | meth x y =>
    have h : (if y = f then some x else none) = some c := h
    split at h
    · rename_i e; cases h; rw [e]
    · cases h
  | _ => cases h
def Glob.def_ (g : Glob) (n : Str) : Option (Nat × Ent) := findE (isTop n) g.ents 0
def Glob.init (g : Glob) (c : Str) : Option (Nat × Ent) := findE (isMeth c "__init__") g.ents 0
def withN (n : Nat) (t : Wh → Option Str) (e : Ent) : Option Str := if e.ps.length = n then t e.d.at_ else none
def Glob.props (g : Glob) (f : Str) : List (Str × Nat) := allE (withN 1 (cOfProp f)) (fun i _ => i) g.ents 0
def Glob.meths (g : Glob) (m : Str) : List (Str × Nat × Nat) := allE (fun e => cOfMeth m e.d.at_) (fun i e => (i, e.ps.length)) g.ents 0
def Glob.eqs (g : Glob) (c : Str) : Option Nat := (allE (withN 2 (cOfMeth "__eq__")) (fun i _ => i) g.ents 0).lookup c
theorem withN_ok {n : Nat} {t : Wh → Option Str} {e : Ent} {c : Str} (h : withN n t e = some c) : e.ps.length = n ∧ t e.d.at_ = some c := by
  unfold withN at h
  split at h
  · rename_i q; exact ⟨q, h⟩
  · cases h
/-! ### what the text's head gives -/
structure KF (g : Glob) (K : PySem.W.Frag) (mg : Str → Option Value) : Prop where
  top : ∀ e ∈ g.ents, ∀ n, e.d.at_ = .top n → mg n = some (.ref (He.ga K n))
  keep : ∀ e ∈ g.ents, PySem.W.keepIn K (.ref (e.d.at_.ad K)) = true
  con : ∀ n d, g.consts.lookup n = some d → ∃ u v, mg n = some u ∧ RelV v u ∧ ∀ p H, Rep K p H d v
  free : ∀ n ∈ g.frees, mg n = none
  cls : ∀ c ∈ g.cls, mg c = some (.ref (He.ga K c))
  isi : isiB K g.cls = true
  mkr : ∀ e ∈ g.ents, ∀ c, e.d.at_ = .meth c "__init__" → Mk K (He.ga K c) (He.ma K (He.ga K c) "__init__")
  fld : ∀ f cs, g.flds.lookup f = some cs → ∀ c ∈ cs, Cls K (He.ga K c) ∧ NoAttr K (He.ga K c) f
  prop : ∀ e ∈ g.ents, ∀ c f, e.d.at_ = .prop c f → Cls K (He.ga K c) ∧ PropOf K (He.ga K c) f (He.ma K (He.ga K c) f) (Wh.ad K (.prop c f))
  meth : ∀ e ∈ g.ents, ∀ c m, e.d.at_ = .meth c m → Cls K (He.ga K c) ∧ Meth K (He.ga K c) m (He.ma K (He.ga K c) m)
structure FF (g : Glob) (P : Program) (w : World) (K : PySem.W.Frag) (mg : Str → Option Value) (base : Heap) (F : Fns) (k : Nat) : Prop where
  fn : ∀ i e, g.ents[i]? = some e → ∃ fd, FnG P w K mg base k (e.d.at_.ad K) fd e.ps (spF K F i e.ps.length) ∧ fd.defaults = .none ∧ plainP fd.params e.ps = true ∧ e.ps.Nodup
structure Ok (g : Glob) (N : List Str) (X : Cx) (W : WX) (F : Fns) (k : Nat) (oc sc : Scope) : Prop where
  calm : X.calm = true
  nn : X.N = N
  nd : N.Nodup
  scp : X.env.scope = sc
  fn : ∀ n, oc.names.lookup n = some NameKind.cell → X.fn n = true ∧ sc.names.lookup n = some .cell
  loc : ∀ n, oc.names.lookup n = some NameKind.local → sc.names.lookup n = some .local
  tk : Takes X W
  room : RoomG (k + 1) X.A
  kf : KF g X.K X.mg
  ff : FF g X.prog X.w X.K X.mg X.base F k
theorem tk_no {X : Cx} : Takes X (fun _ _ _ _ => False) := fun _ _ ⟨_, _, _, _, _, _, _, _, _, _, _, _, _, _, _, _, w⟩ => w.elim
theorem Ok.nox {g : Glob} {N : List Str} {X : Cx} {W : WX} {F : Fns} {k : Nat} {oc sc : Scope} (o : Ok g N X W F k oc sc) : Ok g N X noW F k oc sc := ⟨o.calm, o.nn, o.nd, o.scp, o.fn, o.loc, tk_no, o.room, o.kf, o.ff⟩
theorem relS_eq {scope : Scope} {env : PySem.Env} : relabel scope env = relS scope env.scope := rfl
def relK (sc : Scope) (n : Str) (k : NameKind) : NameKind := if k == .free && sc.kind == .function && sc.names.lookup n == some .cell then .cell else k
theorem look_rel {sc : Scope} {n : Str} : ∀ {l : List (Str × NameKind)}, (l.map fun (m, k) => if k == .free && sc.kind == .function && sc.names.lookup m == some .cell then (m, NameKind.cell) else (m, k)).lookup n = (l.lookup n).map (relK sc n)
  | [] => rfl
  | (m, k) :: l => by
    have ih := look_rel (sc := sc) (n := n) (l := l)
    rw [List.map_cons, List.lookup_cons]
    have e : (if (k == .free && sc.kind == .function && sc.names.lookup m == some .cell) = true then (m, NameKind.cell) else (m, k)) = (m, relK sc m k) := by
      unfold relK
      split <;> rfl
    rw [e, List.lookup_cons]
    cases qq : (n == m) with
    | true =>
      have := eq_of_beq qq
      subst this
      rfl
    | false => exact ih
theorem Ok.blk {g : Glob} {N : List Str} {X : Cx} {W : WX} {F : Fns} {k : Nat} {oc sc : Scope} (o : Ok g N X W F k oc sc) (scope : Scope) (s : Shared) (H : Hp) (C : Addr) (cl : List (Str × Addr)) (fp : List Addr) :
    Ok g N (X.blk s H scope (compEnvC scope cl C X.env) fp) noW F k scope (relS scope sc) where
  calm := o.calm
  nn := o.nn
  nd := o.nd
  scp := by rw [← o.scp]; rfl
  fn := fun n h => ⟨by show (scope.names.lookup n == some .cell) = true; rw [h]; rfl, by show (scope.names.map _).lookup n = _; rw [look_rel, h]; rfl⟩
  loc := fun n h => by show (scope.names.map _).lookup n = _; rw [look_rel, h]; rfl
  tk := tk_no
  room := o.room
  kf := o.kf
  ff := o.ff
end Dn

set_option Elab.async false
set_option linter.all false
set_option maxRecDepth 100000
set_option maxHeartbeats 400000
namespace Dn
open PySem PySem.Spec PyProof.Rows L2
structure CE where
  E : Expr → XE
  T : Expr → XT
def ixOf : List Str → Str → Option Nat
  | [], _ => none
  | m :: r, n => if m = n then some 0 else (ixOf r n).map (· + 1)
theorem ixOf_ok : ∀ {N : List Str} {n : Str} {i : Nat}, ixOf N n = some i → N[i]? = some n
  | [], _, _, h => by cases h
  | m :: r, n, i, h => by
    unfold ixOf at h
    split at h
    · rename_i e; cases h; rw [e]; rfl
    · obtain ⟨j, hj, e⟩ := Option.map_eq_some_iff.mp h
      subst e
      show r[j]? = some n
      exact ixOf_ok hj
def okNm (n : Str) : Bool := !(n == ("__debug__" : Str)) && (!(n == ("__classdict__" : Str)) && !(n == ("__name__" : Str)))
theorem okNm_ok {n : Str} (h : okNm n = true) : (n == ("__debug__" : Str)) = false ∧ (n == ("__classdict__" : Str)) = false ∧ n ≠ "__name__" := by
  obtain ⟨h1, h⟩ := He.ba h
  obtain ⟨h2, h3⟩ := He.ba h
  refine ⟨by simpa using h1, by simpa using h2, ?_⟩
  intro e
  rw [e] at h3
  simp at h3
def cConst : Const → XE
  | .int i => xC (.int i)
  | .bool b => xC (.bl b)
  | .none => xC .non
  | .str s => xC (.str s)
  | _ => xBad
def isGl (sc : Scope) (n : Str) : Bool := decide (sc.names.lookup n = some .globalImplicit)
def isVis (sc : Scope) (n : Str) : Bool := decide (sc.names.lookup n = some .local) || (decide (sc.names.lookup n = some .cell) || decide (sc.names.lookup n = some .free))
/-- names of types -/
def tyNm (n : Str) : Option String := if n = "int" then some "int" else if n = "bool" then some "bool" else if n = "str" then some "str" else if n = "tuple" then some "tuple" else if n = "list" then some "list" else if n = "dict" then some "dict" else none
theorem tyNm_ok {n : Str} {t : String} (h : tyNm n = some t) : bootBuiltins n = some (.type t) := by
  unfold tyNm at h
  repeat' (split at h)
  · rename_i e; cases h; rw [e]; decide +kernel
  · rename_i e; cases h; rw [e]; decide +kernel
  · rename_i e; cases h; rw [e]; decide +kernel
  · rename_i e; cases h; rw [e]; decide +kernel
  · rename_i e; cases h; rw [e]; decide +kernel
  · rename_i e; cases h; rw [e]; decide +kernel
  · cases h
def cName (g : Glob) (N : List Str) (sc : Scope) (n : Str) : XE :=
  if okNm n = true then
    if isVis sc n = true then (match ixOf N n with
      | some i => xVar i
      | none => xBad)
    else if isGl sc n = true then (match g.consts.lookup n with
      | some d => xC d
      | none => if n ∈ g.cls then xC (.gl n) else if n ∈ g.frees then (match tyNm n with
        | some t => xC (.ty t)
        | none => xBad) else xBad)
    else xBad
  else xBad
def cArgs (c : CE) : List Expr → XEs
  | [] => xNil
  | e :: r => xCons (c.E e) (cArgs c r)
def cKws (c : CE) : List Keyword → XEs
  | [] => xNil
  | k :: r => xCons (c.E k.value) (cKws c r)
def cBin (g : Glob) (pos : Pos) (op : Operator) (x y : XE) : XE := match op with
  | .Add => x2 (evAddA (g.isAl pos)) x y
  | .Sub => x2 evSub x y
  | .Mult => x2 (evMulA (g.isAl pos)) x y
  | .FloorDiv => x2 evDiv x y
  | .Mod => x2 evMod x y
  | .Pow => x2 evPow x y
  | _ => xBad
def x2F (ev : Fns → E2) (a b : XE) : XE := fun F e => (a F e).bind fun d1 => (b F e).bind fun d2 => noX (ev F d1 d2)
def cmpF (g : Glob) : CmpOp → Option (Fns → E2)
  | .Eq => some (evEqF g.eqs)
  | .NotEq => some fun _ => evNe
  | .Lt => some fun _ => evLt
  | .LtE => some fun _ => evLe
  | .Gt => some fun _ => evGt
  | .GtE => some fun _ => evGe
  | .Is => some fun _ => evIs
  | .IsNot => some fun _ => evIsNot
  | .In => some fun _ => evIn false
  | .NotIn => some fun _ => evIn true
def cmp2 : CmpOp → Option E2
  | .Eq => some evEq
  | .NotEq => some evNe
  | .Lt => some evLt
  | .LtE => some evLe
  | .Gt => some evGt
  | .GtE => some evGe
  | _ => none
def cCmp (g : Glob) (c : CE) (a : Expr) (ops : List CmpOp) (bs : List Expr) : XE := match ops, bs with
  | [op], [b] => (match cmpF g op with
    | some ev => if behindInMarks op b = false then x2F ev (c.E a) (c.E b) else xBad
    | none => xBad)
  | [op, op'], [b, b'] => (match cmp2 op with
    | some e1 => (match cmp2 op' with
      | some e2 => if lastMarks [op, op'] [b, b'] = false then x3 e1 e2 (c.E a) (c.E b) (c.E b') else xBad
      | none => xBad)
    | none => xBad)
  | _, _ => xBad
def cBool (c : CE) (op : BoolOp) : List Expr → XE
  | [] => xBad
  | [a] => c.E a
  | a :: b :: r => (match op with
    | .And => xAn (c.E a) (cBool c op (b :: r))
    | .Or => xOo (c.E a) (cBool c op (b :: r)))
def cBoolT (c : CE) (op : BoolOp) : List Expr → XT
  | [] => tBad
  | [a] => c.T a
  | a :: b :: r => (match op with
    | .And => tAn (c.T a) (cBoolT c op (b :: r))
    | .Or => tOo (c.T a) (cBoolT c op (b :: r)))
def cBlt (g : Glob) (pos : Pos) (n : Str) (xs : XEs) : XE :=
  if n = "len" then xP (ev1 pLen) xs else if n = "abs" then xP (ev1 pAbs) xs else if n = "min" then xP pMinU xs else if n = "max" then xP pMaxU xs else if n = "sum" then xP (ev1 pSumT) xs
  else if n = "all" then xP (ev1 pAll) xs else if n = "any" then xP (ev1 pAny) xs else if n = "divmod" then xP (ev2 pDivmod) xs else if n = "isinstance" then xP (ev2 (pIsi g.cls)) xs else if n = "repr" then xP (ev1 pRepr) xs
  else if n = "int" then xP (ev1 pInt) xs else if n = "str" then xP (ev1 pStr) xs else if n = "tuple" then xP (ev1 pTup) xs else if n = "list" then xP (ev1 (pLst (g.isAl pos))) xs
  else xBad
def kwNs (kws : List Keyword) : List Str := kws.filterMap (·.arg)
def kwOk (ks ps : List Str) : Bool := decide (ks.length = ps.length) && (decide (ks.Nodup) && (ks.all (fun n => decide (n ∈ ps)) && ps.all fun n => decide (n ∈ ks)))
def cCallN (g : Glob) (c : CE) (sc : Scope) (n : Str) (args : List Expr) (kws : List Keyword) (pos : Pos) : XE :=
  if (okNm n && (isGl sc n && args.all noStar)) = true then (match g.def_ n with
    | some (i, e) => (match args, kws with
      | _ :: _, [] => xCall i e.ps.length (cArgs c args)
      | [], _ :: _ => if (kws.all (·.arg.isSome) && kwOk (kwNs kws) e.ps) = true then xCallK i (kwNs kws).length (gN (kwNs kws) e.ps) (cKws c kws) else xBad
      | _, _ => xBad)
    | none => (match args, kws with
      | _ :: _, [] => if n ∈ g.cls then (match g.init n with
        | some (i, e) => xNew n i e.ps.length (cArgs c args)
        | none => xBad) else if n ∈ g.frees then cBlt g pos n (cArgs c args) else xBad
      | _, _ => xBad)) else xBad
def cCallM (g : Glob) (c : CE) (o : Expr) (m : Str) (apos : Pos) (args : List Expr) (kws : List Keyword) (pos : Pos) : XE :=
  if (noSup o && (args.all noStar && (decide (args.length < 29) && (apos.endLine == pos.line)))) = true then (match args, kws with
    | _ :: _, [] => if m = "append" then xBM isLstB evApp (c.E o) (cArgs c args) else if m = "join" then xBM isStrB evJoin (c.E o) (cArgs c args) else if m = "count" then xBM isLstB (ev1M false cntD) (c.E o) (cArgs c args) else if m = "index" then xBM isLstB (ev1M false idxD) (c.E o) (cArgs c args) else xMeth m (g.meths m) (c.E o) (cArgs c args)
    | _, _ => xBad) else xBad
def cCall (g : Glob) (c : CE) (sc : Scope) (f : Expr) (args : List Expr) (kws : List Keyword) (pos : Pos) : XE := match f with
  | .Name n _ => cCallN g c sc n args kws pos
  | .Attribute o m apos => cCallM g c o m apos args kws pos
  | _ => xBad
def cAttr (g : Glob) (c : CE) (a : Expr) (f : Str) : XE := if noSup a = true then (match g.props f with
    | t :: r => xProp (t :: r) (c.E a)
    | [] => (match g.flds.lookup f with
      | some cs => xFld cs f (c.E a)
      | none => xBad)) else xBad
def cO (c : CE) : Option Expr → XO
  | none => xNoP
  | some e => xPart (c.E e)
def cSub (g : Glob) (c : CE) (a b : Expr) (pos : Pos) : XE := match b with
  | .Slice lo hi none _ => xCut (g.isAl pos) (c.E a) (cO c lo) (cO c hi)
  | .Slice _ _ (some _) _ => xBad
  | b => x2 evIx (c.E a) (c.E b)
def cJoins (c : CE) : List Expr → List XE
  | [] => []
  | e :: r => c.E e :: cJoins c r
def cJoin (c : CE) : List Expr → XE
  | [] => xBad
  | [a] => c.E a
  | a :: b :: r => joinX (cJoins c (a :: b :: r)) Str.empty
/-! targets, iterators -/
def locB (oc : Scope) (n : Str) : Bool := decide (oc.names.lookup n = some .local) || decide (oc.names.lookup n = some .cell)
def inWs (ws : Option (List Nat)) (i : Nat) : Bool := match ws with
  | none => true
  | some l => decide (i ∈ l)
mutual
def cTg (N : List Str) (oc : Scope) (ws : Option (List Nat)) (c : CE) : Nat → Expr → XG
  | 0, _ => gBad
  | k + 1, e => (match e with
    | .Name n _ => if locB oc n = true then (match ixOf N n with
      | some i => if inWs ws i = true then gNm i else gBad
      | none => gBad) else gBad
    | .Tuple es _ _ => if es.all noStar = true then gTp es.length (cTgs N oc ws c k es) else gBad
    | .Subscript a b _ => if noSlice b = true then gSb (c.E a) (c.E b) else gBad
    | _ => gBad)
def cTgs (N : List Str) (oc : Scope) (ws : Option (List Nat)) (c : CE) : Nat → List Expr → XGs
  | 0, _ => fun _ _ _ => stuck
  | _ + 1, [] => gNl
  | k + 1, e :: r => gCn (cTg N oc ws c k e) (cTgs N oc ws c k r)
end
def isTupE : Expr → Bool
  | .Tuple _ _ _ => true
  | _ => false
def rngOf : Expr → Option (Str × List Expr)
  | .Call (.Name n _) args [] _ => some (n, args)
  | _ => none
def cIter (g : Glob) (c : CE) (sc : Scope) (tg it : Expr) : XI := match rngOf it with
  | some (n, args) => if n = "range" ∧ n ∈ g.frees ∧ isGl sc n = true ∧ args.all noStar = true then (match args with
      | [a] => itR1 (c.E a)
      | [a, b] => itR2 (c.E a) (c.E b)
      | [a, b, d] => itR3 (c.E a) (c.E b) (c.E d)
      | _ => iBad)
    else if n = "enumerate" ∧ n ∈ g.frees ∧ isGl sc n = true ∧ args.all noStar = true ∧ isTupE tg = true then (match args with
      | [a] => itEnum (c.E a)
      | _ => iBad)
    else itSeq (c.E it)
  | none => itSeq (c.E it)
/-! comprehensions -/
def ownOf (N : List Str) (scope : Scope) : List (Str × Nat) := scope.names.filterMap fun y => if y.2 = .local ∨ y.2 = .cell then (ixOf N y.1).map fun i => (y.1, i) else none
def blkB (N : List Str) (sc scope : Scope) : Bool := decide (scope.kind = .function) && ((scope.names.all fun y => decide (scope.names.lookup y.1 = some y.2)) &&
  (scope.names.all fun y => (!decide (y.2 = .free)) || (decide (sc.names.lookup y.1 = some .cell) || decide (sc.names.lookup y.1 = some .free))))
def cIfs (c : CE) : List Expr → XT
  | [] => tYs
  | [a] => c.T a
  | _ => tBad
def cComp (g : Glob) (N : List Str) (R : Scope → Scope → CE) (oc sc : Scope) (elt : Expr) (gens : List Comprehension) (scope : Scope) (pos : Pos) : XE := match gens with
  | [⟨tg, iter, ifs, ia⟩] => if (decide (ia = 0) && (noSetE iter && blkB N sc scope)) = true then
      xComp (g.isAl pos) (cIter g (R oc sc) sc tg iter) (cTg N scope (some ((ownOf N scope).map (·.2))) (R scope (relS scope sc)) 12 tg) (cIfs (R scope (relS scope sc)) ifs) ((R scope (relS scope sc)).E elt) ((ownOf N scope).map (·.2))
    else xBad
  | _ => xBad
def stepE (g : Glob) (N : List Str) (R : Scope → Scope → CE) (oc sc : Scope) : Expr → XE
  | .Constant c _ _ => cConst c
  | .Name n _ => cName g N sc n
  | .BinOp a op b pos => cBin g pos op ((R oc sc).E a) ((R oc sc).E b)
  | .UnaryOp op a _ => (match op with
    | .USub => x1 evNeg ((R oc sc).E a)
    | .Not => xNo ((R oc sc).E a)
    | _ => xBad)
  | .BoolOp op vs _ => cBool (R oc sc) op vs
  | .IfExp c a b _ => xIf ((R oc sc).T c) ((R oc sc).E a) ((R oc sc).E b)
  | .Compare a ops bs _ => cCmp g (R oc sc) a ops bs
  | .Call f args kws pos => cCall g (R oc sc) sc f args kws pos
  | .Attribute a f _ => cAttr g (R oc sc) a f
  | .Subscript a b pos => cSub g (R oc sc) a b pos
  | .List es pos => if es.all noStar = true then xMk (g.isAl pos) (cArgs (R oc sc) es) else xBad
  | .Tuple es _ _ => if es.all noStar = true then xTup (cArgs (R oc sc) es) else xBad
  | .ListComp elt gens scope pos => cComp g N R oc sc elt gens scope pos
  | .JoinedStr vs _ => cJoin (R oc sc) vs
  | .FormattedValue v c spec _ => if c = -1 ∧ spec.isNone = true then xFmt ((R oc sc).E v) else xBad
  | _ => xBad
def stepT (g : Glob) (N : List Str) (R : Scope → Scope → CE) (oc sc : Scope) : Expr → XT
  | .UnaryOp .Not a _ => tNo ((R oc sc).T a)
  | .BoolOp op vs _ => cBoolT (R oc sc) op vs
  | .Compare a ops bs _ => xBl (cCmp g (R oc sc) a ops bs)
  | .IfExp _ _ _ _ => tBad
  | e => xTru ((R oc sc).E e)
def cB (g : Glob) (N : List Str) : Nat → Scope → Scope → CE
  | 0, _, _ => ⟨fun _ => xBad, fun _ => tBad⟩
  | n + 1, oc, sc => ⟨stepE g N (cB g N n) oc sc, stepT g N (cB g N n) oc sc⟩
end Dn

set_option Elab.async false
set_option linter.all false
set_option maxRecDepth 100000
set_option maxHeartbeats 400000
namespace Dn
open PySem PySem.Spec PyProof.Rows L2
section
variable {g : Glob} {N : List Str} {X : Cx} {W : WX} {F : Fns} {k : Nat} {oc sc : Scope} {c : CE} {pos apos : Pos} {a b : Expr} {es args : List Expr} {kws : List Keyword} {n m f : Str}
theorem Ok.gl (o : Ok g N X W F k oc sc) (h : isGl sc n = true) : Gl X n := by
  show X.env.scope.names.lookup n = some .globalImplicit
  rw [o.scp]
  exact of_decide_eq_true h
theorem Ok.ix (o : Ok g N X W F k oc sc) {i : Nat} (h : ixOf N n = some i) : X.N[i]? = some n := by
  rw [o.nn]
  exact ixOf_ok h
theorem Ok.vis (o : Ok g N X W F k oc sc) (h : isVis sc n = true) : Vis X.env.scope n := by
  rw [o.scp]
  unfold isVis at h
  rw [Bool.or_eq_true, Bool.or_eq_true] at h
  rcases h with h | h | h
  · exact .inl (of_decide_eq_true h)
  · exact .inr (.inl (of_decide_eq_true h))
  · exact .inr (.inr (of_decide_eq_true h))
theorem Ok.un (o : Ok g N X W F k oc sc) : X.A.units + 65 < cLine := by have := o.room.room.un; omega
theorem Ok.nodup (o : Ok g N X W F k oc sc) : X.N.Nodup := by rw [o.nn]; exact o.nd
theorem cConst_ok {v : Const} {j : Nat} : DE X W F (.Constant v j pos) (cConst v) := by
  cases v with
  | int i => exact de_int
  | bool b => exact de_bl
  | none => exact de_non
  | str s => exact de_str
  | _ => exact de_bad
theorem cName_ok (o : Ok g N X W F k oc sc) : DE X W F (.Name n pos) (cName g N sc n) := by
  unfold cName
  split
  · rename_i hn
    obtain ⟨h1, h2, h3⟩ := okNm_ok hn
    split
    · rename_i hv
      split
      · rename_i i hi
        exact de_var (o.ix hi) (o.vis hv) h1 h2
      · exact de_bad
    · split
      · rename_i hg
        split
        · rename_i d hd
          exact de_glo (o.gl hg) (o.kf.con n d hd) h1
        · split
          · rename_i hc
            exact de_gcl (o.gl hg) (o.kf.cls n hc) h1
          · split
            · rename_i hf
              split
              · rename_i t ht
                exact de_ty (o.gl hg) (o.kf.free n hf) (tyNm_ok ht) h3 h1
              · exact de_bad
            · exact de_bad
      · exact de_bad
  · exact de_bad
theorem cArgs_ok (hE : ∀ e, DE X W F e (c.E e)) : ∀ {es : List Expr}, es.all noStar = true → DA X W F es (cArgs c es)
  | [], _ => da_nil
  | a :: es, h => by
    obtain ⟨h1, h2⟩ := (Bool.and_eq_true _ _).mp (show (noStar a && es.all noStar) = true from h)
    exact da_cons (hE a) (cArgs_ok hE h2) (star_cons h1)
theorem cKws_ok (hE : ∀ e, DE X W F e (c.E e)) : ∀ {kws : List Keyword}, DK X W F kws (cKws c kws)
  | [] => dk_nil
  | ⟨nm, e, p⟩ :: kws => dk_cons (hE e) (cKws_ok hE)
theorem cBin_ok {op : Operator} (ha : DE X W F a (c.E a)) (hb : DE X W F b (c.E b)) : DE X W F (.BinOp a op b pos) (cBin g pos op (c.E a) (c.E b)) := by
  cases op with
  | Add => exact de_op op_dnAddA ha hb
  | Sub => exact de_op op_dnSub ha hb
  | Mult => exact de_op op_dnMulA ha hb
  | FloorDiv => exact de_op op_dnDiv ha hb
  | Mod => exact de_op op_dnMod ha hb
  | Pow => exact de_op op_dnPow ha hb
  | _ => exact de_bad
theorem mem_at {e : Ent} {i : Nat} (h : g.ents[i]? = some e) : e ∈ g.ents := List.mem_of_getElem? h
theorem binds_of {K : PySem.W.Frag} {fd : FuncData} {ps : List Str} (h1 : fd.defaults = .none) (h2 : plainP fd.params ps = true) (h3 : ps.Nodup) : Binds K fd ps [] := Binds.all fun us hl => bind_pos h2 h1 h3 hl
theorem eqs_ok (o : Ok g N X W F k oc sc) {cl : Str} {key : Nat} (h : g.eqs cl = some key) : EqC X F k cl key := by
  obtain ⟨j, e, h1, h2, h3⟩ := allE_ok h
  obtain ⟨hl, h2⟩ := withN_ok h2
  have h2 := cOfMeth_ok h2
  rw [Nat.zero_add] at h3
  subst h3
  obtain ⟨c1, c2⟩ := o.kf.meth e (mem_at h1) cl "__eq__" h2
  obtain ⟨fd, G, d1, d2, d3⟩ := o.ff.fn key e h1
  rw [h2, hl] at G
  exact ⟨c1, c2.at_, c2.fn, fd, e.ps, G, binds_of d1 d2 d3⟩
theorem props_ok (o : Ok g N X W F k oc sc) {cl : Str} {key : Nat} (h : (g.props f).lookup cl = some key) : PropC X F k f cl key := by
  obtain ⟨j, e, h1, h2, h3⟩ := allE_ok h
  obtain ⟨hl, h2⟩ := withN_ok h2
  have h2 := cOfProp_ok h2
  rw [Nat.zero_add] at h3
  subst h3
  obtain ⟨c1, c2⟩ := o.kf.prop e (mem_at h1) cl f h2
  obtain ⟨fd, G, d1, d2, d3⟩ := o.ff.fn key e h1
  rw [h2, hl] at G
  exact ⟨c1, c2, fd, e.ps, G, binds_of d1 d2 d3⟩
theorem meths_ok (o : Ok g N X W F k oc sc) {cl : Str} {kn : Nat × Nat} (h : (g.meths m).lookup cl = some kn) : MethC X F k m cl kn.1 kn.2 := by
  obtain ⟨j, e, h1, h2, h3⟩ := allE_ok h
  have h2 := cOfMeth_ok h2
  rw [Nat.zero_add] at h3
  subst h3
  obtain ⟨c1, c2⟩ := o.kf.meth e (mem_at h1) cl m h2
  obtain ⟨fd, G, d1, d2, d3⟩ := o.ff.fn j e h1
  rw [h2] at G
  exact ⟨c1, c2, fd, e.ps, rfl, G, binds_of d1 d2 d3⟩
theorem cmpF_ok (o : Ok g N X W F k oc sc) {op : CmpOp} {ev : Fns → E2} (h : cmpF g op = some ev) : OpR X (compareOp op) (r2 X.K (ev F)) := by
  have hu : X.A.units + 64 < cLine := by have := o.un; omega
  cases op with
  | Eq => cases h; exact op_dnEqF (o.room.mono (Nat.le_succ k)) fun c key hk => eqs_ok o hk
  | NotEq => cases h; exact op_dnNe hu
  | Lt => cases h; exact op_dnLt
  | LtE => cases h; exact op_dnLe
  | Gt => cases h; exact op_dnGt
  | GtE => cases h; exact op_dnGe
  | Is => cases h; exact op_dnIs
  | IsNot => cases h; exact op_dnIsNot
  | In => cases h; exact op_dnIn (ng := false) o.un
  | NotIn => cases h; exact op_dnIn (ng := true) o.un
theorem cmp2_ok (o : Ok g N X W F k oc sc) {op : CmpOp} {ev : E2} (h : cmp2 op = some ev) : OpR X (compareOp op) (r2 X.K ev) := by
  have hu : X.A.units + 64 < cLine := by have := o.un; omega
  cases op with
  | Eq => cases h; exact op_dnEq hu
  | NotEq => cases h; exact op_dnNe hu
  | Lt => cases h; exact op_dnLt
  | LtE => cases h; exact op_dnLe
  | Gt => cases h; exact op_dnGt
  | GtE => cases h; exact op_dnGe
  | _ => cases h
theorem cCmp_ok (o : Ok g N X W F k oc sc) (hE : ∀ e, DE X W F e (c.E e)) {ops : List CmpOp} {bs : List Expr} : DE X W F (.Compare a ops bs pos) (cCmp g c a ops bs) ∧ DT X W F (.Compare a ops bs pos) (xBl (cCmp g c a ops bs)) := by
  have bad : DE X W F (.Compare a ops bs pos) xBad ∧ DT X W F (.Compare a ops bs pos) (xBl xBad) := ⟨de_bad, ⟨fun pins s σ H Q I ⟨p, e, S, sr, re, h⟩ => h.elim⟩⟩
  unfold cCmp
  split
  · rename_i op b
    split
    · rename_i ev hev
      split
      · rename_i hm
        have hop := cmpF_ok o hev
        exact ⟨de_cmp hop (hE a) (hE b) hm, dt_cmp hop (hE a) (hE b) hm⟩
      · exact bad
    · exact bad
  · rename_i op op' b b'
    split
    · rename_i e1 h1
      split
      · rename_i e2 h2
        split
        · rename_i hm
          exact ⟨de_chain (cmp2_ok o h1) (cmp2_ok o h2) (hE a) (hE b) (hE b') hm, dt_chain (cmp2_ok o h1) (cmp2_ok o h2) (hE a) (hE b) (hE b') hm⟩
        · exact bad
      · exact bad
    · exact bad
  · exact bad
theorem cBool_ok (hE : ∀ e, DE X W F e (c.E e)) {op : BoolOp} : ∀ {vs : List Expr}, DE X W F (.BoolOp op vs pos) (cBool c op vs)
  | [] => de_bad
  | [a] => de_one (hE a)
  | a :: b :: r => by
    have ih := cBool_ok hE (op := op) (vs := b :: r)
    cases op with
    | And => exact de_and (hE a) ih
    | Or => exact de_or (hE a) ih
theorem cBoolT_ok (hT : ∀ e, DT X W F e (c.T e)) {op : BoolOp} : ∀ {vs : List Expr}, vs ≠ [] → DW X W F (.BoolOp op vs pos) (cBoolT c op vs)
  | [], h => absurd rfl h
  | [a], _ => by
    cases op with
    | And => exact dw_and1 (hT a)
    | Or => exact dw_or1 (hT a)
  | a :: b :: r, _ => by
    have ih := cBoolT_ok hT (op := op) (vs := b :: r) (fun z => nomatch z)
    cases op with
    | And => exact dw_and (hT a) ih
    | Or => exact dw_or (hT a) ih
end
end Dn

set_option Elab.async false
set_option linter.all false
set_option maxRecDepth 100000
set_option maxHeartbeats 400000
namespace Dn
open PySem PySem.Spec PyProof.Rows L2
theorem RepL.gN {K : PySem.W.Frag} {p : Wl} {H : Hp} {ks : List Str} : ∀ {ps : List Str} {ds : List D} {vs : List V}, RepL K p H ds vs → RepL K p H (gN ks ps ds) (gN ks ps vs)
  | [], ds, vs, _ => rfl
  | n :: ps, ds, vs, h => by
    have ih := RepL.gN (ks := ks) (ps := ps) h
    have one : ∀ {ks : List Str} {ds : List D} {vs : List V}, RepL K p H ds vs → ((ks.zip ds).lookup n = none ∧ (ks.zip vs).lookup n = none) ∨ ∃ d v, (ks.zip ds).lookup n = some d ∧ (ks.zip vs).lookup n = some v ∧ Rep K p H d v := by
      intro ks
      induction ks with
      | nil => intro ds vs _; exact .inl ⟨by simp, by simp⟩
      | cons k ks ihk =>
        intro ds vs h
        cases ds with
        | nil =>
          rw [show vs = [] from h]
          exact .inl ⟨by simp, by simp⟩
        | cons d ds =>
          obtain ⟨v, ws, e, r1, r2⟩ := h
          subst e
          rw [List.zip_cons_cons, List.zip_cons_cons, List.lookup_cons, List.lookup_cons]
          cases (n == k) with
          | true => exact .inr ⟨d, v, rfl, rfl, r1⟩
          | false => exact ihk r2
    unfold Dn.gN at ih ⊢
    rw [List.filterMap_cons, List.filterMap_cons]
    rcases one (ks := ks) h with ⟨e1, e2⟩ | ⟨d, v, e1, e2, r⟩
    · rw [e1, e2]; exact ih
    · rw [e1, e2]; exact ⟨v, _, rfl, r, ih⟩
theorem vals_gN {ks : List Str} : ∀ {ps : List Str} {vs : List V} {us : List Value}, Vals vs us → Vals (gN ks ps vs) (gN ks ps us)
  | [], vs, us, _ => .nil
  | n :: ps, vs, us, h => by
    have ih := vals_gN (ks := ks) (ps := ps) h
    have one : ∀ {ks : List Str} {vs : List V} {us : List Value}, Vals vs us → ((ks.zip vs).lookup n = none ∧ (ks.zip us).lookup n = none) ∨ ∃ v u, (ks.zip vs).lookup n = some v ∧ (ks.zip us).lookup n = some u ∧ RelV v u := by
      intro ks
      induction ks with
      | nil => intro vs us _; exact .inl ⟨by simp, by simp⟩
      | cons k ks ihk =>
        intro vs us h
        cases h with
        | nil => exact .inl ⟨by simp, by simp⟩
        | cons r t =>
          rw [List.zip_cons_cons, List.zip_cons_cons, List.lookup_cons, List.lookup_cons]
          cases (n == k) with
          | true => exact .inr ⟨_, _, rfl, rfl, r⟩
          | false => exact ihk t
    unfold Dn.gN at ih ⊢
    rw [List.filterMap_cons, List.filterMap_cons]
    rcases one (ks := ks) h with ⟨e1, e2⟩ | ⟨d, v, e1, e2, r⟩
    · rw [e1, e2]; exact ih
    · rw [e1, e2]; exact .cons r ih
theorem kw_all {env : PySem.Env} {pos : Pos} : ∀ {kws : List Keyword}, kws.all (·.arg.isSome) = true → (backToKw pos (keywordEach kws env)).all (·.1.isSome) = true ∧ (backToKw pos (keywordEach kws env)).any (·.1.isNone) = false
  | [], _ => by constructor <;> first | rfl | simp [keywordEach, backToKw]
  | ⟨nm, e, p⟩ :: kws, h => by
    obtain ⟨h1, h2⟩ := (Bool.and_eq_true _ _).mp (show (nm.isSome && kws.all (·.arg.isSome)) = true from h)
    obtain ⟨i1, i2⟩ := kw_all (env := env) (pos := pos) h2
    cases nm with
    | none => cases h1
    | some n => exact ⟨i1, i2⟩
theorem kw_names {env : PySem.Env} {pos : Pos} : ∀ {kws : List Keyword}, (backToKw pos (keywordEach kws env)).filterMap (·.1) = kwNs kws
  | [] => by first | rfl | simp [keywordEach, backToKw, kwNs]
  | ⟨nm, e, p⟩ :: kws => by
    have ih := kw_names (env := env) (pos := pos) (kws := kws)
    cases nm with
    | none => exact ih
    | some n => exact congrArg (n :: ·) ih
section
variable {g : Glob} {N : List Str} {X : Cx} {W : WX} {F : Fns} {k : Nat} {oc sc : Scope} {c : CE} {pos apos p' : Pos} {a b : Expr} {es args : List Expr} {kws : List Keyword} {n m f : Str}
theorem ite_de {q : Prop} [Decidable q] {e : Expr} {x y : XE} (h1 : q → DE X W F e x) (h2 : DE X W F e y) : DE X W F e (if q then x else y) := by
  by_cases h : q
  · rw [if_pos h]; exact h1 h
  · rw [if_neg h]; exact h2
theorem cBlt_ok (o : Ok g N X W F k oc sc) (hg : Gl X n) (hf : n ∈ g.frees) (hn : okNm n = true) {xs : XEs} (ha : DA X W F (a :: es) xs) (hs : (a :: es).all noStar = true) : DE X W F (.Call (.Name n p') (a :: es) [] pos) (cBlt g pos n xs) := by
  obtain ⟨n1, n2, n3⟩ := okNm_ok hn
  obtain ⟨s1, s2⟩ := (Bool.and_eq_true _ _).mp (show (noStar a && es.all noStar) = true from hs)
  have hm := o.kf.free n hf
  have st := star_cons (es := es) (env := X.env) s1
  have sa := star_any (env := X.env) (pos := pos) s2
  have blt : ∀ {id : String} {ev : List D → M D}, CallR X (.builtin id) (rN X.K ev) → bootBuiltins n = some (.builtin id) → DE X W F (.Call (.Name n p') (a :: es) [] pos) (xP ev xs) := fun hc hv => de_blt hc hg hm hv ha n3 n1 st sa
  have bty : ∀ {id : String} {ev : List D → M D}, CallR X (.type id) (rN X.K ev) → bootBuiltins n = some (.type id) → DE X W F (.Call (.Name n p') (a :: es) [] pos) (xP ev xs) := fun hc hv => de_bty hc hg hm hv ha n3 n1 st sa
  unfold cBlt
  refine ite_de (fun e => blt cr_dnLen (by rw [e]; decide +kernel)) ?_
  refine ite_de (fun e => blt cr_dnAbs (by rw [e]; decide +kernel)) ?_
  refine ite_de (fun e => blt (cr_dnMinU o.calm) (by rw [e]; decide +kernel)) ?_
  refine ite_de (fun e => blt (cr_dnMaxU o.calm) (by rw [e]; decide +kernel)) ?_
  refine ite_de (fun e => blt (cr_dnSumT o.calm) (by rw [e]; decide +kernel)) ?_
  refine ite_de (fun e => blt (cr_dnAll o.calm) (by rw [e]; decide +kernel)) ?_
  refine ite_de (fun e => blt (cr_dnAny o.calm) (by rw [e]; decide +kernel)) ?_
  refine ite_de (fun e => blt cr_dnDivmod (by rw [e]; decide +kernel)) ?_
  refine ite_de (fun e => blt (cr_dnIsi o.kf.isi) (by rw [e]; decide +kernel)) ?_
  refine ite_de (fun e => blt (cr_dnRepr o.room.gd o.un) (by rw [e]; decide +kernel)) ?_
  refine ite_de (fun e => bty cr_dnInt (by rw [e]; decide +kernel)) ?_
  refine ite_de (fun e => bty cr_dnStr (by rw [e]; decide +kernel)) ?_
  refine ite_de (fun e => bty cr_dnTup (by rw [e]; decide +kernel)) ?_
  refine ite_de (fun e => bty cr_dnLst (by rw [e]; decide +kernel)) ?_
  exact de_bad
theorem kwOk_ok {ks ps : List Str} (h : kwOk ks ps = true) : ks.length = ps.length ∧ ks.Nodup ∧ (∀ n ∈ ks, n ∈ ps) ∧ ∀ n ∈ ps, n ∈ ks := by
  obtain ⟨h0, h⟩ := He.ba h
  obtain ⟨h1, h⟩ := He.ba h
  obtain ⟨h2, h3⟩ := He.ba h
  exact ⟨of_decide_eq_true h0, of_decide_eq_true h1, fun n hn => of_decide_eq_true (List.all_eq_true.mp h2 n hn), fun n hn => of_decide_eq_true (List.all_eq_true.mp h3 n hn)⟩
theorem cCallN_ok (o : Ok g N X W F k oc sc) (hE : ∀ e, DE X W F e (c.E e)) : DE X W F (.Call (.Name n p') args kws pos) (cCallN g c sc n args kws pos) := by
  unfold cCallN
  refine ite_de (fun h0 => ?_) de_bad
  obtain ⟨h1, h0⟩ := He.ba h0
  obtain ⟨h2, h3⟩ := He.ba h0
  obtain ⟨n1, n2, n3⟩ := okNm_ok h1
  have hgl := o.gl h2
  cases he : g.def_ n with
  | some ie =>
    obtain ⟨i, e⟩ := ie
    obtain ⟨_, h5, h6⟩ := findE_ok he
    have h6 := isTop_ok h6
    rw [Nat.sub_zero] at h5
    obtain ⟨fd, G, d1, d2, d3⟩ := o.ff.fn i e h5
    have hkp := o.kf.keep e (mem_at h5)
    rw [h6] at G hkp
    have hmg := o.kf.top e (mem_at h5) n h6
    cases args with
    | cons a es =>
      cases kws with
      | nil =>
        obtain ⟨s1, s2⟩ := (Bool.and_eq_true _ _).mp (show (noStar a && es.all noStar) = true from h3)
        exact de_call G (o.room.mono (Nat.le_succ k)) hgl hmg hkp (binds_of d1 d2 d3) o.tk (cArgs_ok hE h3) n1 (star_cons s1) (star_any s2)
      | cons kw kws => exact de_bad
    | nil =>
      cases kws with
      | nil => exact de_bad
      | cons kw kws =>
        refine ite_de (fun hk => ?_) de_bad
        obtain ⟨k1, k2⟩ := He.ba hk
        obtain ⟨klen, k3, k4, k5⟩ := kwOk_ok k2
        obtain ⟨a1, a2⟩ := kw_all (env := X.env) (pos := pos) k1
        refine de_callK (gL := gN (kwNs (kw :: kws)) e.ps) (gV := gN (kwNs (kw :: kws)) e.ps) G (o.room.mono (Nat.le_succ k)) hgl hmg hkp (fun s ws _ hl => .of_eq (bind_kw d2 d1 k3 k4 k5 hl)) klen (fun _ h => vals_gN h) (fun hl h => ⟨gN_length hl.symm k5, h.gN⟩) o.tk (cKws_ok hE) a1 kw_names n1 ?_
        rw [a2]
        first | rfl | simp [starEach, backTo]
  | none =>
    cases args with
    | nil => exact de_bad
    | cons a es =>
      cases kws with
      | cons kw kws => exact de_bad
      | nil =>
        obtain ⟨s1, s2⟩ := (Bool.and_eq_true _ _).mp (show (noStar a && es.all noStar) = true from h3)
        refine ite_de (fun hc => ?_) (ite_de (fun hf => cBlt_ok o hgl hf h1 (cArgs_ok hE h3) h3) de_bad)
        cases he : g.init n with
        | none => exact de_bad
        | some ie =>
          obtain ⟨i, e⟩ := ie
          obtain ⟨_, h5, h6⟩ := findE_ok he
          have h6 := isMeth_ok h6
          rw [Nat.sub_zero] at h5
          obtain ⟨fd, G, d1, d2, d3⟩ := o.ff.fn i e h5
          rw [h6] at G
          exact de_new (o.kf.mkr e (mem_at h5) n h6) G o.room hgl (o.kf.cls n hc) (binds_of d1 d2 d3) o.tk (cArgs_ok hE h3) n1 (star_cons s1) (star_any s2)
theorem cCallM_ok (o : Ok g N X W F k oc sc) (hE : ∀ e, DE X W F e (c.E e)) : DE X W F (.Call (.Attribute a m apos) args kws pos) (cCallM g c a m apos args kws pos) := by
  unfold cCallM
  refine ite_de (fun h0 => ?_) de_bad
  obtain ⟨h1, h0⟩ := He.ba h0
  obtain ⟨h2, h0⟩ := He.ba h0
  obtain ⟨h3, h4⟩ := He.ba h0
  have h3 := of_decide_eq_true h3
  cases args with
  | nil => exact de_bad
  | cons b es =>
    cases kws with
    | cons kw kws => exact de_bad
    | nil =>
      obtain ⟨s1, s2⟩ := (Bool.and_eq_true _ _).mp (show (noStar b && es.all noStar) = true from h2)
      have few : ((backTo pos (starEach (b :: es) X.env)).all (fun x => !x.1) && (backToKw pos (keywordEach [] X.env)).all (fun x => x.1.isSome)
        && decide ((b :: es).length + ([] : List Keyword).length + (if ([] : List Keyword).isEmpty then 0 else 1) < 30)) = true := by
        rw [star_all h2]
        have : (backToKw pos (keywordEach [] X.env)) = [] := by first | rfl | simp [keywordEach, backToKw]
        rw [this]
        simp at h3 ⊢
        omega
      refine ite_de (fun e => ?_) (ite_de (fun e => ?_) (ite_de (fun e => ?_) (ite_de (fun e => ?_) ?_)))
      · subst e
        exact de_bm PySem.F.plainAttrs_list PySem.F.slot_list_append PySem.F.type_list_append mt_dnApp isLst_ty (hE a) (cArgs_ok hE h2) (base_no h1) few h4 (star_cons s1) (star_any s2)
      · subst e
        exact de_bm PySem.F.plainAttrs_str PySem.F.slot_str_join PySem.F.type_str_join mt_dnJoin isStr_ty (hE a) (cArgs_ok hE h2) (base_no h1) few h4 (star_cons s1) (star_any s2)
      · subst e
        exact de_bm PySem.F.plainAttrs_list PySem.F.slot_list_count PySem.F.type_list_count (mt_cntL o.un) isLst_ty (hE a) (cArgs_ok hE h2) (base_no h1) few h4 (star_cons s1) (star_any s2)
      · subst e
        exact de_bm PySem.F.plainAttrs_list PySem.F.slot_list_index PySem.F.type_list_index (mt_idxL o.un) isLst_ty (hE a) (cArgs_ok hE h2) (base_no h1) few h4 (star_cons s1) (star_any s2)
      · exact de_meth (fun cl kn h => meths_ok o h) (o.room.mono (Nat.le_succ k)) o.tk (hE a) (cArgs_ok hE h2) (star_cons s1) (star_any s2) (meth_form h1 h2 (by omega) h4)
theorem cAttr_ok (o : Ok g N X W F k oc sc) (hE : ∀ e, DE X W F e (c.E e)) : DE X W F (.Attribute a f pos) (cAttr g c a f) := by
  unfold cAttr
  split
  · rename_i h1
    split
    · rename_i t r e
      exact de_prop (fun cl key h => props_ok o (by rw [e]; exact h)) o.room (hE a) (base_no h1)
    · split
      · rename_i cs hc
        exact de_fld (o.kf.fld f cs hc) (hE a) (base_no h1)
      · exact de_bad
  · exact de_bad
theorem cO_ok (hE : ∀ e, DE X W F e (c.E e)) {e : Option Expr} : DO X W F e (cO c e) := by
  cases e with
  | none => exact do_none
  | some e => exact do_some (hE e)
theorem cSub_ok (hE : ∀ e, DE X W F e (c.E e)) : DE X W F (.Subscript a b pos) (cSub g c a b pos) := by
  unfold cSub
  split
  · exact de_cut (hE a) (cO_ok hE) (cO_ok hE)
  · exact de_bad
  · rename_i h1 h2
    refine de_ix (hE a) (hE b) (plainIx_of ?_)
    cases b with
    | Slice lo hi st p =>
      cases st with
      | none => exact absurd rfl (h1 lo hi p)
      | some s => exact absurd rfl (h2 lo hi s p)
    | _ => rfl
theorem cJoins_ok (hE : ∀ e, DE X W F e (c.E e)) : ∀ {es : List Expr}, DJ X W F es (cJoins c es)
  | [] => .nil
  | a :: es => .cons (hE a) (cJoins_ok hE)
theorem cJoin_ok (hE : ∀ e, DE X W F e (c.E e)) {es : List Expr} : DE X W F (.JoinedStr es pos) (cJoin c es) := by
  cases es with
  | nil => exact de_bad
  | cons a r =>
    cases r with
    | nil => exact de_join1 (hE a)
    | cons b r => exact de_join (cJoins_ok hE)
end
end Dn

set_option Elab.async false
set_option linter.all false
set_option maxRecDepth 100000
set_option maxHeartbeats 400000
namespace Dn
open PySem PySem.Spec PyProof.Rows L2
theorem dgs_bad {X : Cx} {F : Fns} {ws : Option (List Nat)} {es : List Expr} : DGs X F ws es (fun _ _ _ => stuck) := ⟨fun pins s σ H v u Q I r ⟨p, e, S, d, sr, re, rd, h⟩ => h.elim⟩
section
variable {g : Glob} {N : List Str} {X : Cx} {W : WX} {F : Fns} {k : Nat} {oc sc : Scope} {c : CE} {pos apos p' : Pos} {a b tg it : Expr} {es args : List Expr} {n m f : Str}
theorem Ok.locS (o : Ok g N X W F k oc sc) (h : locB oc n = true) : Loc X.env.scope n ∧ (X.fn n = true ∨ X.env.scope.names.lookup n = some .local) := by
  rw [o.scp]
  unfold locB at h
  rw [Bool.or_eq_true] at h
  rcases h with h | h
  · have := o.loc n (of_decide_eq_true h)
    exact ⟨.inl this, .inr this⟩
  · obtain ⟨h1, h2⟩ := o.fn n (of_decide_eq_true h)
    exact ⟨.inr h2, .inl h1⟩
theorem cTg_ok (o : Ok g N X W F k oc sc) (hE : ∀ e, DE X noW F e (c.E e)) {ws : Option (List Nat)} : ∀ (j : Nat), (∀ e, DG X F ws e (cTg N oc ws c j e)) ∧ (∀ es, DGs X F ws es (cTgs N oc ws c j es)) := by
  intro j
  induction j with
  | zero =>
    refine ⟨fun e => ?_, fun es => ?_⟩
    · unfold cTg; exact dg_bad
    · unfold cTgs; exact dgs_bad
  | succ j ih =>
    refine ⟨fun e => ?_, fun es => ?_⟩
    · unfold cTg
      cases e with
      | Name n p =>
        dsimp only
        by_cases hl : locB oc n = true
        · rw [if_pos hl]
          cases hi : ixOf N n with
          | none => exact dg_bad
          | some i =>
            dsimp only
            by_cases hw : inWs ws i = true
            · rw [if_pos hw]
              obtain ⟨l1, l2⟩ := o.locS hl
              refine dg_nm o.nodup (o.ix hi) l1 l2 fun l e => ?_
              subst e
              exact of_decide_eq_true hw
            · rw [if_neg hw]; exact dg_bad
        · rw [if_neg hl]; exact dg_bad
      | Tuple es kk p =>
        dsimp only
        by_cases hs : es.all noStar = true
        · rw [if_pos hs]
          exact dg_tup o.calm (ih.2 es) asg_len (asg_find hs)
        · rw [if_neg hs]; exact dg_bad
      | Subscript a b p =>
        dsimp only
        by_cases hs : noSlice b = true
        · rw [if_pos hs]
          exact dg_sub (hE a) (hE b) (fun v => sub_form hs v)
        · rw [if_neg hs]; exact dg_bad
      | _ => exact dg_bad
    · cases es with
      | nil => unfold cTgs; exact dgs_nil
      | cons e r =>
        unfold cTgs
        by_cases hs : noStar e = true
        · exact dgs_cons (ih.1 e) (ih.2 r) (asg_cons hs)
        · cases e with
          | Starred e2 p =>
            have : cTg N oc ws c j (.Starred e2 p) = gBad := by cases j <;> (unfold cTg; rfl)
            rw [this]
            refine ⟨fun pins s σ H v u Q I r' ⟨p, e, S, d, sr, re, rd, h⟩ => ?_⟩
            exfalso
            unfold gCn at h
            cases d with
            | nil => exact h
            | cons d ds => exact h
          | _ => exact absurd rfl hs
theorem ite_di {q : Prop} [Decidable q] {e : Expr} {x y : XI} (h1 : q → DI X W F tg e x) (h2 : DI X W F tg e y) : DI X W F tg e (if q then x else y) := by
  by_cases h : q
  · rw [if_pos h]; exact h1 h
  · rw [if_neg h]; exact h2
theorem rngOf_ok {e : Expr} {n : Str} {args : List Expr} (h : rngOf e = some (n, args)) : ∃ p pos, e = .Call (.Name n p) args [] pos := by
  unfold rngOf at h
  split at h
  · cases h; exact ⟨_, _, rfl⟩
  · cases h
theorem cIter_ok (o : Ok g N X W F k oc sc) (hE : ∀ e, DE X W F e (c.E e)) : DI X W F tg it (cIter g c sc tg it) := by
  unfold cIter
  cases hr : rngOf it with
  | none => exact di_seq (hE it)
  | some na =>
    obtain ⟨n, args⟩ := na
    obtain ⟨p, po, e⟩ := rngOf_ok hr
    dsimp only
    refine ite_di (fun hq => ?_) (ite_di (fun hq => ?_) (di_seq (hE it)))
    · obtain ⟨q1, q2, q3, q4⟩ := hq
      subst q1 e
      have hg := o.gl q3
      have hm := o.kf.free _ q2
      match args, q4 with
      | [], _ => exact di_bad
      | [a], h =>
        have s1 : noStar a = true := by simpa using h
        exact di_rng1 hg hm (hE a) (star_cons s1)
      | [a, b], h =>
        have s1 : noStar a = true ∧ noStar b = true := by simpa using h
        exact di_rng2 hg hm (hE a) (hE b) (by rw [star_cons s1.1, star_cons s1.2]; rfl) (by rw [star_cons s1.2]; rfl)
      | [a, b, d], h =>
        have s1 : noStar a = true ∧ noStar b = true ∧ noStar d = true := by simpa using h
        exact di_rng3 hg hm (hE a) (hE b) (hE d) (star_cons s1.1) (star_cons s1.2.1) (star_cons s1.2.2)
      | _ :: _ :: _ :: _ :: _, _ => exact di_bad
    · obtain ⟨q1, q2, q3, q4, q5⟩ := hq
      subst q1 e
      have hg := o.gl q3
      have hm := o.kf.free _ q2
      cases tg with
      | Tuple elts kk tp =>
        match args, q4 with
        | [], _ => exact di_bad
        | [a], h =>
          have s1 : noStar a = true := by simpa using h
          exact di_enum hg hm (hE a) (star_cons s1)
        | _ :: _ :: _, _ => exact di_bad
      | _ => cases q5
theorem blk_ok (o : Ok g N X W F k oc sc) {scope : Scope} (h : blkB N sc scope = true) : BlkOk X.N X.env.scope scope (ownOf N scope) := by
  obtain ⟨h1, h⟩ := He.ba h
  obtain ⟨h2, h3⟩ := He.ba h
  rw [o.nn, o.scp]
  refine ⟨of_decide_eq_true h1, fun y hy => of_decide_eq_true (List.all_eq_true.mp h2 y hy), fun p hp => ?_, fun y hy hf => ?_, fun y hy hl => ?_⟩
  · unfold ownOf at hp
    obtain ⟨y, hy, e⟩ := List.mem_filterMap.mp hp
    split at e
    · obtain ⟨i, hi, e2⟩ := Option.map_eq_some_iff.mp e
      subst e2
      exact ixOf_ok hi
    · cases e
  · have := List.all_eq_true.mp h3 y hy
    rw [Bool.or_eq_true, Bool.or_eq_true] at this
    rcases this with z | z | z
    · simp [hf] at z
    · exact .inl (of_decide_eq_true z)
    · exact .inr (of_decide_eq_true z)
  · cases hi : ixOf N y.1 with
    | some i =>
      refine .inl (List.mem_map.mpr ⟨(y.1, i), ?_, rfl⟩)
      unfold ownOf
      refine List.mem_filterMap.mpr ⟨y, hy, ?_⟩
      rw [if_pos hl, hi]
      rfl
    | none =>
      refine .inr fun hm => ?_
      have : ∀ {N : List Str} {n : Str}, n ∈ N → ixOf N n ≠ none := by
        intro N n hn
        induction N with
        | nil => cases hn
        | cons m r ih =>
          unfold ixOf
          split
          · exact fun z => nomatch z
          · rename_i hne
            rcases List.mem_cons.mp hn with e | e
            · exact absurd e.symm hne
            · intro z
              exact ih e (Option.map_eq_none_iff.mp z)
      exact this hm hi
theorem cIfs_ok (hT : ∀ e, DT X W F e (c.T e)) {ifs : List Expr} : PTs X ifs (tT X.K W F (cIfs c ifs)) := by
  match ifs with
  | [] => exact dts_nil
  | [a] => exact dts_one (hT a)
  | _ :: _ :: _ => exact dts_bad
end
/-- what a reading must keep -/
def Good (g : Glob) (N : List Str) (F : Fns) (k : Nat) (R : Scope → Scope → CE) : Prop := ∀ (X : Cx) (W : WX) (oc sc : Scope), Ok g N X W F k oc sc → (∀ e, DE X W F e ((R oc sc).E e)) ∧ ∀ e, DT X W F e ((R oc sc).T e)
section
variable {g : Glob} {N : List Str} {X : Cx} {W : WX} {F : Fns} {k : Nat} {oc sc : Scope} {R : Scope → Scope → CE} {pos : Pos} {elt : Expr} {gens : List Comprehension} {scope : Scope}
theorem cComp_ok (o : Ok g N X W F k oc sc) (hR : Good g N F k R) : DE X W F (.ListComp elt gens scope pos) (cComp g N R oc sc elt gens scope pos) := by
  unfold cComp
  match gens with
  | [] => exact de_bad
  | ⟨_, _, _, _⟩ :: _ :: _ => exact de_bad
  | [⟨tg, iter, ifs, ia⟩] =>
    dsimp only
    refine ite_de (fun h => ?_) de_bad
    obtain ⟨h1, h⟩ := He.ba h
    obtain ⟨h2, h3⟩ := He.ba h
    have h1 := of_decide_eq_true h1
    subst h1
    refine de_comp o.calm o.nodup (cIter_ok o (hR X W oc sc o).1) (blk_ok o h3) (fun s H C cl fp => ?_) (fun s H C cl fp => ?_) (fun s H C cl fp => ?_) (fun x => fold_no h2)
    · have ob := o.blk scope s H C cl fp
      exact (cTg_ok ob (hR _ noW _ _ ob).1 12).1 tg
    · have ob := o.blk scope s H C cl fp
      exact cIfs_ok (hR _ noW _ _ ob).2
    · have ob := o.blk scope s H C cl fp
      exact (hR _ noW _ _ ob).1 elt
theorem step_ok (hR : Good g N F k R) (o : Ok g N X W F k oc sc) : (∀ e, DE X W F e (stepE g N R oc sc e)) ∧ ∀ e, DT X W F e (stepT g N R oc sc e) := by
  obtain ⟨hE, hT⟩ := hR X W oc sc o
  have hs : ∀ e, DE X W F e (stepE g N R oc sc e) := fun e => by
    unfold stepE
    cases e with
    | Constant v j p => exact cConst_ok
    | Name n p => exact cName_ok o
    | BinOp a op b p => exact cBin_ok (hE a) (hE b)
    | UnaryOp op a p =>
      cases op with
      | USub => exact de_neg (hE a)
      | Not => exact de_not (hE a)
      | _ => exact de_bad
    | BoolOp op vs p => exact cBool_ok hE
    | IfExp c a b p => exact de_if (hT c) (hE a) (hE b)
    | Compare a ops bs p => exact (cCmp_ok o hE).1
    | Call f args kws p =>
      cases f with
      | Name n p => exact cCallN_ok o hE
      | Attribute a m p => exact cCallM_ok o hE
      | _ => exact de_bad
    | Attribute a f p => exact cAttr_ok o hE
    | Subscript a b p => exact cSub_ok hE
    | List es p => exact ite_de (fun h => de_lst (cArgs_ok hE h)) de_bad
    | Tuple es kk p => exact ite_de (fun h => de_tup (cArgs_ok hE h)) de_bad
    | ListComp elt gens scope p => exact cComp_ok o hR
    | JoinedStr vs p => exact cJoin_ok hE
    | FormattedValue v c spec p =>
      refine ite_de (fun h => ?_) de_bad
      obtain ⟨h1, h2⟩ := h
      subst h1
      rw [Option.isNone_iff_eq_none.mp h2]
      exact de_fmt (hE v)
    | _ => exact de_bad
  refine ⟨hs, fun e => ?_⟩
  by_cases hp : plainT e = true
  · have e1 : stepT g N R oc sc e = xTru ((R oc sc).E e) := by
      cases e with
      | UnaryOp op a p => cases op <;> first | rfl | cases hp
      | BoolOp _ _ _ => cases hp
      | IfExp _ _ _ _ => cases hp
      | Compare _ _ _ _ => cases hp
      | _ => rfl
    rw [e1]
    exact dt_val (hE e) (fun whole => plainT_ok hp whole)
  · cases e with
    | UnaryOp op a p => cases op <;> first | exact dt_not (hT a) | exact absurd rfl hp
    | BoolOp op vs p =>
      cases vs with
      | nil => exact dt_bad
      | cons v vs => exact (cBoolT_ok (vs := v :: vs) hT (fun z => nomatch z)).pt
    | IfExp _ _ _ _ => exact dt_bad
    | Compare a ops bs p => exact (cCmp_ok o hE).2
    | _ => exact absurd rfl hp
theorem cB_ok : ∀ n : Nat, Good g N F k (cB g N n)
  | 0 => fun X W oc sc o => ⟨fun e => de_bad, fun e => dt_bad⟩
  | n + 1 => fun X W oc sc o => step_ok (cB_ok n) o
end
end Dn

set_option Elab.async false
set_option linter.all false
set_option maxRecDepth 100000
set_option maxHeartbeats 400000
namespace Dn
open PySem PySem.Spec PyProof.Rows L2
/-! ### statements -/
def swP (targets : List Expr) (value : Expr) (sc : Scope) : Option (Option (List Str)) :=
  match (match targets, value with
    | [.Tuple ts _ _], .Tuple vs _ _ | [.List ts _], .Tuple vs _ _ => some (ts, vs)
    | _, _ => none) with
  | none => some none
  | some (ts, vs) =>
    if (!(ts.length == 2 || ts.length == 3) || vs.length != ts.length || (if sc.kind.isAnnotationScope then .function else sc.kind) != .function) = true then some none else
    if (vs.any fun | .Starred .. => true | _ => false) = true then some none else
    let names := ts.filterMap fun
      | .Name id pos => if sc.names.lookup id == some .local && pos.line == (ts.head?.map (·.pos.line)).getD 0 then some id else none
      | _ => none
    if (names.length != ts.length || names.eraseDups.length != names.length) = true then some none else
    if vs.all (foldedForSure 8) = true then some none else
    if vs.all (constantsAlone 8) = true then none else some (some names)
theorem swP_ok {t : List Expr} {v : Expr} {env : PySem.Env} {r : Option (List Str)} (h : swP t v env.scope = some r) : swappedStores t v env = pure r := by
  have main : ∀ (c1 c2 c3 c4 c5 : Bool) (names : List Str), (if c1 = true then some none else if c2 = true then some none else if c3 = true then some none else if c4 = true then some none else if c5 = true then none else some (some names)) = some r →
      (if c1 = true then pure none else if c2 = true then pure none else if c3 = true then pure none else if c4 = true then pure none else
        (if c5 = true then (do let _ ← (unsupported "assign.tuple-of-constant-expressions:order-of-the-stores" : Sem PUnit); pure (some names)) else pure (some names)) : Sem (Option (List Str))) = pure r := by
    intro c1 c2 c3 c4 c5 names h
    cases c1
    · cases c2
      · cases c3
        · cases c4
          · cases c5
            · cases h; rfl
            · cases h
          · cases h; rfl
        · cases h; rfl
      · cases h; rfl
    · cases h; rfl
  cases t with
  | nil => cases h; rfl
  | cons x l =>
    cases l with
    | cons y l =>
      cases x <;> (cases h; rfl)
    | nil =>
      cases x with
      | Tuple ts k p =>
        cases v with
        | Tuple vs k2 p2 => exact main _ _ _ _ _ _ h
        | _ => cases h; rfl
      | List ts p =>
        cases v with
        | Tuple vs k2 p2 => exact main _ _ _ _ _ _ h
        | _ => cases h; rfl
      | _ => cases h; rfl
end Dn

set_option Elab.async false
set_option linter.all false
set_option maxRecDepth 100000
set_option maxHeartbeats 400000
namespace Dn
open PySem PySem.Spec PyProof.Rows L2
def seqX (rec : Stmt → XS) : List Stmt → XS
  | [] => sNil
  | [s] => rec s
  | s :: t :: r => sSeq (rec s) (seqX rec (t :: r))
/-- does a comprehension's value go to the name by the swapped road -/
def swN (sc scope : Scope) (t : Str) (p vp : Pos) : Bool := (if sc.kind.isAnnotationScope then .function else sc.kind) == .function && sc.names.lookup t == some .local && p.line == vp.line && !(scope.names.any fun (n, k) => n == t && (k == .local || k == .cell))
def parX (N : List Str) (c : CE) (sc : Scope) (tg value : Expr) (names : List Str) : XS := match tg, value with
  | .Tuple [.Name n _, .Name m _] _ _, .Tuple [a, b] _ _ => (match ixOf N n, ixOf N m with
    | some i, some j => if (decide (names = [n, m]) && (decide (i ≠ j) && (decide (sc.names.lookup n = some .local) && (decide (sc.names.lookup m = some .local) && [a, b].all noStar)))) = true then sPar [i, j] (cArgs c [a, b]) else sNever
    | _, _ => sNever)
  | .Tuple [.Name n _, .Name m _, .Name l _] _ _, .Tuple [a, b, d] _ _ => (match ixOf N n, ixOf N m, ixOf N l with
    | some i, some j, some h => if (decide (names = [n, m, l]) && (decide (i ≠ j ∧ i ≠ h ∧ j ≠ h) && (decide (sc.names.lookup n = some .local) && (decide (sc.names.lookup m = some .local) && (decide (sc.names.lookup l = some .local) && [a, b, d].all noStar))))) = true then sPar [i, j, h] (cArgs c [a, b, d]) else sNever
    | _, _, _ => sNever)
  | _, _ => sNever
def cAsg1 (g : Glob) (N : List Str) (sc : Scope) (c : CE) (tg value : Expr) (pos : Pos) : XS := match tg with
  | .Name n p => if locB sc n = true then (match ixOf N n with
    | some i => (match value with
      | .ListComp _ _ scope vp => if swN sc scope n p vp = true then (if sc.names.lookup n = some .local then sSet i (c.E value) else sNever) else sSet i (c.E value)
      | v => if noComp v = true then sSet i (c.E v) else sNever)
    | none => sNever) else sNever
  | .Attribute a f _ => if noComp value = true then (match g.flds.lookup f with
    | some cs => sFldP cs f (c.E a) (c.E value)
    | none => sNever) else sNever
  | tg => if (noStar tg && noComp value) = true then (match swP [tg] value sc with
    | some none => sAsg (c.E value) (cTg N sc none c 12 tg)
    | some (some names) => parX N c sc tg value names
    | none => sNever) else sNever
def cSt (g : Glob) (N : List Str) (sc : Scope) (c : CE) (rec : Stmt → XS) : Stmt → XS
  | .Return e _ => (match e with
    | some e => sRet (c.E e)
    | none => sRetN)
  | .If t a b _ => sIf (c.T t) (seqX rec a) (seqX rec b)
  | .Expr e _ => if noComp e = true then sEx (c.E e) else sNever
  | .Pass _ => sPass
  | .Break _ => sBrk
  | .Continue _ => sCnt
  | .For tg it body orelse _ => if (orelse.isEmpty && noSetE it) = true then sFor (cIter g c sc tg it) (cTg N sc none c 12 tg) (seqX rec body) else sNever
  | .While t body orelse _ => if orelse.isEmpty = true then sWhile (c.T t) (seqX rec body) else sNever
  | .Assign ts v pos => (match ts with
    | [tg] => cAsg1 g N sc c tg v pos
    | _ => sNever)
  | _ => sNever
def cSn (g : Glob) (N : List Str) (sc : Scope) (n : Nat) : Nat → Stmt → XS
  | 0, _ => sNever
  | j + 1, s => cSt g N sc (cB g N (n + 1) sc sc) (cSn g N sc n j) s
section
variable {g : Glob} {N : List Str} {X : Cx} {W : WX} {F : Fns} {k : Nat} {sc : Scope} {c : CE} {pos : Pos} {tg value : Expr} {rec : Stmt → XS}
theorem ite_ds {q : Prop} [Decidable q] {st : Stmt} {x y : XS} (h1 : q → DS X W F st x) (h2 : ¬ q → DS X W F st y) : DS X W F st (if q then x else y) := by
  by_cases h : q
  · rw [if_pos h]; exact h1 h
  · rw [if_neg h]; exact h2 h
theorem seqX_ok (hr : ∀ s, DS X W F s (rec s)) : ∀ {ss : List Stmt}, DSs X W F ss (seqX rec ss)
  | [] => dss_nil
  | [s] => dss_one (hr s)
  | s :: t :: r => dss_cons (hr s) (seqX_ok hr)
theorem swN_ok {n : Str} {p sp : Pos} {elt : Expr} {gens : List Comprehension} {scope : Scope} {vp : Pos} {env : PySem.Env} : swapsWith (.ListComp elt gens scope vp) (some (.Name n p)) sp.line env = pure (swN env.scope scope n p vp) := rfl
theorem cCompSet_ok (o : Ok g N X W F k sc sc) {R : Scope → Scope → CE} (hR : Good g N F k R) {n : Str} {i : Nat} {py vp sp : Pos} {elt : Expr} {gens : List Comprehension} {scope : Scope} (hi : ixOf N n = some i) (hl : sc.names.lookup n = some .local)
    (hsw : swN sc scope n py vp = true) : DS X W F (.Assign [.Name n py] (.ListComp elt gens scope vp) sp) (sSet i (cComp g N R sc sc elt gens scope vp)) := by
  have bad : ∀ {st : Stmt}, DS X W F st (sSet i xBad) := fun {st} => ⟨fun pins s σ H D I ⟨p, e, S, sr, re, h⟩ => h.elim⟩
  unfold cComp
  match gens with
  | [] => exact bad
  | ⟨_, _, _, _⟩ :: _ :: _ => exact bad
  | [⟨tg, iter, ifs, ia⟩] =>
    dsimp only
    by_cases h : (decide (ia = 0) && (noSetE iter && blkB N sc scope)) = true
    · rw [if_pos h]
      obtain ⟨h1, h⟩ := He.ba h
      obtain ⟨h2, h3⟩ := He.ba h
      have h1 := of_decide_eq_true h1
      subst h1
      have e1 : swapsWith (.ListComp elt [⟨tg, iter, ifs, 0⟩] scope vp) (some (.Name n py)) sp.line X.env = pure true := by rw [swN_ok, o.scp, hsw]
      refine ds_setComp o.calm o.nodup (o.ix hi) (by rw [o.scp]; exact hl) e1 (cIter_ok o (hR X W sc sc o).1) (blk_ok o h3) (fun s H C cl fp => ?_) (fun s H C cl fp => ?_) (fun s H C cl fp => ?_) (fun x => fold_no h2)
      · have ob := o.blk scope s H C cl fp
        exact (cTg_ok ob (hR _ noW _ _ ob).1 12).1 tg
      · have ob := o.blk scope s H C cl fp
        exact cIfs_ok (hR _ noW _ _ ob).2
      · have ob := o.blk scope s H C cl fp
        exact (hR _ noW _ _ ob).1 elt
    · rw [if_neg h]; exact bad
theorem parX_ok (o : Ok g N X W F k sc sc) (hE : ∀ e, DE X W F e (c.E e)) {names : List Str} (hw : swappedStores [tg] value X.env = pure (some names)) : DS X W F (.Assign [tg] value pos) (parX N c sc tg value names) := by
  unfold parX
  split
  · rename_i n p1 m p2 kt pt a b k2 pt2
    cases hi : ixOf N n with
    | none => exact ds_never
    | some i =>
      cases hj : ixOf N m with
      | none => exact ds_never
      | some j =>
        refine ite_ds (fun h => ?_) (fun _ => ds_never)
        obtain ⟨h1, h⟩ := He.ba h
        obtain ⟨h2, h⟩ := He.ba h
        obtain ⟨h3, h⟩ := He.ba h
        obtain ⟨h4, h5⟩ := He.ba h
        rw [of_decide_eq_true h1] at hw
        exact ds_par2 o.calm o.nodup (o.ix hi) (o.ix hj) (of_decide_eq_true h2) (by rw [o.scp]; exact of_decide_eq_true h3) (by rw [o.scp]; exact of_decide_eq_true h4) (cArgs_ok hE h5) hw
  · rename_i n p1 m p2 l p3 kt pt a b d k2 pt2
    cases hi : ixOf N n with
    | none => exact ds_never
    | some i =>
      cases hj : ixOf N m with
      | none => exact ds_never
      | some j =>
        cases hh : ixOf N l with
        | none => exact ds_never
        | some h' =>
          refine ite_ds (fun h => ?_) (fun _ => ds_never)
          obtain ⟨h1, h⟩ := He.ba h
          obtain ⟨h2, h⟩ := He.ba h
          obtain ⟨h3, h⟩ := He.ba h
          obtain ⟨h4, h⟩ := He.ba h
          obtain ⟨h5, h6⟩ := He.ba h
          rw [of_decide_eq_true h1] at hw
          obtain ⟨q1, q2, q3⟩ := of_decide_eq_true h2
          exact ds_par3 o.calm o.nodup (o.ix hi) (o.ix hj) (o.ix hh) q1 q2 q3 (by rw [o.scp]; exact of_decide_eq_true h3) (by rw [o.scp]; exact of_decide_eq_true h4) (by rw [o.scp]; exact of_decide_eq_true h5) (cArgs_ok hE h6) hw
  · exact ds_never
theorem cAsg1_ok (o : Ok g N X W F k sc sc) {n : Nat} : DS X W F (.Assign [tg] value pos) (cAsg1 g N sc (cB g N (n + 1) sc sc) tg value pos) := by
  have hR : Good g N F k (cB g N n) := cB_ok n
  obtain ⟨hE, hT⟩ := cB_ok (n + 1) X W sc sc o
  have gen : ∀ tg : Expr, DS X W F (.Assign [tg] value pos) (if (noStar tg && noComp value) = true then (match swP [tg] value sc with
    | some none => sAsg ((cB g N (n + 1) sc sc).E value) (cTg N sc none (cB g N (n + 1) sc sc) 12 tg)
    | some (some names) => parX N (cB g N (n + 1) sc sc) sc tg value names
    | none => sNever) else sNever) := fun tg => by
    refine ite_ds (fun h => ?_) (fun _ => ds_never)
    obtain ⟨h1, h2⟩ := He.ba h
    cases hs : swP [tg] value sc with
    | none => exact ds_never
    | some r =>
      have hw : swappedStores [tg] value X.env = pure r := swP_ok (by rw [o.scp]; exact hs)
      cases r with
      | none => exact ds_asg (hE value) ((cTg_ok o (cB_ok (n + 1) X noW sc sc o.nox).1 12).1 tg) (swaps_no h2) hw (asg_one h1)
      | some names => exact parX_ok o hE hw
  cases tg with
  | Name m p =>
    unfold cAsg1
    refine ite_ds (fun hl => ?_) (fun _ => ds_never)
    obtain ⟨l1, l2⟩ := o.locS hl
    cases hi : ixOf N m with
    | none => exact ds_never
    | some i =>
      have plain : noComp value = true → DS X W F (.Assign [.Name m p] value pos) (sSet i ((cB g N (n + 1) sc sc).E value)) := fun h => ds_set o.nodup (o.ix hi) l1 (hE value) (swaps_no h) l2
      cases value with
      | ListComp elt gens scope vp =>
        dsimp only
        refine ite_ds (fun h => ite_ds (fun h2 => cCompSet_ok o hR hi h2 h) (fun _ => ds_never)) (fun h => ?_)
        refine ds_set o.nodup (o.ix hi) l1 (hE _) ?_ l2
        rw [swN_ok, o.scp]
        rw [Bool.not_eq_true] at h
        rw [h]
      | SetComp _ _ _ _ => exact ite_ds (fun h => plain h) (fun _ => ds_never)
      | DictComp _ _ _ _ _ => exact ite_ds (fun h => plain h) (fun _ => ds_never)
      | _ => exact ite_ds (fun h => plain h) (fun _ => ds_never)
  | Attribute a f p =>
    unfold cAsg1
    refine ite_ds (fun h => ?_) (fun _ => ds_never)
    cases hf : g.flds.lookup f with
    | none => exact ds_never
    | some cs => exact ds_fld (o.kf.fld f cs hf) (hE a) (hE value) (swaps_no h)
  | _ => exact gen _
theorem cSn_ok (o : Ok g N X W F k sc sc) (hp : PassesOwn (model X.prog X.w) X.A X.env X.xe) {n : Nat} : ∀ (j : Nat) (s : Stmt), DS X W F s (cSn g N sc n j s)
  | 0, s => ds_never
  | j + 1, s => by
    have ih := cSn_ok o hp (n := n) j
    obtain ⟨hE, hT⟩ := cB_ok (n + 1) X W sc sc o
    unfold cSn
    cases s with
    | Return e p =>
      cases e with
      | none => exact ds_retN
      | some e => exact ds_ret (hE e)
    | If t a b p => exact ds_if (hT t) (seqX_ok ih) (seqX_ok ih)
    | Expr e p => exact ite_ds (fun h => ds_ex (hE e) (swaps_no h)) (fun _ => ds_never)
    | Pass p => exact ds_pass
    | Break p => exact ds_brk
    | Continue p => exact ds_cnt
    | For tg it body orelse p =>
      refine ite_ds (fun h => ?_) (fun _ => ds_never)
      obtain ⟨h1, h2⟩ := He.ba h
      rw [List.isEmpty_iff.mp h1]
      exact ds_for hp o.calm (cIter_ok o hE) ((cTg_ok o (cB_ok (n + 1) X noW sc sc o.nox).1 12).1 tg) (seqX_ok ih) (fun x => fold_no h2)
    | While t body orelse p =>
      refine ite_ds (fun h => ?_) (fun _ => ds_never)
      rw [List.isEmpty_iff.mp h]
      exact ds_while hp (hT t) (seqX_ok ih)
    | Assign ts v p =>
      cases ts with
      | nil => exact ds_never
      | cons t r =>
        cases r with
        | nil => exact cAsg1_ok o
        | cons _ _ => exact ds_never
    | _ => exact ds_never
end
end Dn

set_option Elab.async false
set_option linter.all false
set_option maxRecDepth 100000
set_option maxHeartbeats 400000
namespace Dn
open PySem PySem.Spec PyProof.Rows L2
/-! ### the whole program -/
def Ent.x (g : Glob) (e : Ent) : XS := seqX (cSn g e.N e.d.scope 40 12) e.d.body
/-- the program's defs, each call one level deeper -/
def callN (g : Glob) : Nat → Fns
  | 0 => fun _ _ => stuck
  | n + 1 => fun key ds => match g.ents[key]? with
    | some e => runB e.N.length (e.x g) (callN g n) ds
    | none => stuck
def fsB (N ps : List Str) (sc : Scope) : Bool := decide (sc.kind = .function) && ((!sc.isCoroutine) && ((!sc.isGenerator) && (decide N.Nodup && (decide (N.take ps.length = ps) && ((ps.all fun x => decide (sc.names.lookup x = some .local) || decide (sc.names.lookup x = some .cell)) &&
  (sc.names.all fun y => !decide (y.2 = .free)))))))
theorem fsB_ok {N ps : List Str} {sc : Scope} (h : fsB N ps sc = true) : FnScope N ps sc := by
  obtain ⟨h1, h⟩ := He.ba h
  obtain ⟨h2, h⟩ := He.ba h
  obtain ⟨h3, h⟩ := He.ba h
  obtain ⟨h4, h⟩ := He.ba h
  obtain ⟨h5, h⟩ := He.ba h
  obtain ⟨h6, h7⟩ := He.ba h
  refine ⟨of_decide_eq_true h1, by simpa using h2, by simpa using h3, of_decide_eq_true h4, of_decide_eq_true h5, fun x hx => ?_, fun y hy e => ?_⟩
  · have := List.all_eq_true.mp h6 x hx
    rw [Bool.or_eq_true] at this
    exact this.imp of_decide_eq_true of_decide_eq_true
  · have := List.all_eq_true.mp h7 y hy
    simp [e] at this
def entB (e : Ent) : Bool := fsB e.N e.ps e.d.scope && (plainP e.d.params e.ps && decide e.ps.Nodup)
section
variable {g : Glob} {P : Program} {w : World} {K : PySem.W.Frag} {mg : Str → Option Value} {base : Heap}
theorem ent_ok (kf : KF g K mg) {n i : Nat} {e : Ent} {fd : FuncData} (h : g.ents[i]? = some e) (hB : entB e = true) (F : FunD K e.d.name e.d.qual e.d.params e.d.body e.d.scope [] [] (e.d.at_.ad K) fd) (ih : FF g P w K mg base (callN g n) (2 * n)) :
    FnG P w K mg base (2 * (n + 1)) (e.d.at_.ad K) fd e.ps (spF K (callN g (n + 1)) i e.ps.length) := by
  obtain ⟨b1, b2⟩ := He.ba hB
  have fs := fsB_ok b1
  refine fn_dn (k := 2 * n + 1) (F := callN g n) (xb := e.x g) F fs (fun ds hl => ?_) (fun cdv A outer s H E hr => ?_)
  · show (match g.ents[i]? with
      | some e => runB e.N.length (e.x g) (callN g n) ds
      | none => stuck) = _
    rw [h]
  · have o : Ok g e.N (cxOf (L2.CX P w) P w K mg base e.N e.d.qual e.d.scope (e.d.at_.ad K) cdv A outer s H E) (fun c d _ H => E c d H) (callN g n) (2 * n) e.d.scope e.d.scope :=
      ⟨rfl, rfl, fs.nd, rfl, fun m hm => ⟨rfl, hm⟩, fun m hm => hm, tk_def, hr, kf, ih⟩
    exact seqX_ok (fun st => cSn_ok o po_def 12 st)
theorem fd_ok {e : Ent} {fd : FuncData} (hB : entB e = true) (F : FunD K e.d.name e.d.qual e.d.params e.d.body e.d.scope [] [] (e.d.at_.ad K) fd) : fd.defaults = .none ∧ plainP fd.params e.ps = true ∧ e.ps.Nodup := by
  obtain ⟨b1, b2⟩ := He.ba hB
  obtain ⟨b3, b4⟩ := He.ba b2
  obtain ⟨oc, od, dV, kV, doc, pm, an, cdv, ct, osl, efd, lk, hcd, hd, _⟩ := F.ex
  refine ⟨?_, ?_, of_decide_eq_true b4⟩
  · rcases hd with ⟨_, h1⟩ | ⟨h1, _⟩
    · rw [efd]; exact h1
    · exact absurd rfl h1
  · rw [efd]; exact b3
theorem all_ok (kf : KF g K mg) (hB : g.ents.all entB = true) (FD : ∀ (i : Nat) (e : Ent), g.ents[i]? = some e → ∃ fd, FunD K e.d.name e.d.qual e.d.params e.d.body e.d.scope [] [] (e.d.at_.ad K) fd) : ∀ n : Nat, FF g P w K mg base (callN g n) (2 * n)
  | 0 => by
    refine ⟨fun i e h => ?_⟩
    obtain ⟨fd, F⟩ := FD i e h
    obtain ⟨d1, d2, d3⟩ := fd_ok (List.all_eq_true.mp hB e (mem_at h)) F
    refine ⟨fd, ⟨fun vs H Q E z => ?_, fun A outer s H args us vs Q E r0 e0 hb rv z => ?_⟩, d1, d2, d3⟩
    · obtain ⟨p, S, ds, hl, sr, r, z⟩ := z; exact z.elim
    · obtain ⟨p, S, ds, hl, sr, r, z⟩ := z; exact z.elim
  | n + 1 => by
    have ih := all_ok kf hB FD n
    refine ⟨fun i e h => ?_⟩
    obtain ⟨fd, F⟩ := FD i e h
    have b := List.all_eq_true.mp hB e (mem_at h)
    obtain ⟨d1, d2, d3⟩ := fd_ok b F
    exact ⟨fd, ent_ok kf h b F ih, d1, d2, d3⟩
end
/-! ### the head's check -/
def chkE (K : PySem.W.Frag) (e : Ent) : Bool := PySem.W.keepIn K (.ref (e.d.at_.ad K)) && (match e.d.at_ with
  | .top n => (He.Fa.glo n).ok K
  | .meth c m => (He.Fa.cls c).ok K && ((He.Fa.meth c m).ok K && (!decide (m = "__init__") || (He.Fa.mkr c).ok K))
  | .prop c f => (He.Fa.cls c).ok K && propB K c f)
def chkG (g : Glob) (K : PySem.W.Frag) : Bool := g.ents.all (chkE K) && ((g.consts.all fun nd => gloB K nd.1 nd.2) && ((g.frees.all fun n => (He.Fa.free n).ok K) && ((g.cls.all fun c => (He.Fa.glo c).ok K) && (isiB K g.cls &&
  (g.flds.all fun fc => fc.2.all fun c => (He.Fa.cls c).ok K && (He.Fa.noat c fc.1).ok K)))))
theorem lookup_mem {α : Type} {n : Str} {a : α} : ∀ {l : List (Str × α)}, l.lookup n = some a → (n, a) ∈ l
  | [], h => by cases h
  | (m, b) :: l, h => by
    rw [List.lookup_cons] at h
    cases q : (n == m) with
    | true =>
      rw [q] at h
      cases h
      rw [eq_of_beq q]
      exact List.mem_cons_self
    | false =>
      rw [q] at h
      exact List.mem_cons_of_mem _ (lookup_mem h)
theorem kf_of {g : Glob} {K : PySem.W.Frag} {h : Heap} {mg : Str → Option Value} (X : K.In h) (G : h.Ns mainGlobals mg) (c : chkG g K = true) : KF g K mg := by
  obtain ⟨c1, c⟩ := He.ba c
  obtain ⟨c2, c⟩ := He.ba c
  obtain ⟨c3, c⟩ := He.ba c
  obtain ⟨c4, c⟩ := He.ba c
  obtain ⟨c5, c6⟩ := He.ba c
  have ce : ∀ e ∈ g.ents, _ := fun e he => He.ba (List.all_eq_true.mp c1 e he)
  refine ⟨fun e he n hn => ?_, fun e he => (ce e he).1, fun n d hd => ?_, fun n hn => He.free_ok X G (List.all_eq_true.mp c3 n hn), fun n hn => He.glo_ok X G (List.all_eq_true.mp c4 n hn), c5, fun e he c hc => ?_, fun f cs hf c hc => ?_, fun e he c f hc => ?_, fun e he c m hc => ?_⟩
  · have := (ce e he).2
    rw [hn] at this
    exact He.glo_ok X G this
  · exact gloB_ok X G (List.all_eq_true.mp c2 (n, d) (lookup_mem hd))
  · have := (ce e he).2
    rw [hc] at this
    obtain ⟨_, this⟩ := He.ba this
    obtain ⟨_, this⟩ := He.ba this
    simp at this
    exact He.mkr_ok this
  · have := List.all_eq_true.mp (List.all_eq_true.mp c6 (f, cs) (lookup_mem hf)) c hc
    obtain ⟨a1, a2⟩ := He.ba this
    exact ⟨He.cls_ok a1, He.noat_ok a2⟩
  · have := (ce e he).2
    rw [hc] at this
    obtain ⟨a1, a2⟩ := He.ba this
    exact ⟨He.cls_ok a1, propB_ok a2⟩
  · have := (ce e he).2
    rw [hc] at this
    obtain ⟨a1, a2⟩ := He.ba this
    obtain ⟨a3, _⟩ := He.ba a2
    exact ⟨He.cls_ok a1, He.meth_ok a3⟩
/-- the law's def from the head's facts -/
theorem law_of {g : Glob} {P : Program} {w : World} {K : PySem.W.Frag} {h : Heap} {mg : Str → Option Value} {fa : Addr} {i n : Nat} {e : Ent} {nm x : Str} (X : K.In h) (G : h.Ns mainGlobals mg) (hfa : mg nm = some (.ref fa)) (c : SaysQ (chkG g) (g.ents.map (·.d)) K)
    (hB : g.ents.all entB = true) (he : g.ents[i]? = some e) (ha : e.d.at_ = .top nm) (hx : e.ps = [x]) :
    ∃ fd : FuncData, (∀ (s : Shared) (v : Value), BindsTo s fd ⟨[v], []⟩ [(x, v)]) ∧ ∀ hp : Heap, K.In hp → hp.Ns mainGlobals mg → FnG P w K mg hp (2 * (n + 1)) fa fd [x] (spF K (callN g (n + 1)) i 1) := by
  have kf := kf_of X G c.chk_
  have FD : ∀ (i : Nat) (e : Ent), g.ents[i]? = some e → ∃ fd, FunD K e.d.name e.d.qual e.d.params e.d.body e.d.scope [] [] (e.d.at_.ad K) fd := fun i e h => c.def_ i (by rw [List.getElem?_map, h]; rfl)
  have e0 := hfa.symm.trans (kf.top e (mem_at he) nm ha)
  cases e0
  obtain ⟨fd, F⟩ := FD i e he
  have b := List.all_eq_true.mp hB e (mem_at he)
  obtain ⟨d1, d2, d3⟩ := fd_ok b F
  refine ⟨fd, fun s v => ?_, fun hp KX _ => ?_⟩
  · have := bind_pos d2 d1 d3 (us := [v]) (by rw [hx]; rfl)
    rw [hx] at this
    exact .of_eq this
  · have := ent_ok (P := P) (w := w) (base := hp) (n := n) kf he b F (all_ok kf hB FD n)
    rw [hx, ha] at this
    exact this
end Dn

set_option Elab.async false
set_option linter.all false
set_option maxRecDepth 100000
set_option maxHeartbeats 400000
namespace Dn
open PySem PySem.Spec PyProof.Rows L2
/-! ### the defs of a text -/
def Wh.same : Wh → Wh → Bool
  | .top x, .top y => decide (x = y)
  | .meth c m, .meth d n => decide (c = d) && decide (m = n)
  | .prop c m, .prop d n => decide (c = d) && decide (m = n)
  | _, _ => false
def methsQ (c : Str) : List Stmt → List DefQ
  | [] => []
  | .FunctionDef n a b [] none [] sc none _ _ :: r => ⟨.meth c n, n, c ++ Str.ofString "." ++ n, a, b, sc⟩ :: methsQ c r
  | .FunctionDef n a b [.Name p _] none [] sc none _ _ :: r => if p = "property" then ⟨.prop c n, n, c ++ Str.ofString "." ++ n, a, b, sc⟩ :: methsQ c r else methsQ c r
  | _ :: r => methsQ c r
def defsQ : List Stmt → List DefQ
  | [] => []
  | .FunctionDef n a b [] none [] sc none _ _ :: r => ⟨.top n, n, n, a, b, sc⟩ :: defsQ r
  | .ClassDef c _ _ body _ _ _ _ _ _ _ :: r => methsQ c body ++ defsQ r
  | _ :: r => defsQ r
def noQ : DefQ := ⟨.top "?", "?", "?", ⟨[], [], none, [], [], none, []⟩, [], ⟨.function, [], false, false, []⟩⟩
def findQ (w : Wh) : List DefQ → DefQ
  | [] => noQ
  | d :: r => if Wh.same d.at_ w = true then d else findQ w r
def namesQ : List Stmt → List Str
  | [] => []
  | .FunctionDef n _ _ _ _ _ _ _ _ _ :: r => n :: namesQ r
  | .ClassDef n _ _ _ _ _ _ _ _ _ _ :: r => n :: namesQ r
  | .Assign [.Name n _] _ _ :: r => n :: namesQ r
  | _ :: r => namesQ r
def looseQ (p : Program) : List Str := ((namesQ p.main.body).eraseDups.filter (· ≠ ("law" : Str))).filter (· ≠ ("__name__" : Str))
def nT (n : Str) (ps N : List Str) : Wh × List Str × List Str := (.top n, ps, N)
def nM (c m : Str) (ps N : List Str) : Wh × List Str × List Str := (.meth c m, ps, N)
def nP (c m : Str) (ps N : List Str) : Wh × List Str × List Str := (.prop c m, ps, N)
end Dn

set_option Elab.async false
set_option linter.all false
set_option maxRecDepth 100000
set_option maxHeartbeats 400000
namespace Dn
open PySem PySem.Spec PyProof.Rows L2
/-! ### how readings come out: plain lemmas -/
theorem bits_small {i : Int} (h : i.natAbs < 2 ^ 60) : Builtin.Int.intBits i ≤ 60 := by
  unfold Builtin.Int.intBits
  split
  · omega
  · rename_i h0
    have : i.natAbs ≠ 0 := by intro e; apply h0; simpa using e
    have := (Nat.log2_lt this (k := 60)).mpr h
    omega
theorem mulB_l {i j : Int} (h : i.natAbs < 2 ^ 60) : mulB i j = true := by
  have := bits_small h
  unfold mulB
  have e : decide (Builtin.Int.intBits i > shortFactorBits) = false := decide_eq_false (by unfold shortFactorBits; omega)
  rw [e]
  rfl
theorem mulB_r {i j : Int} (h : j.natAbs < 2 ^ 60) : mulB i j = true := by
  have := bits_small h
  unfold mulB
  have e : decide (Builtin.Int.intBits j > shortFactorBits) = false := decide_eq_false (by unfold shortFactorBits; omega)
  rw [e, Bool.and_false]
  rfl
theorem divB_of {j : Int} (h0 : j ≠ 0) (h : j.natAbs < 2 ^ 60) : divB j = true := by
  unfold divB
  have h1 : j.natAbs ≠ 0 := by omega
  have := (Nat.log2_lt h1 (k := 60)).mpr h
  simp [h0]
  omega
theorem log_small {i : Int} (h : i.natAbs < 2 ^ 1900) : i.natAbs.log2 < 1920 := by
  by_cases h0 : i.natAbs = 0
  · rw [h0]; decide
  · have := (Nat.log2_lt h0 (k := 1900)).mpr h
    omega
theorem ite_app {α β : Type} {c : Prop} [Decidable c] {f h : α → β} {a : α} : (if c then f else h) a = if c then f a else h a := by split <;> rfl
/-! comprehensions that change nothing -/
theorem loopC_gen {F : Fns} {g : XG} {t : XT} {x : XE} {gs : Gd} {e : Env} {S : Sto} {eg : D → Env} {q : D → Bool} {f : D → D} (hg : okG gs S = true) : ∀ {its : List D} {acc : List D}, (∀ d ∈ its, g F e d S = .ok (eg d) S ∧ t F (eg d) S = .ok (q d) S ∧ (q d = true → x F (eg d) S = .ok (f d) S)) →
    acc.length + its.length ≤ line → loopC F g t x gs e its acc S = .ok (acc ++ (its.filter q).map f) S
  | [], acc, _, _ => by
    unfold loopC
    rw [if_pos hg]
    simp
  | d :: r, acc, h, hl => by
    obtain ⟨h1, h2, h3⟩ := h d List.mem_cons_self
    rw [List.length_cons] at hl
    unfold loopC
    rw [if_pos hg, h1]
    dsimp only
    rw [h2]
    cases hq : q d with
    | true =>
      dsimp only
      rw [h3 hq]
      dsimp only
      rw [if_pos (by omega), loopC_gen hg (fun d' hd => h d' (List.mem_cons_of_mem _ hd)) (by rw [List.length_append, List.length_singleton]; omega)]
      simp [hq]
    | false =>
      dsimp only
      rw [loopC_gen hg (fun d' hd => h d' (List.mem_cons_of_mem _ hd)) (by omega)]
      simp [hq]
theorem comp_gen {F : Fns} {it : XI} {g : XG} {t : XT} {x : XE} {e : Env} {vs : List Nat} {S : Sto} {its : List D} {gs : Gd} {eg : D → Env} {q : D → Bool} {f : D → D} (hi : it F e S = .ok (its, gs) S) (hg : okG gs S = true)
    (h : ∀ d ∈ its, g F (wipeE e vs) d S = .ok (eg d) S ∧ t F (eg d) S = .ok (q d) S ∧ (q d = true → x F (eg d) S = .ok (f d) S)) (hl : its.length ≤ line) : xComp false it g t x vs F e S = .ok (.tmp ((its.filter q).map f)) S := by
  unfold xComp M.bind
  rw [hi]
  dsimp only
  rw [loopC_gen hg h (by simpa using hl), List.nil_append]
  dsimp only
  unfold mkL
  have := List.length_filter_le q its
  rw [if_pos (by rw [List.length_map]; omega), if_neg Bool.false_ne_true]
theorem comp_map {F : Fns} {it : XI} {g : XG} {x : XE} {e : Env} {vs : List Nat} {S : Sto} {its : List D} {gs : Gd} {eg : D → Env} {f : D → D} (hi : it F e S = .ok (its, gs) S) (hg : okG gs S = true)
    (h : ∀ d ∈ its, g F (wipeE e vs) d S = .ok (eg d) S ∧ x F (eg d) S = .ok (f d) S) (hl : its.length ≤ line) : xComp false it g tYs x vs F e S = .ok (.tmp (its.map f)) S := by
  have := comp_gen (t := tYs) (x := x) (vs := vs) (q := fun _ => true) (f := f) hi hg (fun d hd => ⟨(h d hd).1, rfl, fun _ => (h d hd).2⟩) hl
  rw [this, List.filter_eq_self.mpr (fun _ _ => rfl)]
/-- comprehensions that may change the store: an invariant, what each value is -/
theorem loopC_inv {F : Fns} {g : XG} {x : XE} {gs : Gd} {e : Env} {I : Sto → Prop} {P : D → D → Prop} (hg : ∀ S, I S → okG gs S = true) (step : ∀ d S, I S → ∃ e1 y S1, g F e d S = .ok e1 S ∧ x F e1 S = .ok y S1 ∧ I S1 ∧ P d y) :
    ∀ {its : List D} {acc : List D} {S : Sto}, I S → acc.length + its.length ≤ line → ∃ ys S', loopC F g tYs x gs e its acc S = .ok (acc ++ ys) S' ∧ I S' ∧ Paired P its ys
  | [], acc, S, i, _ => by
    refine ⟨[], S, ?_, i, .nil⟩
    unfold loopC
    rw [if_pos (hg S i)]
    simp
  | d :: r, acc, S, i, hl => by
    rw [List.length_cons] at hl
    obtain ⟨e1, y, S1, h1, h2, i1, p1⟩ := step d S i
    obtain ⟨ys, S', h3, i3, p3⟩ := loopC_inv hg step (its := r) (acc := acc ++ [y]) i1 (by rw [List.length_append, List.length_singleton]; omega)
    refine ⟨y :: ys, S', ?_, i3, .cons p1 p3⟩
    unfold loopC
    rw [if_pos (hg S i), h1]
    dsimp only
    show (match (Res.ok true S : Res Bool) with
      | .ok true S2 => (match x F e1 S2 with
        | .ok y S3 => if acc.length < line then loopC F g tYs x gs e r (acc ++ [y]) S3 else .bad
        | _ => .bad)
      | .ok false S2 => loopC F g tYs x gs e r acc S2
      | _ => .bad) = _
    dsimp only
    rw [h2]
    dsimp only
    rw [if_pos (by omega), h3, List.append_assoc]
    rfl
theorem comp_inv {F : Fns} {it : XI} {g : XG} {x : XE} {e : Env} {vs : List Nat} {S : Sto} {its : List D} {gs : Gd} {I : Sto → Prop} {P : D → D → Prop} (hi : it F e S = .ok (its, gs) S) (i0 : I S) (hg : ∀ S, I S → okG gs S = true)
    (step : ∀ d S, I S → ∃ e1 y S1, g F (wipeE e vs) d S = .ok e1 S ∧ x F e1 S = .ok y S1 ∧ I S1 ∧ P d y) (hl : its.length ≤ line) : ∃ ys S', xComp false it g tYs x vs F e S = .ok (.tmp ys) S' ∧ I S' ∧ Paired P its ys := by
  obtain ⟨ys, S', h1, h2, h3⟩ := loopC_inv hg step (its := its) (acc := []) i0 (by simpa using hl)
  refine ⟨ys, S', ?_, h2, h3⟩
  unfold xComp M.bind
  rw [hi]
  dsimp only
  rw [h1, List.nil_append]
  dsimp only
  unfold mkL
  rw [if_pos (by rw [← Paired.length h3]; exact hl), if_neg Bool.false_ne_true]
/-- for loops: an invariant over what is left -/
theorem for_inv {F : Fns} {g : XG} {body : XS} {gs : Gd} {I : List D → Env → Sto → Prop} (hg : ∀ l e S, I l e S → okG gs S = true) (step : ∀ d r e S, I (d :: r) e S → ∃ e1 S1 e2 S2, g F e d S = .ok e1 S1 ∧ body F e1 S1 = .nx e2 S2 ∧ I r e2 S2) :
    ∀ {l : List D} {e : Env} {S : Sto}, I l e S → ∃ e' S', loopF F body g gs l e S = .nx e' S' ∧ I [] e' S'
  | [], e, S, i => ⟨e, S, by unfold loopF; rw [if_pos (hg _ _ _ i)], i⟩
  | d :: r, e, S, i => by
    obtain ⟨e1, S1, e2, S2, h1, h2, i2⟩ := step d r e S i
    obtain ⟨e', S', h3, i3⟩ := for_inv hg step i2
    refine ⟨e', S', ?_, i3⟩
    unfold loopF
    rw [if_pos (hg _ _ _ i), h1]
    dsimp only
    rw [h2]
    exact h3
theorem sFor_inv {F : Fns} {it : XI} {g : XG} {body : XS} {e : Env} {S S0 : Sto} {its : List D} {gs : Gd} {I : List D → Env → Sto → Prop} (hi : it F e S = .ok (its, gs) S0) (i0 : I its e S0) (hg : ∀ l e S, I l e S → okG gs S = true)
    (step : ∀ d r e S, I (d :: r) e S → ∃ e1 S1 e2 S2, g F e d S = .ok e1 S1 ∧ body F e1 S1 = .nx e2 S2 ∧ I r e2 S2) : ∃ e' S', sFor it g body F e S = .nx e' S' ∧ I [] e' S' := by
  obtain ⟨e', S', h, i⟩ := for_inv hg step i0
  refine ⟨e', S', ?_, i⟩
  unfold sFor eS
  rw [hi]
  exact h
/-- the program's defs, not to be opened by chance -/
@[irreducible] def cal (g : Glob) (n : Nat) : Fns := callN g n
theorem cal_eq (g : Glob) (n : Nat) : cal g n = callN g n := by unfold cal; rfl
end Dn

set_option Elab.async false
set_option linter.all false
set_option maxRecDepth 100000
set_option maxHeartbeats 0
namespace K69
open PySem PySem.Spec PyProof.Rows L2 Dn
abbrev LAW : PySem.W.OpenLaw := PySem.Challenge.rw_toldcounts_k69_whole_numbers_of_people
abbrev R : PySem.W.OpenRow := PySem.W.OpenLaw.row LAW
def need : List (Wh × List Str × List Str) := [
  nT "is_integer" ["value"] ["value"],
  nT "is_within" ["value", "least", "greatest"] ["value", "least", "greatest"],
  nT "is_natural" ["value"] ["value"],
  nT "numbers_text" ["numbers"] ["numbers", "number"],
  nT "check_most" ["value"] ["value"],
  nT "check_people" ["value"] ["value"],
  nT "check_poll_places" ["value"] ["value"],
  nT "check_shares" ["value", "unit"] ["value", "unit", "index", "share"],
  nT "check_poll" ["value"] ["value"],
  nM "Poll" "__init__" ["self", "places", "shares"] ["self", "places", "shares"],
  nP "Poll" "places" ["self"] ["self"],
  nP "Poll" "shares" ["self"] ["self"],
  nM "Poll" "__eq__" ["self", "other"] ["self", "other"],
  nT "unit_of" ["poll"] ["poll"],
  nT "share_ends" ["share", "people", "unit"] ["share", "people", "unit", "least"],
  nT "all_ends" ["poll", "people"] ["poll", "people", "unit", "share"],
  nT "does_fit" ["poll", "people"] ["poll", "people", "ends", "least", "greatest"],
  nT "does_fit_people" ["poll", "people"] ["poll", "people"],
  nT "people_for" ["poll", "most"] ["poll", "most", "people"],
  nT "bounds_of" ["poll"] ["poll", "least", "share"],
  nT "last_doubtful" ["poll"] ["poll", "unit", "many", "least", "greatest"],
  nT "from_on" ["poll"] ["poll", "least", "greatest", "people"],
  nT "least_people" ["poll"] ["poll", "least", "greatest", "last", "people"],
  nT "_law_well" ["_law_script", "_law_k"] ["_law_script", "_law_k", "_law_own", "_law_mixed", "_law_each"],
  nT "_law_draw" ["_law_well_here", "_law_top"] ["_law_well_here", "_law_top", "_law_old", "_law_figure"],
  nT "_law_dealt" ["_law_well_here", "_law_many", "_law_people"] ["_law_well_here", "_law_many", "_law_people", "_law_found", "_law_rest", "_law_turn", "_law_at"],
  nT "_law_near" ["_law_unit", "_law_one", "_law_people"] ["_law_unit", "_law_one", "_law_people"],
  nT "_law_shares" ["_law_well_here", "_law_unit", "_law_many"] ["_law_well_here", "_law_unit", "_law_many", "_law_way", "_law_at", "_law_people", "_law_found", "_law_some", "_law_own", "_law_turn"],
  nT "_law_tried" ["_law_unit", "_law_shares_here", "_law_people"] ["_law_unit", "_law_shares_here", "_law_people", "_law_told", "_law_least_here", "_law_most", "_law_share", "_law_many", "_law_low", "_law_one"],
  nT "_law_fits" ["_law_unit", "_law_shares_here", "_law_people"] ["_law_unit", "_law_shares_here", "_law_people", "_law_least_here", "_law_most", "_law_share", "_law_low", "_law_high"],
  nT "_law_sums" ["_law_unit", "_law_shares_here"] ["_law_unit", "_law_shares_here", "_law_low", "_law_share"],
  nT "_law_far" ["_law_unit", "_law_shares_here"] ["_law_unit", "_law_shares_here", "_law_wide", "_law_room", "_law_own"],
  nT "_law_least" ["_law_unit", "_law_shares_here"] ["_law_unit", "_law_shares_here", "_law_room", "_law_people"],
  nT "_law_from" ["_law_unit", "_law_shares_here"] ["_law_unit", "_law_shares_here", "_law_room", "_law_people"],
  nT "_law_numbers_right" ["_law_well_here", "_law_unit", "_law_shares_here", "_law_mine"] ["_law_well_here", "_law_unit", "_law_shares_here", "_law_mine", "_law_most", "_law_due", "_law_people"],
  nT "_law_ends_right" ["_law_well_here", "_law_unit", "_law_shares_here", "_law_mine"] ["_law_well_here", "_law_unit", "_law_shares_here", "_law_mine", "_law_least_here", "_law_start", "_law_told", "_law_many", "_law_is_fit", "_law_behind"],
  nT "_law_right" ["_law_well_here"] ["_law_well_here", "_law_turn", "_law_unit", "_law_many", "_law_shares_here", "_law_mine"],
  nT "law" ["_law_script"] ["_law_script", "_law_k"]]
def ents : List Ent := need.map fun t => ⟨findQ t.1 (defsQ R.prog.main.body), t.2.1, t.2.2⟩
def g : Glob := ⟨ents, [("MOST_SHARES", .int 6), ("MOST_AVERAGED", .int 3000), ("UNITS", .tup [.int 100, .int 1000])], ["abs", "all", "bool", "divmod", "enumerate", "int", "isinstance", "len", "max", "min", "range", "repr", "str", "sum", "tuple"], ["Poll"], [("own_places", ["Poll"]), ("own_shares", ["Poll"]), ("own_text", ["Poll"])], [(175, 11, 175, 88), (185, 29, 185, 31), (200, 21, 200, 117), (203, 17, 203, 129)]⟩
def x_is_integer : XS :=
  sRet (xAn (xP (ev2 (pIsi g.cls)) (xCons (xVar 0) (xCons (xC (.ty "int")) xNil))) (xNo (xP (ev2 (pIsi g.cls)) (xCons (xVar 0) (xCons (xC (.ty "bool")) xNil)))))
def x_is_within : XS :=
  sRet (xAn (xCall 0 1 (xCons (xVar 0) xNil)) (x3 evLe evLe (xVar 1) (xVar 0) (xVar 2)))
def x_is_natural : XS :=
  sRet (xAn (xCall 0 1 (xCons (xVar 0) xNil)) (x2F (fun _ => evGe) (xVar 0) (xC (.int 0))))
def x_numbers_text : XS :=
  sRet (xBM isStrB evJoin (xC (.str " ")) (xCons (xComp false (itSeq (xVar 0)) (gNm 1) tYs (xP (ev1 pStr) (xCons (xVar 1) xNil)) [1]) xNil))
def x_check_most : XS :=
  sIf (tNo (xTru (xCall 1 3 (xCons (xVar 0) (xCons (xC (.int 1)) (xCons (xC (.int 3000)) xNil)))))) (sNever) (sNil)
def x_check_people : XS :=
  sIf (tOo (tNo (xTru (xCall 2 1 (xCons (xVar 0) xNil)))) (xBl (x2F (evEqF g.eqs) (xVar 0) (xC (.int 0))))) (sNever) (sNil)
def x_check_poll_places : XS :=
  sIf (tNo (xTru (xCall 1 3 (xCons (xVar 0) (xCons (xC (.int 0)) (xCons (x2 evSub (xP (ev1 pLen) (xCons (xC (.tup [.int 100, .int 1000])) xNil)) (xC (.int 1))) xNil)))))) (sNever) (sNil)
def x_check_shares : XS :=
  sSeq (sIf (tNo (xTru (xP (ev2 (pIsi g.cls)) (xCons (xVar 0) (xCons (xC (.ty "tuple")) xNil))))) (sNever) (sNil)) (
  sSeq (sFor (itEnum (xVar 0)) (gTp 2 (gCn (gNm 2) (gCn (gNm 3) gNl))) (
    sIf (tOo (xBl (x2F (evEqF g.eqs) (xVar 2) (xC (.int 6)))) (tNo (xTru (xCall 1 3 (xCons (xVar 3) (xCons (xC (.int 0)) (xCons (xVar 1) xNil))))))) (sNever) (sNil))) (
  sIf (xBl (x2F (fun _ => evLt) (xP (ev1 pLen) (xCons (xVar 0) xNil)) (xC (.int 2)))) (sNever) (sNil)))
def x_check_poll : XS :=
  sIf (tNo (xTru (xP (ev2 (pIsi g.cls)) (xCons (xVar 0) (xCons (xC (.gl "Poll")) xNil))))) (sNever) (sNil)
def x_Poll_init : XS :=
  sSeq (sEx (xCall 6 1 (xCons (xVar 1) xNil))) (
  sSeq (sEx (xCall 7 2 (xCons (xVar 2) (xCons (x2 evIx (xC (.tup [.int 100, .int 1000])) (xVar 1)) xNil)))) (
  sSeq (sFldP ["Poll"] "own_places" (xVar 0) (xVar 1)) (
  sSeq (sFldP ["Poll"] "own_shares" (xVar 0) (xVar 2)) (
  sFldP ["Poll"] "own_text" (xVar 0) (joinX [xC (.str "poll "), xFmt (xVar 1), xC (.str " "), xFmt (xCall 3 1 (xCons (xVar 2) xNil))] Str.empty)))))
def x_Poll_p_places : XS :=
  sRet (xFld ["Poll"] "own_places" (xVar 0))
def x_Poll_p_shares : XS :=
  sRet (xFld ["Poll"] "own_shares" (xVar 0))
def x_Poll_eq : XS :=
  sRet (xAn (xP (ev2 (pIsi g.cls)) (xCons (xVar 1) (xCons (xC (.gl "Poll")) xNil))) (x2F (evEqF g.eqs) (xFld ["Poll"] "own_text" (xVar 0)) (xFld ["Poll"] "own_text" (xVar 1))))
def x_unit_of : XS :=
  sRet (x2 evIx (xC (.tup [.int 100, .int 1000])) (xProp [("Poll", 10)] (xVar 0)))
def x_share_ends : XS :=
  sSeq (sSet 3 (xIf (xBl (x2F (fun _ => evGt) (xVar 0) (xC (.int 0)))) (x1 evNeg (x2 evDiv (x2 (evMulA false) (x2 evSub (xC (.int 1)) (x2 (evMulA false) (xC (.int 2)) (xVar 0))) (xVar 1)) (x2 (evMulA false) (xC (.int 2)) (xVar 2)))) (xC (.int 0)))) (
  sRet (xTup (xCons (xVar 3) (xCons (xP pMinU (xCons (xVar 1) (xCons (x2 evDiv (x2 evSub (x2 (evMulA false) (x2 (evAddA false) (x2 (evMulA false) (xC (.int 2)) (xVar 0)) (xC (.int 1))) (xVar 1)) (xC (.int 1))) (x2 (evMulA false) (xC (.int 2)) (xVar 2))) xNil))) xNil))))
def x_all_ends : XS :=
  sSeq (sSet 2 (xCall 13 1 (xCons (xVar 0) xNil))) (
  sRet (xComp false (itSeq (xProp [("Poll", 11)] (xVar 0))) (gNm 3) tYs (xCall 14 3 (xCons (xVar 3) (xCons (xVar 1) (xCons (xVar 2) xNil)))) [3]))
def x_does_fit : XS :=
  sSeq (sSet 2 (xCall 15 2 (xCons (xVar 0) (xCons (xVar 1) xNil)))) (
  sSeq (sIf (tNo (xTru (xP (ev1 pAll) (xCons (xComp false (itSeq (xVar 2)) (gTp 2 (gCn (gNm 3) (gCn (gNm 4) gNl))) tYs (x2F (fun _ => evLe) (xVar 3) (xVar 4)) [3, 4]) xNil)))) (sRet (xC (.bl false))) (sNil)) (
  sRet (x3 evLe evLe (xP (ev1 pSumT) (xCons (xComp false (itSeq (xVar 2)) (gTp 2 (gCn (gNm 3) (gCn (gNm 4) gNl))) tYs (xVar 3) [3, 4]) xNil)) (xVar 1) (xP (ev1 pSumT) (xCons (xComp false (itSeq (xVar 2)) (gTp 2 (gCn (gNm 3) (gCn (gNm 4) gNl))) tYs (xVar 4) [3, 4]) xNil)))))
def x_does_fit_people : XS :=
  sSeq (sEx (xCall 8 1 (xCons (xVar 0) xNil))) (
  sSeq (sEx (xCall 5 1 (xCons (xVar 1) xNil))) (
  sRet (xCall 16 2 (xCons (xVar 0) (xCons (xVar 1) xNil)))))
def x_people_for : XS :=
  sSeq (sEx (xCall 8 1 (xCons (xVar 0) xNil))) (
  sSeq (sEx (xCall 4 1 (xCons (xVar 1) xNil))) (
  sRet (xP (ev1 pTup) (xCons (xComp false (itR2 (xC (.int 1)) (x2 (evAddA false) (xVar 1) (xC (.int 1)))) (gNm 2) (xTru (xCall 16 2 (xCons (xVar 0) (xCons (xVar 2) xNil)))) (xVar 2) [2]) xNil))))
def x_bounds_of : XS :=
  sSeq (sSet 1 (xP (ev1 pSumT) (xCons (xComp false (itSeq (xProp [("Poll", 11)] (xVar 0))) (gNm 2) (xBl (x2F (fun _ => evNe) (xVar 2) (xC (.int 0)))) (x2 evSub (x2 (evMulA false) (xC (.int 2)) (xVar 2)) (xC (.int 1))) [2]) xNil))) (
  sRet (xTup (xCons (xVar 1) (xCons (xP (ev1 pSumT) (xCons (xComp false (itSeq (xProp [("Poll", 11)] (xVar 0))) (gNm 2) tYs (x2 (evAddA false) (x2 (evMulA false) (xC (.int 2)) (xVar 2)) (xC (.int 1))) [2]) xNil)) xNil))))
def x_last_doubtful : XS :=
  sSeq (sPar [1, 2] (xCons (xCall 13 1 (xCons (xVar 0) xNil)) (xCons (xP (ev1 pLen) (xCons (xProp [("Poll", 11)] (xVar 0)) xNil)) xNil))) (
  sSeq (sAsg (xCall 19 1 (xCons (xVar 0) xNil)) (gTp 2 (gCn (gNm 3) (gCn (gNm 4) gNl)))) (
  sRet (xP pMaxU (xCons (xVar 1) (xCons (x2 (evAddA false) (x2 evDiv (x2 (evMulA false) (x2 (evMulA false) (xC (.int 2)) (xVar 1)) (xVar 2)) (x2 evSub (x2 (evMulA false) (xC (.int 2)) (xVar 1)) (xVar 3))) (xC (.int 1))) (xCons (x2 (evAddA false) (x2 evDiv (x2 (evMulA false) (x2 (evMulA false) (xC (.int 2)) (xVar 1)) (xVar 2)) (x2 evSub (xVar 4) (x2 (evMulA false) (xC (.int 2)) (xVar 1)))) (xC (.int 1))) xNil))))))
def x_from_on : XS :=
  sSeq (sEx (xCall 8 1 (xCons (xVar 0) xNil))) (
  sSeq (sAsg (xCall 19 1 (xCons (xVar 0) xNil)) (gTp 2 (gCn (gNm 1) (gCn (gNm 2) gNl)))) (
  sSeq (sIf (tOo (xBl (x2F (fun _ => evGe) (xVar 1) (x2 (evMulA false) (xC (.int 2)) (xCall 13 1 (xCons (xVar 0) xNil))))) (xBl (x2F (fun _ => evLe) (xVar 2) (x2 (evMulA false) (xC (.int 2)) (xCall 13 1 (xCons (xVar 0) xNil)))))) (sRet (xC (.non))) (sNil)) (
  sSeq (sFor (itR3 (xCall 20 1 (xCons (xVar 0) xNil)) (xC (.int 0)) (x1 evNeg (xC (.int 1)))) (gNm 3) (
    sIf (tNo (xTru (xCall 16 2 (xCons (xVar 0) (xCons (xVar 3) xNil))))) (sRet (x2 (evAddA false) (xVar 3) (xC (.int 1)))) (sNil))) (
  sRet (xC (.int 1))))))
def x_least_people : XS :=
  sSeq (sEx (xCall 8 1 (xCons (xVar 0) xNil))) (
  sSeq (sAsg (xCall 19 1 (xCons (xVar 0) xNil)) (gTp 2 (gCn (gNm 1) (gCn (gNm 2) gNl)))) (
  sSeq (sIf (tOo (xBl (x2F (fun _ => evGt) (xVar 1) (x2 (evMulA false) (xC (.int 2)) (xCall 13 1 (xCons (xVar 0) xNil))))) (xBl (x2F (fun _ => evLe) (xVar 2) (x2 (evMulA false) (xC (.int 2)) (xCall 13 1 (xCons (xVar 0) xNil)))))) (sRet (xC (.non))) (sNil)) (
  sSeq (sSet 3 (xIf (xBl (x2F (evEqF g.eqs) (xVar 1) (x2 (evMulA false) (xC (.int 2)) (xCall 13 1 (xCons (xVar 0) xNil))))) (x2 (evMulA false) (xC (.int 2)) (xCall 13 1 (xCons (xVar 0) xNil))) (xCall 20 1 (xCons (xVar 0) xNil)))) (
  sSeq (sFor (itR2 (xC (.int 1)) (x2 (evAddA false) (xVar 3) (xC (.int 1)))) (gNm 4) (
    sIf (xTru (xCall 16 2 (xCons (xVar 0) (xCons (xVar 4) xNil)))) (sRet (xVar 4)) (sNil))) (
  sRet (x2 (evAddA false) (xVar 3) (xC (.int 1))))))))
def x_law_well : XS :=
  sSeq (sSet 2 (xIf (xBl (x2F (fun _ => evLt) (xVar 1) (xP (ev1 pLen) (xCons (xVar 0) xNil)))) (xP (ev1 pInt) (xCons (x2 evIx (xVar 0) (xVar 1)) xNil)) (x2 (evAddA false) (x2 (evMulA false) (xC (.int 6101)) (xVar 1)) (xC (.int 211))))) (
  sSeq (sSet 3 (x2 (evAddA false) (xC (.int 510007)) (x2 (evMulA false) (xC (.int 877)) (xVar 1)))) (
  sSeq (sFor (itSeq (x2 (evAddA false) (xCut false (xVar 0) xNoP (xPart (xC (.int 40)))) (xMk false (xCons (xVar 2) xNil)))) (gNm 4) (
    sSet 3 (x2 evMod (xP (ev1 pInt) (xCons (x2 (evAddA false) (x2 (evMulA false) (xVar 3) (xC (.int 36007))) (xP (ev1 pInt) (xCons (xVar 4) xNil))) xNil)) (xC (.int 2147483423))))) (
  sRet (xMk true (xCons (xIf (tOo (xBl (x2F (fun _ => evLt) (xVar 2) (xC (.int 0)))) (xBl (x2F (fun _ => evGe) (xVar 2) (x2 evPow (xC (.int 10)) (xC (.int 18)))))) (xP (ev1 pAbs) (xCons (xVar 2) xNil)) (xC (.int 0))) (xCons (xVar 3) (xCons (xC (.int 0)) xNil)))))))
def x_law_draw : XS :=
  sSeq (sAsg (x2 (evAddA false) (x2 evIx (xVar 0) (xC (.int 2))) (xC (.int 1))) (gSb (xVar 0) (xC (.int 2)))) (
  sSeq (sSet 2 (xP (ev1 pInt) (xCons (x2 evIx (xVar 0) (xC (.int 1))) xNil))) (
  sSeq (sAsg (x2 evMod (xP (ev1 pInt) (xCons (x2 (evAddA false) (x2 (evAddA false) (x2 (evMulA false) (xVar 2) (x2 (evAddA false) (x2 evMod (xP (ev1 pInt) (xCons (xVar 2) xNil)) (xC (.int 27011))) (xC (.int 8009)))) (x2 (evMulA false) (xC (.int 10211)) (x2 evIx (xVar 0) (xC (.int 2))))) (xC (.int 41))) xNil)) (xC (.int 2147483423))) (gSb (xVar 0) (xC (.int 1)))) (
  sSeq (sIf (xBl (x2F (fun _ => evGt) (x2 evIx (xVar 0) (xC (.int 0))) (xC (.int 0)))) (sSeq (sAsg (xP (ev2 pDivmod) (xCons (x2 evIx (xVar 0) (xC (.int 0))) (xCons (xVar 1) xNil))) (gTp 2 (gCn (gSb (xVar 0) (xC (.int 0))) (gCn (gNm 3) gNl)))) (
    sRet (xVar 3))) (sNil)) (
  sRet (x2 evMod (xP (ev1 pInt) (xCons (x2 evDiv (x2 evIx (xVar 0) (xC (.int 1))) (xC (.int 97))) xNil)) (xVar 1))))))
def x_law_dealt : XS :=
  sSeq (sPar [3, 4] (xCons (xMk true xNil) (xCons (xVar 2) xNil))) (
  sSeq (sFor (itR1 (x2 evSub (xVar 1) (xC (.int 1)))) (gNm 5) (
    sSeq (sEx (xBM isLstB evApp (xVar 3) (xCons (xCall 24 2 (xCons (xVar 0) (xCons (x2 (evAddA false) (xVar 4) (xC (.int 1))) xNil))) xNil))) (
    sSet 4 (x2 evSub (xVar 4) (x2 evIx (xVar 3) (x1 evNeg (xC (.int 1)))))))) (
  sSeq (sEx (xBM isLstB evApp (xVar 3) (xCons (xVar 4) xNil))) (
  sSeq (sSet 6 (xCall 24 2 (xCons (xVar 0) (xCons (xVar 1) xNil)))) (
  sRet (x2 (evAddA false) (xCut false (xVar 3) (xPart (xVar 6)) xNoP) (xCut false (xVar 3) xNoP (xPart (xVar 6))))))))
def x_law_near : XS :=
  sRet (x2 evDiv (xP (ev1 pInt) (xCons (x2 (evAddA false) (x2 (evMulA false) (x2 (evMulA false) (xC (.int 2)) (xVar 0)) (xVar 1)) (xVar 2)) xNil)) (x2 (evMulA false) (xC (.int 2)) (xVar 2)))
def x_law_shares : XS :=
  sSeq (sPar [3, 4] (xCons (xCall 24 2 (xCons (xVar 0) (xCons (xC (.int 9)) xNil))) (xCons (xCall 24 2 (xCons (xVar 0) (xCons (xVar 2) xNil))) xNil))) (
  sSeq (sIf (xBl (x2F (evEqF g.eqs) (xVar 3) (xC (.int 0)))) (sRet (xP (ev1 pTup) (xCons (xComp false (itR1 (xVar 2)) (gNm 9) tYs (xCall 24 2 (xCons (xVar 0) (xCons (x2 (evAddA false) (xVar 1) (xC (.int 1))) xNil))) [9]) xNil))) (sNil)) (
  sSeq (sIf (xBl (x2F (fun _ => evLt) (xVar 3) (xC (.int 3)))) (sSeq (sSet 7 (xIf (tAn (xBl (x2F (fun _ => evGt) (xVar 2) (xC (.int 3)))) (xBl (x2F (evEqF g.eqs) (xVar 1) (xC (.int 100))))) (xC (.int 4)) (xC (.int 2)))) (
    sSeq (sSet 6 (xComp true (itSeq (xCall 25 3 (xCons (xVar 0) (xCons (xVar 7) (xCons (x2 evSub (xVar 1) (x2 evDiv (xVar 7) (xC (.int 2)))) xNil))))) (gNm 8) tYs (x2 (evAddA false) (xC (.int 1)) (xVar 8)) [8])) (
    sRet (xP (ev1 pTup) (xCons (xIf (xBl (x2F (evEqF g.eqs) (xVar 3) (xC (.int 1)))) (x2 (evAddA false) (x2 (evMulA false) (xMk false (xCons (xC (.int 0)) xNil)) (x2 evSub (xVar 2) (xVar 7))) (xVar 6)) (xVar 6)) xNil))))) (sNil)) (
  sSeq (sSet 5 (x2 (evAddA false) (xC (.int 1)) (xCall 24 2 (xCons (xVar 0) (xCons (xC (.int 30)) xNil))))) (
  sSeq (sSet 6 (xComp true (itSeq (xCall 25 3 (xCons (xVar 0) (xCons (xVar 2) (xCons (xVar 5) xNil))))) (gNm 8) tYs (xCall 26 3 (xCons (xVar 1) (xCons (xVar 8) (xCons (xVar 5) xNil)))) [8])) (
  sSeq (sIf (xBl (x2F (evEqF g.eqs) (xVar 3) (xC (.int 3)))) (sAsg (xP pMinU (xCons (xVar 1) (xCons (x2 (evAddA false) (x2 evIx (xVar 6) (xVar 4)) (xC (.int 1))) xNil))) (gSb (xVar 6) (xVar 4))) (sNil)) (
  sSeq (sIf (xBl (x2F (evEqF g.eqs) (xVar 3) (xC (.int 4)))) (sAsg (xP pMaxU (xCons (xC (.int 0)) (xCons (x2 evSub (x2 evIx (xVar 6) (xVar 4)) (xC (.int 1))) xNil))) (gSb (xVar 6) (xVar 4))) (sNil)) (
  sRet (xP (ev1 pTup) (xCons (xVar 6) xNil)))))))))
def x_law_tried : XS :=
  sSeq (sPar [3, 4, 5] (xCons (xComp false (itR1 (x2 (evAddA false) (xVar 2) (xC (.int 1)))) (gNm 9) tYs (xCall 26 3 (xCons (xVar 0) (xCons (xVar 9) (xCons (xVar 2) xNil)))) [9]) (xCons (xC (.int 0)) (xCons (xC (.int 0)) xNil)))) (
  sSeq (sFor (itSeq (xVar 1)) (gNm 6) (
    sSeq (sSet 7 (xBM isLstB (ev1M false cntD) (xVar 3) (xCons (xVar 6) xNil))) (
    sSeq (sIf (xBl (x2F (evEqF g.eqs) (xVar 7) (xC (.int 0)))) (sRet (xC (.bl false))) (sNil)) (
    sSeq (sSet 8 (xBM isLstB (ev1M false idxD) (xVar 3) (xCons (xVar 6) xNil))) (
    sPar [4, 5] (xCons (x2 (evAddA false) (xVar 4) (xVar 8)) (xCons (x2 evSub (x2 (evAddA false) (x2 (evAddA false) (xVar 5) (xVar 8)) (xVar 7)) (xC (.int 1))) xNil))))))) (
  sRet (x3 evLe evLe (xVar 4) (xVar 2) (xVar 5))))
def x_law_fits : XS :=
  sSeq (sAsg (xTup (xCons (xC (.int 0)) (xCons (xC (.int 0)) xNil))) (gTp 2 (gCn (gNm 3) (gCn (gNm 4) gNl)))) (
  sSeq (sFor (itSeq (xVar 1)) (gNm 5) (
    sSeq (sSet 6 (xIf (xBl (x2F (fun _ => evGt) (xVar 5) (xC (.int 0)))) (x1 evNeg (x2 evDiv (x2 (evMulA false) (x2 evSub (xC (.int 1)) (x2 (evMulA false) (xC (.int 2)) (xVar 5))) (xVar 2)) (x2 (evMulA false) (xC (.int 2)) (xVar 0)))) (xC (.int 0)))) (
    sSeq (sSet 7 (xP pMinU (xCons (xVar 2) (xCons (x2 evDiv (x2 evSub (x2 (evMulA false) (x2 (evAddA false) (x2 (evMulA false) (xC (.int 2)) (xVar 5)) (xC (.int 1))) (xVar 2)) (xC (.int 1))) (x2 (evMulA false) (xC (.int 2)) (xVar 0))) xNil)))) (
    sSeq (sIf (xBl (x2F (fun _ => evGt) (xVar 6) (xVar 7))) (sRet (xC (.bl false))) (sNil)) (
    sPar [3, 4] (xCons (x2 (evAddA false) (xVar 3) (xVar 6)) (xCons (x2 (evAddA false) (xVar 4) (xVar 7)) xNil))))))) (
  sRet (x3 evLe evLe (xVar 3) (xVar 2) (xVar 4))))
def x_law_sums : XS :=
  sSeq (sSet 2 (xP (ev1 pSumT) (xCons (xComp false (itSeq (xVar 1)) (gNm 3) (xBl (x2F (fun _ => evGt) (xVar 3) (xC (.int 0)))) (x2 evSub (x2 (evMulA false) (xC (.int 2)) (xVar 3)) (xC (.int 1))) [3]) xNil))) (
  sRet (xMk false (xCons (x2 evSub (x2 (evMulA false) (xC (.int 2)) (xVar 0)) (xVar 2)) (xCons (x2 evSub (xP (ev1 pSumT) (xCons (xComp false (itSeq (xVar 1)) (gNm 3) tYs (x2 (evAddA false) (x2 (evMulA false) (xC (.int 2)) (xVar 3)) (xC (.int 1))) [3]) xNil)) (x2 (evMulA false) (xC (.int 2)) (xVar 0))) xNil))))
def x_law_far : XS :=
  sSeq (sAsg (xTup (xCons (x2 (evMulA false) (x2 (evMulA false) (xC (.int 2)) (xVar 0)) (xP (ev1 pLen) (xCons (xVar 1) xNil))) (xCons (xCall 30 2 (xCons (xVar 0) (xCons (xVar 1) xNil))) xNil))) (gTp 2 (gCn (gNm 2) (gCn (gNm 3) gNl)))) (
  sRet (xP pMaxU (xCons (x2 (evAddA false) (xMk false (xCons (xVar 0) xNil)) (xComp false (itSeq (xVar 3)) (gNm 4) (xBl (x2F (fun _ => evGt) (xVar 4) (xC (.int 0)))) (x2 (evAddA false) (x2 evDiv (xVar 2) (xVar 4)) (xC (.int 1))) [4])) xNil)))
def x_law_least : XS :=
  sSeq (sSet 2 (xCall 30 2 (xCons (xVar 0) (xCons (xVar 1) xNil)))) (
  sSeq (sIf (tOo (xBl (x2F (fun _ => evLt) (x2 evIx (xVar 2) (xC (.int 0))) (xC (.int 0)))) (xBl (x2F (fun _ => evLe) (x2 evIx (xVar 2) (xC (.int 1))) (xC (.int 0))))) (sRet (xC (.non))) (sNil)) (
  sSeq (sFor (itR2 (xC (.int 1)) (x2 (evAddA false) (xP pMaxU (xCons (x2 (evMulA false) (xC (.int 2)) (xVar 0)) (xCons (xCall 31 2 (xCons (xVar 0) (xCons (xVar 1) xNil))) xNil))) (xC (.int 1)))) (gNm 3) (
    sIf (xTru (xCall 29 3 (xCons (xVar 0) (xCons (xVar 1) (xCons (xVar 3) xNil))))) (sRet (xVar 3)) (sNil))) (
  sRet (xC (.non)))))
def x_law_from : XS :=
  sSeq (sSet 2 (xCall 30 2 (xCons (xVar 0) (xCons (xVar 1) xNil)))) (
  sSeq (sIf (tOo (xBl (x2F (fun _ => evLe) (x2 evIx (xVar 2) (xC (.int 0))) (xC (.int 0)))) (xBl (x2F (fun _ => evLe) (x2 evIx (xVar 2) (xC (.int 1))) (xC (.int 0))))) (sRet (xC (.non))) (sNil)) (
  sSeq (sFor (itR3 (xCall 31 2 (xCons (xVar 0) (xCons (xVar 1) xNil))) (xC (.int 0)) (x1 evNeg (xC (.int 1)))) (gNm 3) (
    sIf (tNo (xTru (xCall 29 3 (xCons (xVar 0) (xCons (xVar 1) (xCons (xVar 3) xNil)))))) (sRet (x2 (evAddA false) (xVar 3) (xC (.int 1)))) (sNil))) (
  sRet (xC (.int 1)))))
def x_law_numbers_right : XS :=
  sSeq (sSet 4 (x2 (evAddA false) (xC (.int 1)) (xCall 24 2 (xCons (xVar 0) (xCons (xC (.int 40)) xNil))))) (
  sSeq (sSet 5 (xP (ev1 pTup) (xCons (xComp false (itR2 (xC (.int 1)) (x2 (evAddA false) (xVar 4) (xC (.int 1)))) (gNm 6) (xTru (xCall 28 3 (xCons (xVar 1) (xCons (xVar 2) (xCons (xVar 6) xNil))))) (xVar 6) [6]) xNil))) (
  sSeq (sIf (xBl (x2F (fun _ => evNe) (xP (ev1 pRepr) (xCons (xMk false (xCons (xCall 18 2 (xCons (xVar 3) (xCons (xVar 4) xNil))) (xCons (xCallK 18 2 (gN ["most", "poll"] ["poll", "most"]) (xCons (xVar 4) (xCons (xVar 3) xNil))) xNil))) xNil)) (xP (ev1 pRepr) (xCons (xMk false (xCons (xVar 5) (xCons (xVar 5) xNil))) xNil)))) (sRet (xC (.bl false))) (sNil)) (
  sSeq (sIf (tOo (xBl (x2F (fun _ => evGt) (xP (ev1 pLen) (xCons (xVar 2) xNil)) (xC (.int 2)))) (xBl (x2F (fun _ => evGt) (xCall 24 2 (xCons (xVar 0) (xCons (xC (.int 8)) xNil))) (xC (.int 0))))) (sRet (xC (.bl true))) (sNil)) (
  sSeq (sSet 5 (xP (ev1 pTup) (xCons (xComp false (itR2 (xC (.int 1)) (xC (.int 3001))) (gNm 6) (xTru (xCall 29 3 (xCons (xVar 1) (xCons (xVar 2) (xCons (xVar 6) xNil))))) (xVar 6) [6]) xNil))) (
  sRet (x2F (evEqF g.eqs) (xP (ev1 pRepr) (xCons (xCall 18 2 (xCons (xVar 3) (xCons (xC (.int 3000)) xNil))) xNil)) (xP (ev1 pRepr) (xCons (xVar 5) xNil))))))))
def x_law_ends_right : XS :=
  sSeq (sPar [4, 5] (xCons (xCall 32 2 (xCons (xVar 1) (xCons (xVar 2) xNil))) (xCons (xCall 33 2 (xCons (xVar 1) (xCons (xVar 2) xNil))) xNil))) (
  sSeq (sSet 6 (xMk false (xCons (xCall 22 1 (xCons (xVar 3) xNil)) (xCons (xCallK 22 1 (gN ["poll"] ["poll"]) (xCons (xVar 3) xNil)) (xCons (xCall 21 1 (xCons (xVar 3) xNil)) (xCons (xCallK 21 1 (gN ["poll"] ["poll"]) (xCons (xVar 3) xNil)) xNil)))))) (
  sSeq (sIf (xBl (x2F (fun _ => evNe) (xP (ev1 pRepr) (xCons (xVar 6) xNil)) (xP (ev1 pRepr) (xCons (xMk false (xCons (xVar 4) (xCons (xVar 4) (xCons (xVar 5) (xCons (xVar 5) xNil))))) xNil)))) (sRet (xC (.bl false))) (sNil)) (
  sSeq (sIf (xBl (x2F (fun _ => evIsNot) (xVar 5) (xC (.non)))) (sSeq (sSet 9 (x2 (evAddA false) (xVar 5) (xCall 24 2 (xCons (xVar 0) (xCons (xC (.int 3000)) xNil))))) (
    sSeq (sIf (tOo (xBl (x2F (fun _ => evIsNot) (xCall 17 2 (xCons (xVar 3) (xCons (xVar 5) xNil))) (xC (.bl true)))) (xBl (x2F (fun _ => evIsNot) (xCallK 17 2 (gN ["people", "poll"] ["poll", "people"]) (xCons (xVar 9) (xCons (xVar 3) xNil))) (xC (.bl true))))) (sRet (xC (.bl false))) (sNil)) (
    sRet (xOo (x2F (evEqF g.eqs) (xVar 5) (xC (.int 1))) (x2F (fun _ => evIs) (xCall 17 2 (xCons (xVar 3) (xCons (x2 evSub (xVar 5) (xC (.int 1))) xNil))) (xC (.bl false))))))) (sNil)) (
  sSeq (sSet 7 (x2 (evAddA false) (xC (.int 1)) (xCall 24 2 (xCons (xVar 0) (xCons (xC (.int 60)) xNil))))) (
  sSeq (sSet 8 (xAn (x2F (fun _ => evIsNot) (xVar 4) (xC (.non))) (x2F (evEqF g.eqs) (x2 evMod (xP (ev1 pInt) (xCons (xVar 7) xNil)) (xVar 4)) (xC (.int 0))))) (
  sSeq (sIf (xBl (x2F (fun _ => evNe) (xP (ev1 pRepr) (xCons (xCall 17 2 (xCons (xVar 3) (xCons (xVar 7) xNil))) xNil)) (xP (ev1 pRepr) (xCons (xVar 8) xNil)))) (sRet (xC (.bl false))) (sNil)) (
  sRet (xOo (x2F (fun _ => evIs) (xVar 4) (xC (.non))) (x2F (fun _ => evIs) (xCall 17 2 (xCons (xVar 3) (xCons (x2 (evMulA false) (xC (.int 3)) (xVar 4)) xNil))) (xC (.bl true)))))))))))
def x_law_right : XS :=
  sSeq (sFor (itR1 (xC (.int 3))) (gNm 1) (
    sSeq (sSet 2 (xIf (xBl (x2F (evEqF g.eqs) (xCall 24 2 (xCons (xVar 0) (xCons (xC (.int 5)) xNil))) (xC (.int 0)))) (xC (.int 1000)) (xC (.int 100)))) (
    sSeq (sSet 3 (x2 (evAddA false) (xC (.int 2)) (xCall 24 2 (xCons (xVar 0) (xCons (xIf (xBl (x2F (evEqF g.eqs) (xVar 2) (xC (.int 100)))) (xC (.int 5)) (xC (.int 2))) xNil))))) (
    sSeq (sSet 4 (xCall 27 3 (xCons (xVar 0) (xCons (xVar 2) (xCons (xVar 3) xNil))))) (
    sSeq (sSet 5 (xNew "Poll" 9 3 (xCons (xIf (xBl (x2F (evEqF g.eqs) (xVar 2) (xC (.int 1000)))) (xC (.int 1)) (xC (.int 0))) (xCons (xVar 4) xNil)))) (
    sIf (tOo (tNo (xTru (xCall 34 4 (xCons (xVar 0) (xCons (xVar 2) (xCons (xVar 4) (xCons (xVar 5) xNil))))))) (tNo (xTru (xCall 35 4 (xCons (xVar 0) (xCons (xVar 2) (xCons (xVar 4) (xCons (xVar 5) xNil)))))))) (sRet (xC (.bl false))) (sNil))))))) (
  sRet (xC (.bl true)))
def x_law : XS :=
  sRet (xP (ev1 pAll) (xCons (xComp false (itR1 (xC (.int 2))) (gNm 1) tYs (xCall 36 1 (xCons (xCall 23 2 (xCons (xVar 0) (xCons (xVar 1) xNil))) xNil)) [1]) xNil))
abbrev k_is_integer : Nat := 0
abbrev k_is_within : Nat := 1
abbrev k_is_natural : Nat := 2
abbrev k_numbers_text : Nat := 3
abbrev k_check_most : Nat := 4
abbrev k_check_people : Nat := 5
abbrev k_check_poll_places : Nat := 6
abbrev k_check_shares : Nat := 7
abbrev k_check_poll : Nat := 8
abbrev k_Poll_init : Nat := 9
abbrev k_Poll_p_places : Nat := 10
abbrev k_Poll_p_shares : Nat := 11
abbrev k_Poll_eq : Nat := 12
abbrev k_unit_of : Nat := 13
abbrev k_share_ends : Nat := 14
abbrev k_all_ends : Nat := 15
abbrev k_does_fit : Nat := 16
abbrev k_does_fit_people : Nat := 17
abbrev k_people_for : Nat := 18
abbrev k_bounds_of : Nat := 19
abbrev k_last_doubtful : Nat := 20
abbrev k_from_on : Nat := 21
abbrev k_least_people : Nat := 22
abbrev k_law_well : Nat := 23
abbrev k_law_draw : Nat := 24
abbrev k_law_dealt : Nat := 25
abbrev k_law_near : Nat := 26
abbrev k_law_shares : Nat := 27
abbrev k_law_tried : Nat := 28
abbrev k_law_fits : Nat := 29
abbrev k_law_sums : Nat := 30
abbrev k_law_far : Nat := 31
abbrev k_law_least : Nat := 32
abbrev k_law_from : Nat := 33
abbrev k_law_numbers_right : Nat := 34
abbrev k_law_ends_right : Nat := 35
abbrev k_law_right : Nat := 36
abbrev k_law : Nat := 37
/-- the readings are those of the text -/
theorem c_is_integer (n : Nat) (ds : List D) : cal g (n + 1) 0 ds = runB 1 x_is_integer (cal g n) ds := by rw [cal_eq, cal_eq]; kernel_rfl
theorem c_is_within (n : Nat) (ds : List D) : cal g (n + 1) 1 ds = runB 3 x_is_within (cal g n) ds := by rw [cal_eq, cal_eq]; kernel_rfl
theorem c_is_natural (n : Nat) (ds : List D) : cal g (n + 1) 2 ds = runB 1 x_is_natural (cal g n) ds := by rw [cal_eq, cal_eq]; kernel_rfl
theorem c_numbers_text (n : Nat) (ds : List D) : cal g (n + 1) 3 ds = runB 2 x_numbers_text (cal g n) ds := by rw [cal_eq, cal_eq]; kernel_rfl
theorem c_check_most (n : Nat) (ds : List D) : cal g (n + 1) 4 ds = runB 1 x_check_most (cal g n) ds := by rw [cal_eq, cal_eq]; kernel_rfl
theorem c_check_people (n : Nat) (ds : List D) : cal g (n + 1) 5 ds = runB 1 x_check_people (cal g n) ds := by rw [cal_eq, cal_eq]; kernel_rfl
theorem c_check_poll_places (n : Nat) (ds : List D) : cal g (n + 1) 6 ds = runB 1 x_check_poll_places (cal g n) ds := by rw [cal_eq, cal_eq]; kernel_rfl
theorem c_check_shares (n : Nat) (ds : List D) : cal g (n + 1) 7 ds = runB 4 x_check_shares (cal g n) ds := by rw [cal_eq, cal_eq]; kernel_rfl
theorem c_check_poll (n : Nat) (ds : List D) : cal g (n + 1) 8 ds = runB 1 x_check_poll (cal g n) ds := by rw [cal_eq, cal_eq]; kernel_rfl
theorem c_Poll_init (n : Nat) (ds : List D) : cal g (n + 1) 9 ds = runB 3 x_Poll_init (cal g n) ds := by rw [cal_eq, cal_eq]; kernel_rfl
theorem c_Poll_p_places (n : Nat) (ds : List D) : cal g (n + 1) 10 ds = runB 1 x_Poll_p_places (cal g n) ds := by rw [cal_eq, cal_eq]; kernel_rfl
theorem c_Poll_p_shares (n : Nat) (ds : List D) : cal g (n + 1) 11 ds = runB 1 x_Poll_p_shares (cal g n) ds := by rw [cal_eq, cal_eq]; kernel_rfl
theorem c_Poll_eq (n : Nat) (ds : List D) : cal g (n + 1) 12 ds = runB 2 x_Poll_eq (cal g n) ds := by rw [cal_eq, cal_eq]; kernel_rfl
theorem c_unit_of (n : Nat) (ds : List D) : cal g (n + 1) 13 ds = runB 1 x_unit_of (cal g n) ds := by rw [cal_eq, cal_eq]; kernel_rfl
theorem c_share_ends (n : Nat) (ds : List D) : cal g (n + 1) 14 ds = runB 4 x_share_ends (cal g n) ds := by rw [cal_eq, cal_eq]; kernel_rfl
theorem c_all_ends (n : Nat) (ds : List D) : cal g (n + 1) 15 ds = runB 4 x_all_ends (cal g n) ds := by rw [cal_eq, cal_eq]; kernel_rfl
theorem c_does_fit (n : Nat) (ds : List D) : cal g (n + 1) 16 ds = runB 5 x_does_fit (cal g n) ds := by rw [cal_eq, cal_eq]; kernel_rfl
theorem c_does_fit_people (n : Nat) (ds : List D) : cal g (n + 1) 17 ds = runB 2 x_does_fit_people (cal g n) ds := by rw [cal_eq, cal_eq]; kernel_rfl
theorem c_people_for (n : Nat) (ds : List D) : cal g (n + 1) 18 ds = runB 3 x_people_for (cal g n) ds := by rw [cal_eq, cal_eq]; kernel_rfl
theorem c_bounds_of (n : Nat) (ds : List D) : cal g (n + 1) 19 ds = runB 3 x_bounds_of (cal g n) ds := by rw [cal_eq, cal_eq]; kernel_rfl
theorem c_last_doubtful (n : Nat) (ds : List D) : cal g (n + 1) 20 ds = runB 5 x_last_doubtful (cal g n) ds := by rw [cal_eq, cal_eq]; kernel_rfl
theorem c_from_on (n : Nat) (ds : List D) : cal g (n + 1) 21 ds = runB 4 x_from_on (cal g n) ds := by rw [cal_eq, cal_eq]; kernel_rfl
theorem c_least_people (n : Nat) (ds : List D) : cal g (n + 1) 22 ds = runB 5 x_least_people (cal g n) ds := by rw [cal_eq, cal_eq]; kernel_rfl
theorem c_law_well (n : Nat) (ds : List D) : cal g (n + 1) 23 ds = runB 5 x_law_well (cal g n) ds := by rw [cal_eq, cal_eq]; kernel_rfl
theorem c_law_draw (n : Nat) (ds : List D) : cal g (n + 1) 24 ds = runB 4 x_law_draw (cal g n) ds := by rw [cal_eq, cal_eq]; kernel_rfl
theorem c_law_dealt (n : Nat) (ds : List D) : cal g (n + 1) 25 ds = runB 7 x_law_dealt (cal g n) ds := by rw [cal_eq, cal_eq]; kernel_rfl
theorem c_law_near (n : Nat) (ds : List D) : cal g (n + 1) 26 ds = runB 3 x_law_near (cal g n) ds := by rw [cal_eq, cal_eq]; kernel_rfl
theorem c_law_shares (n : Nat) (ds : List D) : cal g (n + 1) 27 ds = runB 10 x_law_shares (cal g n) ds := by rw [cal_eq, cal_eq]; kernel_rfl
theorem c_law_tried (n : Nat) (ds : List D) : cal g (n + 1) 28 ds = runB 10 x_law_tried (cal g n) ds := by rw [cal_eq, cal_eq]; kernel_rfl
theorem c_law_fits (n : Nat) (ds : List D) : cal g (n + 1) 29 ds = runB 8 x_law_fits (cal g n) ds := by rw [cal_eq, cal_eq]; kernel_rfl
theorem c_law_sums (n : Nat) (ds : List D) : cal g (n + 1) 30 ds = runB 4 x_law_sums (cal g n) ds := by rw [cal_eq, cal_eq]; kernel_rfl
theorem c_law_far (n : Nat) (ds : List D) : cal g (n + 1) 31 ds = runB 5 x_law_far (cal g n) ds := by rw [cal_eq, cal_eq]; kernel_rfl
theorem c_law_least (n : Nat) (ds : List D) : cal g (n + 1) 32 ds = runB 4 x_law_least (cal g n) ds := by rw [cal_eq, cal_eq]; kernel_rfl
theorem c_law_from (n : Nat) (ds : List D) : cal g (n + 1) 33 ds = runB 4 x_law_from (cal g n) ds := by rw [cal_eq, cal_eq]; kernel_rfl
theorem c_law_numbers_right (n : Nat) (ds : List D) : cal g (n + 1) 34 ds = runB 7 x_law_numbers_right (cal g n) ds := by rw [cal_eq, cal_eq]; kernel_rfl
theorem c_law_ends_right (n : Nat) (ds : List D) : cal g (n + 1) 35 ds = runB 10 x_law_ends_right (cal g n) ds := by rw [cal_eq, cal_eq]; kernel_rfl
theorem c_law_right (n : Nat) (ds : List D) : cal g (n + 1) 36 ds = runB 6 x_law_right (cal g n) ds := by rw [cal_eq, cal_eq]; kernel_rfl
theorem c_law (n : Nat) (ds : List D) : cal g (n + 1) 37 ds = runB 2 x_law (cal g n) ds := by rw [cal_eq, cal_eq]; kernel_rfl
end K69

set_option Elab.async false
set_option linter.all false
set_option maxRecDepth 100000
set_option maxHeartbeats 0
namespace K69
open PySem PySem.Spec PyProof.Rows L2 Dn
abbrev hk : PySem.W.Hook := hookQ 6 (chkG g) (g.ents.map (·.d))
def ob (s : PySem.W.SharedT) : AlQ := obsQG 6 (chkG g) (g.ents.map (·.d)) (HandSHeadRun.getT s)
theorem ob_eq (s : PySem.W.SharedT) : ob s = hk.obs s.abs := obsQG_eq (HandSHeadRun.getT_eq s)
def lawIx : Nat := R.prog.main.body.length - 1
def loose : List Str := looseQ R.prog
theorem run (w : World) : HandSHeadRun.RunEq R (PySem.W.view R.prog [lawIx]) hk ob 4000 loose w := by
  intro os
  kernel_rfl
theorem hB : g.ents.all entB = true := by kernel_rfl
end K69
open PySem PySem.W PySem.Calls PyProof.Rows in
theorem K69.holds_of (n : Nat) (hn : n ≤ 60) (Run : ∀ ns : List Int, ns.length ≤ 63 → (∀ z ∈ ns, Builtin.Int.intBits z ≤ 1048576) → ∃ S, Dn.callN K69.g (n + 1) K69.k_law [.scr ns] [] = .ok (.bl true) S) : PySem.Challenge.rw_toldcounts_k69_whole_numbers_of_people.Holds := by
  w_on; o_law
  refine HandSHeadRun.head_any (r := OpenLaw.row PySem.Challenge.rw_toldcounts_k69_whole_numbers_of_people) (q := view (OpenLaw.row PySem.Challenge.rw_toldcounts_k69_whole_numbers_of_people).prog [K69.lawIx]) (H := K69.hk) (ob := K69.ob) (M := 4000) (loose := K69.loose) (d := HandSHeadRun.topDef (OpenLaw.row PySem.Challenge.rw_toldcounts_k69_whole_numbers_of_people).prog K69.lawIx) (kwd := []) K69.ob_eq
    (by kernel_rfl) (fun s => by kernel_rfl) K69.run (by kernel_rfl) (by kernel_rfl) (by kernel_rfl) (by rfl) (by first | assumption | decide +kernel) (by decide +kernel) ⟨rfl, rfl, rfl, rfl, rfl, by decide +kernel⟩ ?hw ?hc
  case hw => w_witness2
  case hc =>
    refine Dn.walk_dn (l := PySem.Challenge.rw_toldcounts_k69_whole_numbers_of_people) (n := 63) (k := 2 * (n + 1)) (x := "_law_script") (key := K69.k_law) (F := Dn.callN K69.g (n + 1)) rfl (by decide) (by kernel_rfl) ⟨⟨rfl, ?r1, ?r2⟩, rfl⟩ ?F Run
    case r1 =>
      show 301 + 3 * (2 * (n + 1)) + 5 < 1000
      omega
    case r2 =>
      show 4 + 16 * (2 * (n + 1)) + 200 < 9900
      omega
    intro w mg fa h Y G hmg0
    obtain ⟨K, KX, c⟩ := Y
    have hmg : mg ("law" : PySem.Str) = some (.ref fa) := by
      have e : (HandSHeadRun.topDef (OpenLaw.row PySem.Challenge.rw_toldcounts_k69_whole_numbers_of_people).prog K69.lawIx).name = ("law" : PySem.Str) := by kernel_rfl
      rw [← e]
      exact hmg0
    obtain ⟨fd, hb, hF⟩ := Dn.law_of (g := K69.g) (P := (PySem.Challenge.rw_toldcounts_k69_whole_numbers_of_people).prog) (w := w) (i := K69.k_law) (n := n) (e := ⟨Dn.findQ (.top "law") (Dn.defsQ K69.R.prog.main.body), ["_law_script"], ["_law_script", "_law_k"]⟩) (nm := "law") (x := "_law_script") KX G hmg c K69.hB (by kernel_rfl) (by kernel_rfl) (by kernel_rfl)
    exact ⟨K, fd, KX, hb, hF⟩

set_option Elab.async false
set_option linter.all false
set_option maxRecDepth 100000
set_option maxHeartbeats 1000000
/-! the plain law behind polls -/
namespace Poll
def near (u c p : Int) : Int := (2 * u * c + p).fdiv (2 * p)
def lo (u s p : Int) : Int := if 0 < s then -(((1 - 2 * s) * p).fdiv (2 * u)) else 0
def hi (u s p : Int) : Int := if ((2 * s + 1) * p - 1).fdiv (2 * u) < p then ((2 * s + 1) * p - 1).fdiv (2 * u) else p
theorem div_is {a b s : Int} (hb : 0 < b) : a / b = s ↔ b * s ≤ a ∧ a < b * s + b := by
  constructor
  · intro h
    subst h
    have h1 := Int.mul_ediv_add_emod a b
    have h2 := Int.emod_nonneg a (show b ≠ 0 by omega)
    have h3 := Int.emod_lt_of_pos a hb
    omega
  · intro ⟨h1, h2⟩
    have l1 : s ≤ a / b := (Int.le_ediv_iff_mul_le hb).mpr (by rw [Int.mul_comm]; exact h1)
    have l2 : a / b < s + 1 := (Int.ediv_lt_iff_lt_mul hb).mpr (by rw [Int.mul_comm, Int.mul_add, Int.mul_one]; exact h2)
    omega
theorem near_iff {u c p s : Int} (hu : u = 100 ∨ u = 1000) (hp : 1 ≤ p) (hs : 0 ≤ s) (hc : 0 ≤ c ∧ c ≤ p) : near u c p = s ↔ lo u s p ≤ c ∧ c ≤ hi u s p := by
  unfold near lo hi
  rw [Int.fdiv_eq_ediv_of_nonneg _ (by omega), Int.fdiv_eq_ediv_of_nonneg _ (by omega), Int.fdiv_eq_ediv_of_nonneg _ (by omega), div_is (by omega)]
  have e1 : (1 - 2 * s) * p = p - 2 * (p * s) := by rw [Int.sub_mul, Int.one_mul, Int.mul_assoc, Int.mul_comm s p]
  have e2 : (2 * s + 1) * p = 2 * (p * s) + p := by rw [Int.add_mul, Int.one_mul, Int.mul_assoc, Int.mul_comm s p]
  have e3 : 2 * p * s = 2 * (p * s) := Int.mul_assoc 2 p s
  have hz : s = 0 → p * s = 0 := fun h => by rw [h, Int.mul_zero]
  rw [e1, e2, e3]
  generalize hP : p * s = P at *
  rcases hu with rfl | rfl
  · by_cases h0 : 0 < s
    · rw [if_pos h0]; split <;> omega
    · have := hz (by omega)
      rw [if_neg h0]; split <;> omega
  · by_cases h0 : 0 < s
    · rw [if_pos h0]; split <;> omega
    · have := hz (by omega)
      rw [if_neg h0]; split <;> omega
theorem lo_nonneg {u s p : Int} (hu : u = 100 ∨ u = 1000) (hp : 1 ≤ p) (hs : 0 ≤ s) : 0 ≤ lo u s p := by
  unfold lo
  split
  · rw [Int.fdiv_eq_ediv_of_nonneg _ (by omega)]
    have e1 : (1 - 2 * s) * p = p - 2 * (p * s) := by rw [Int.sub_mul, Int.one_mul, Int.mul_assoc, Int.mul_comm s p]
    have h1 : p * 1 ≤ p * s := Int.mul_le_mul_of_nonneg_left (by omega) (by omega)
    rw [e1]
    rcases hu with rfl | rfl <;> omega
  · omega
theorem hi_le {u s p : Int} : hi u s p ≤ p := by
  unfold hi
  split <;> omega
/-! all ways to deal p to k + 1 places behind what is dealt already -/
def ext (p : Int) : Nat → List Int → List (List Int)
  | 0, own => [own ++ [p - own.sum]]
  | k + 1, own => (List.range (p - own.sum + 1).toNat).flatMap fun (i : Nat) => ext p k (own ++ [(i : Int)])
def pre (p : Int) : Nat → List (List Int)
  | 0 => [[]]
  | k + 1 => (pre p k).flatMap fun own => (List.range (p - own.sum + 1).toNat).map fun (i : Nat) => own ++ [(i : Int)]
theorem pre_ext (p : Int) : ∀ (k j : Nat), (pre p k).flatMap (ext p j) = ext p (k + j) []
  | 0, j => by simp [pre]
  | k + 1, j => by
    have ih := pre_ext p k (j + 1)
    have e : (pre p (k + 1)).flatMap (ext p j) = (pre p k).flatMap (ext p (j + 1)) := by
      show ((pre p k).flatMap fun own => (List.range (p - own.sum + 1).toNat).map fun (i : Nat) => own ++ [(i : Int)]).flatMap (ext p j) = _
      rw [List.flatMap_assoc]
      congr 1
      funext own
      rw [List.flatMap_map]
      rfl
    rw [e, ih]
    congr 1
    omega
/-! the first that fits -/
def allOk : List (Int × Int) → Bool
  | [] => true
  | (l, h) :: r => decide (l ≤ h) && allOk r
def sumL (es : List (Int × Int)) : Int := (es.map (·.1)).sum
def sumH (es : List (Int × Int)) : Int := (es.map (·.2)).sum
def feas (es : List (Int × Int)) (r : Int) : Bool := allOk es && (decide (sumL es ≤ r) && decide (r ≤ sumH es))
def greedy : List (Int × Int) → Int → List Int
  | [], _ => []
  | (l, _) :: es, r => (if r - sumH es > l then r - sumH es else l) :: greedy es (r - (if r - sumH es > l then r - sumH es else l))
def fits : List (Int × Int) → List Int → Bool
  | [], [] => true
  | (l, h) :: es, x :: xs => (decide (l ≤ x) && decide (x ≤ h)) && fits es xs
  | _, _ => false
theorem find_flat {α β : Type} {f : α → List β} {q : β → Bool} : ∀ {l : List α}, (l.flatMap f).find? q = l.findSome? fun a => (f a).find? q
  | [] => rfl
  | a :: l => by
    rw [List.flatMap_cons, List.find?_append, List.findSome?_cons]
    cases (f a).find? q with
    | some y => rfl
    | none => exact find_flat
/-- the first number below N that gives something -/
theorem findSome_range {β : Type} {f : Nat → Option β} : ∀ {N m : Nat} {y : β}, m < N → (∀ i, i < m → f i = none) → f m = some y → (List.range N).findSome? f = some y := by
  intro N m y hm hn hy
  obtain ⟨k, rfl⟩ : ∃ k, N = m + (k + 1) := ⟨N - m - 1, by omega⟩
  rw [List.range_add, List.findSome?_append, List.range_succ_eq_map]
  have h1 : (List.range m).findSome? f = none := by
    rw [List.findSome?_eq_none_iff]
    intro x hx
    exact hn x (List.mem_range.mp hx)
  rw [h1]
  simp [hy]
theorem findSome_none {β : Type} {f : Nat → Option β} {N : Nat} (h : ∀ i, i < N → f i = none) : (List.range N).findSome? f = none := by
  rw [List.findSome?_eq_none_iff]
  intro x hx
  exact h x (List.mem_range.mp hx)
theorem sumL_nonneg : ∀ {es : List (Int × Int)}, (∀ e ∈ es, 0 ≤ e.1) → 0 ≤ sumL es
  | [], _ => Int.le_refl 0
  | e :: es, h => by
    have h1 := h e List.mem_cons_self
    have h2 := sumL_nonneg (es := es) fun x hx => h x (List.mem_cons_of_mem _ hx)
    show 0 ≤ e.1 + sumL es
    omega
theorem sums_le : ∀ {es : List (Int × Int)}, allOk es = true → sumL es ≤ sumH es
  | [], _ => Int.le_refl 0
  | e :: es, h => by
    obtain ⟨h1, h2⟩ := (Bool.and_eq_true _ _).mp (show (decide (e.1 ≤ e.2) && allOk es) = true from h)
    have := sums_le h2
    have := of_decide_eq_true h1
    show e.1 + sumL es ≤ e.2 + sumH es
    omega
theorem ext_pre {p : Int} : ∀ {k : Nat} {own x : List Int}, x ∈ ext p k own → ∃ ys, x = own ++ ys
  | 0, own, x, h => ⟨[p - own.sum], by simpa [ext] using h⟩
  | k + 1, own, x, h => by
    obtain ⟨i, _, hi⟩ := List.mem_flatMap.mp (show x ∈ (List.range (p - own.sum + 1).toNat).flatMap fun (i : Nat) => ext p k (own ++ [(i : Int)]) from h)
    obtain ⟨ys, e⟩ := ext_pre hi
    exact ⟨(i : Int) :: ys, by rw [e, List.append_assoc]; rfl⟩
theorem feas_iff {es : List (Int × Int)} {r : Int} : feas es r = true ↔ allOk es = true ∧ sumL es ≤ r ∧ r ≤ sumH es := by
  unfold feas
  rw [Bool.and_eq_true, Bool.and_eq_true, decide_eq_true_eq, decide_eq_true_eq]
/-- the first way that fits, behind a beginning that fits -/
theorem find_ext {p : Int} {Q : List Int → Bool} : ∀ (es : List (Int × Int)) (own : List Int), es ≠ [] → (∀ e ∈ es, 0 ≤ e.1) → (∀ xs : List Int, Q (own ++ xs) = fits es xs) →
    (ext p (es.length - 1) own).find? Q = if feas es (p - own.sum) = true then some (own ++ greedy es (p - own.sum)) else none
  | [], _, h, _, _ => absurd rfl h
  | [(l, h)], own, _, h0, hQ => by
    show ([own ++ [p - own.sum]] : List (List Int)).find? Q = _
    rw [List.find?_cons, hQ]
    generalize p - own.sum = r
    have ef : feas [(l, h)] r = (decide (l ≤ r) && decide (r ≤ h)) := by
      show ((decide (l ≤ h) && true) && (decide (l + 0 ≤ r) && decide (r ≤ h + 0))) = _
      by_cases a : l ≤ r <;> by_cases b : r ≤ h <;> simp [a, b]
      omega
    have eg : greedy [(l, h)] r = [if r - 0 > l then r - 0 else l] := rfl
    rw [ef, eg]
    show (match (decide (l ≤ r) && decide (r ≤ h)) && true with | true => some (own ++ [r]) | false => none) = _
    by_cases a : l ≤ r
    · by_cases b : r ≤ h
      · simp only [a, b, decide_true, Bool.and_self, if_true]
        split
        · simp
        · have : l = r := by omega
          rw [this]
      · simp [a, b]
    · simp [a]
  | (l, h) :: e2 :: es, own, _, h0, hQ => by
    have hl0 : 0 ≤ l := h0 (l, h) List.mem_cons_self
    have hrest : ∀ e ∈ e2 :: es, 0 ≤ e.1 := fun e he => h0 e (List.mem_cons_of_mem _ he)
    have hsl := sumL_nonneg hrest
    show ((List.range (p - own.sum + 1).toNat).flatMap fun (i : Nat) => ext p ((e2 :: es).length - 1) (own ++ [(i : Int)])).find? Q = _
    rw [find_flat]
    have step : ∀ i : Nat, (ext p ((e2 :: es).length - 1) (own ++ [(i : Int)])).find? Q = if (decide (l ≤ (i : Int)) && decide ((i : Int) ≤ h)) = true ∧ feas (e2 :: es) (p - own.sum - i) = true then some (own ++ ((i : Int) :: greedy (e2 :: es) (p - own.sum - i))) else none := by
      intro i
      have es1 : p - (own ++ [(i : Int)]).sum = p - own.sum - i := by simp; omega
      by_cases hin : (decide (l ≤ (i : Int)) && decide ((i : Int) ≤ h)) = true
      · have := find_ext (p := p) (Q := Q) (e2 :: es) (own ++ [(i : Int)]) (fun z => nomatch z) hrest (fun xs => by
          rw [List.append_assoc, hQ]
          show ((decide (l ≤ (i : Int)) && decide ((i : Int) ≤ h)) && fits (e2 :: es) xs) = _
          rw [hin, Bool.true_and])
        rw [this, es1]
        by_cases hf : feas (e2 :: es) (p - own.sum - i) = true
        · rw [if_pos hf, if_pos ⟨hin, hf⟩, List.append_assoc]; rfl
        · rw [if_neg hf, if_neg fun z => hf z.2]
      · rw [if_neg fun z => hin z.1]
        rw [List.find?_eq_none]
        intro x hx
        obtain ⟨ys, rfl⟩ := ext_pre hx
        rw [List.append_assoc, hQ]
        show ¬ ((decide (l ≤ (i : Int)) && decide ((i : Int) ≤ h)) && fits (e2 :: es) ys) = true
        simp only [Bool.not_eq_true] at hin
        rw [hin]
        simp
    have hsum : allOk (e2 :: es) = true → sumL (e2 :: es) ≤ sumH (e2 :: es) := sums_le
    have tot : feas ((l, h) :: e2 :: es) (p - own.sum) = true ↔ l ≤ h ∧ allOk (e2 :: es) = true ∧ l + sumL (e2 :: es) ≤ p - own.sum ∧ p - own.sum ≤ h + sumH (e2 :: es) := by
      rw [feas_iff]
      constructor
      · rintro ⟨a, b, c⟩
        obtain ⟨a1, a2⟩ := (Bool.and_eq_true _ _).mp (show (decide (l ≤ h) && allOk (e2 :: es)) = true from a)
        exact ⟨of_decide_eq_true a1, a2, b, c⟩
      · rintro ⟨a1, a2, b, c⟩
        exact ⟨by show (decide (l ≤ h) && allOk (e2 :: es)) = true; rw [a2, decide_eq_true a1]; rfl, b, c⟩
    have eg : greedy ((l, h) :: e2 :: es) (p - own.sum) = (if (p - own.sum) - sumH (e2 :: es) > l then (p - own.sum) - sumH (e2 :: es) else l) :: greedy (e2 :: es) ((p - own.sum) - (if (p - own.sum) - sumH (e2 :: es) > l then (p - own.sum) - sumH (e2 :: es) else l)) := rfl
    rw [eg]
    generalize hr : p - own.sum = r at *
    generalize hm : (if r - sumH (e2 :: es) > l then r - sumH (e2 :: es) else l) = m at *
    have m0 : 0 ≤ m ∧ l ≤ m ∧ r - sumH (e2 :: es) ≤ m ∧ (m = l ∨ m = r - sumH (e2 :: es)) := by
      rw [← hm]
      split <;> omega
    by_cases hf : feas ((l, h) :: e2 :: es) r = true
    · rw [if_pos hf]
      obtain ⟨t1, t2, t3, t4⟩ := tot.mp hf
      have hs := hsum t2
      have em : ((m.toNat : Nat) : Int) = m := by omega
      refine findSome_range (m := m.toNat) (by omega) (fun i hi => ?_) ?_
      · rw [step, if_neg]
        rintro ⟨q1, q2⟩
        rw [Bool.and_eq_true, decide_eq_true_eq, decide_eq_true_eq] at q1
        obtain ⟨_, _, q3⟩ := feas_iff.mp q2
        omega
      · rw [step, em, if_pos]
        refine ⟨?_, feas_iff.mpr ⟨t2, by omega, by omega⟩⟩
        rw [Bool.and_eq_true, decide_eq_true_eq, decide_eq_true_eq]
        omega
    · rw [if_neg hf]
      refine findSome_none fun i hi => ?_
      rw [step, if_neg]
      rintro ⟨q1, q2⟩
      rw [Bool.and_eq_true, decide_eq_true_eq, decide_eq_true_eq] at q1
      obtain ⟨q3, q4, q5⟩ := feas_iff.mp q2
      exact hf (tot.mpr ⟨by omega, q3, by omega, by omega⟩)
end Poll

set_option Elab.async false
set_option linter.all false
set_option maxRecDepth 100000
set_option maxHeartbeats 1000000
/-! the plain law behind the numbers of people of polls -/
namespace Poll
def eds (u p : Int) (ss : List Int) : List (Int × Int) := ss.map fun s => (lo u s p, hi u s p)
def wl (s : Int) : Int := if 0 < s then 2 * s - 1 else 0
/-- twice the unit less the least sum; the greatest sum less twice the unit -/
def lowS (ss : List Int) : Int := (ss.map wl).sum
def topS (ss : List Int) : Int := (ss.map fun s => 2 * s + 1).sum
theorem lo_b {u s p : Int} (hu : 0 < u) (hs : 0 ≤ s) : wl s * p ≤ 2 * u * lo u s p ∧ 2 * u * lo u s p ≤ wl s * p + 2 * u - 1 := by
  unfold lo wl
  split
  · rw [Int.fdiv_eq_ediv_of_nonneg _ (by omega)]
    have h1 := Int.mul_ediv_add_emod ((1 - 2 * s) * p) (2 * u)
    have h2 := Int.emod_nonneg ((1 - 2 * s) * p) (show 2 * u ≠ 0 by omega)
    have h3 := Int.emod_lt_of_pos ((1 - 2 * s) * p) (show 0 < 2 * u by omega)
    have e1 : (1 - 2 * s) * p = -((2 * s - 1) * p) := by rw [← Int.neg_mul]; congr 1; omega
    have e2 : 2 * u * -((1 - 2 * s) * p / (2 * u)) = -(2 * u * ((1 - 2 * s) * p / (2 * u))) := Int.mul_neg _ _
    rw [e2]
    generalize 2 * u * ((1 - 2 * s) * p / (2 * u)) = A at *
    generalize (2 * s - 1) * p = B at *
    omega
  · rw [Int.zero_mul, Int.mul_zero]
    omega
theorem hi_b {u s p : Int} (hu : 0 < u) : (hi u s p = p ∨ (2 * s + 1) * p - 2 * u ≤ 2 * u * hi u s p) ∧ 2 * u * hi u s p ≤ (2 * s + 1) * p - 1 := by
  unfold hi
  rw [Int.fdiv_eq_ediv_of_nonneg _ (by omega)]
  have h1 := Int.mul_ediv_add_emod ((2 * s + 1) * p - 1) (2 * u)
  have h2 := Int.emod_nonneg ((2 * s + 1) * p - 1) (show 2 * u ≠ 0 by omega)
  have h3 := Int.emod_lt_of_pos ((2 * s + 1) * p - 1) (show 0 < 2 * u by omega)
  generalize ((2 * s + 1) * p - 1) / (2 * u) = q at *
  split
  · generalize 2 * u * q = A at *
    omega
  · rename_i hq
    refine ⟨.inl rfl, ?_⟩
    have : 2 * u * p ≤ 2 * u * q := Int.mul_le_mul_of_nonneg_left (by omega) (by omega)
    omega
/-- wide enough: the counts of one share are there -/
theorem lo_le_hi {u s p : Int} (hu : 0 < u) (hs : 0 ≤ s ∧ s ≤ u) (hp : 1 ≤ p) (h : u ≤ p ∨ 2 * u * lo u s p = wl s * p) : lo u s p ≤ hi u s p := by
  obtain ⟨a1, a2⟩ := lo_b (p := p) hu hs.1
  obtain ⟨b1, _⟩ := hi_b (s := s) (p := p) hu
  have hw : wl s * p ≤ 2 * u * p := Int.mul_le_mul_of_nonneg_right (by unfold wl; split <;> omega) (by omega)
  have key : ∀ x y : Int, 2 * u * x < 2 * u * y → x < y := fun x y h => Int.lt_of_mul_lt_mul_left h (by omega)
  have e1 : (2 * s + 1) * p = 2 * (s * p) + p := by rw [Int.add_mul, Int.one_mul, Int.mul_assoc]
  have e2 : wl s * p ≤ 2 * (s * p) - p ∨ (s = 0 ∧ wl s * p = 0 ∧ s * p = 0) := by
    unfold wl
    split
    · left; rw [Int.sub_mul, Int.one_mul, Int.mul_assoc]; omega
    · right; have : s = 0 := by omega
      subst this; simp
  have hlo : lo u s p ≤ p := by
    have : lo u s p < p + 1 := key _ _ (by rw [Int.mul_add]; generalize 2 * u * lo u s p = A at *; generalize 2 * u * p = B at *; omega)
    omega
  rcases b1 with b1 | b1
  · rw [b1]; exact hlo
  · by_cases hz : s = 0
    · subst hz
      have hl0 : lo u 0 p = 0 := by unfold lo; simp
      rw [hl0]
      have : (-1 : Int) < hi u 0 p := key _ _ (by rw [e1] at b1; generalize 2 * u * hi u 0 p = A at *; omega)
      omega
    · have : lo u s p < hi u s p + 1 := key _ _ (by
        rw [Int.mul_add]
        rw [e1] at b1
        generalize 2 * u * lo u s p = A at *
        generalize 2 * u * hi u s p = B at *
        generalize s * p = C at *
        generalize wl s * p = E at *
        omega)
      omega
theorem sumL_b {u p : Int} (hu : 0 < u) : ∀ {ss : List Int}, (∀ s ∈ ss, 0 ≤ s) → lowS ss * p ≤ 2 * u * sumL (eds u p ss) ∧ 2 * u * sumL (eds u p ss) ≤ lowS ss * p + (2 * u - 1) * ss.length
  | [], _ => by simp [lowS, eds, sumL]
  | s :: r, h => by
    obtain ⟨a1, a2⟩ := lo_b (p := p) hu (h s List.mem_cons_self)
    obtain ⟨i1, i2⟩ := sumL_b (p := p) hu (ss := r) fun x hx => h x (List.mem_cons_of_mem _ hx)
    have e1 : lowS (s :: r) * p = wl s * p + lowS r * p := by show (wl s + lowS r) * p = _; rw [Int.add_mul]
    have e2 : 2 * u * sumL (eds u p (s :: r)) = 2 * u * lo u s p + 2 * u * sumL (eds u p r) := by show 2 * u * (lo u s p + sumL (eds u p r)) = _; rw [Int.mul_add]
    have e3 : (2 * u - 1) * ((s :: r).length : Int) = (2 * u - 1) * (r.length : Int) + (2 * u - 1) := by rw [List.length_cons]; push_cast; rw [Int.mul_add, Int.mul_one]
    rw [e1, e2, e3]
    omega
theorem sumH_hi {u p : Int} (hu : 0 < u) : ∀ {ss : List Int}, 2 * u * sumH (eds u p ss) ≤ topS ss * p - ss.length
  | [] => by simp [topS, eds, sumH]
  | s :: r => by
    obtain ⟨_, a2⟩ := hi_b (s := s) (p := p) hu
    have i2 := sumH_hi (p := p) hu (ss := r)
    have e1 : topS (s :: r) * p = (2 * s + 1) * p + topS r * p := by show (2 * s + 1 + topS r) * p = _; rw [Int.add_mul]
    have e2 : 2 * u * sumH (eds u p (s :: r)) = 2 * u * hi u s p + 2 * u * sumH (eds u p r) := by show 2 * u * (hi u s p + sumH (eds u p r)) = _; rw [Int.mul_add]
    rw [e1, e2, List.length_cons]
    push_cast
    omega
theorem sumH_nonneg {u p : Int} (hu : 0 < u) (hp : 1 ≤ p) : ∀ {ss : List Int}, (∀ s ∈ ss, 0 ≤ s) → 0 ≤ sumH (eds u p ss) ∧ ∀ s ∈ ss, 0 ≤ hi u s p
  | [], _ => ⟨by simp [eds, sumH], fun s hs => (List.not_mem_nil hs).elim⟩
  | s :: r, h => by
    obtain ⟨i1, i2⟩ := sumH_nonneg hu hp (ss := r) fun x hx => h x (List.mem_cons_of_mem _ hx)
    have h0 : 0 ≤ hi u s p := by
      obtain ⟨b1, _⟩ := hi_b (s := s) (p := p) hu
      rcases b1 with b1 | b1
      · omega
      · have hsp : 0 ≤ s * p := Int.mul_nonneg (h s List.mem_cons_self) (by omega)
        have e1 : (2 * s + 1) * p = 2 * (s * p) + p := by rw [Int.add_mul, Int.one_mul, Int.mul_assoc]
        have : (-1 : Int) < hi u s p := Int.lt_of_mul_lt_mul_left (a := 2 * u) (by generalize 2 * u * hi u s p = A at *; omega) (by omega)
        omega
    refine ⟨by show 0 ≤ hi u s p + sumH (eds u p r); omega, fun x hx => ?_⟩
    rcases List.mem_cons.mp hx with q | q
    · rw [q]; exact h0
    · exact i2 x q
theorem sumH_lo {u p : Int} (hu : 0 < u) (hp : 1 ≤ p) : ∀ {ss : List Int}, (∀ s ∈ ss, 0 ≤ s) → p ≤ sumH (eds u p ss) ∨ topS ss * p - 2 * u * ss.length ≤ 2 * u * sumH (eds u p ss)
  | [], _ => by right; simp [topS, eds, sumH]
  | s :: r, h => by
    obtain ⟨a1, _⟩ := hi_b (s := s) (p := p) hu
    obtain ⟨n1, n2⟩ := sumH_nonneg hu hp (ss := s :: r) h
    obtain ⟨n3, _⟩ := sumH_nonneg hu hp (ss := r) fun x hx => h x (List.mem_cons_of_mem _ hx)
    have n4 := n2 s List.mem_cons_self
    have i2 := sumH_lo hu hp (ss := r) fun x hx => h x (List.mem_cons_of_mem _ hx)
    have e0 : sumH (eds u p (s :: r)) = hi u s p + sumH (eds u p r) := rfl
    have e1 : topS (s :: r) * p = (2 * s + 1) * p + topS r * p := by show (2 * s + 1 + topS r) * p = _; rw [Int.add_mul]
    have e2 : 2 * u * sumH (eds u p (s :: r)) = 2 * u * hi u s p + 2 * u * sumH (eds u p r) := by show 2 * u * (hi u s p + sumH (eds u p r)) = _; rw [Int.mul_add]
    have e3 : 2 * u * ((s :: r).length : Int) = 2 * u * (r.length : Int) + 2 * u := by rw [List.length_cons]; push_cast; rw [Int.mul_add, Int.mul_one]
    rcases a1 with a1 | a1
    · left; rw [e0]; omega
    · rcases i2 with i2 | i2
      · left; rw [e0]; omega
      · right; rw [e1, e2, e3]; omega
theorem allOk_of {es : List (Int × Int)} (h : ∀ e ∈ es, e.1 ≤ e.2) : allOk es = true := by
  induction es with
  | nil => rfl
  | cons e r ih =>
    show (decide (e.1 ≤ e.2) && allOk r) = true
    rw [ih fun x hx => h x (List.mem_cons_of_mem _ hx), decide_eq_true (h e List.mem_cons_self)]
    rfl
/-- far enough all fit -/
theorem fit_far {u p : Int} {ss : List Int} (hu : 0 < u) (hs : ∀ s ∈ ss, 0 ≤ s ∧ s ≤ u) (hp : u ≤ p) (h0 : 2 * u * ss.length ≤ (2 * u - lowS ss) * p) (h1 : 2 * u * ss.length ≤ (topS ss - 2 * u) * p) : feas (eds u p ss) p = true := by
  have hs0 : ∀ s ∈ ss, 0 ≤ s := fun s h => (hs s h).1
  rw [feas_iff]
  refine ⟨allOk_of fun e he => ?_, ?_, ?_⟩
  · obtain ⟨s, hm, rfl⟩ := List.mem_map.mp he
    exact lo_le_hi hu (hs s hm) (by omega) (.inl hp)
  · obtain ⟨_, a2⟩ := sumL_b (p := p) hu hs0
    rw [Int.sub_mul] at h0
    have e3 : (2 * u - 1) * (ss.length : Int) = 2 * u * (ss.length : Int) - ss.length := by rw [Int.sub_mul, Int.one_mul]
    refine Int.le_of_mul_le_mul_left (a := 2 * u) ?_ (by omega)
    omega
  · rcases sumH_lo hu (show 1 ≤ p by omega) hs0 with a | a
    · exact a
    · rw [Int.sub_mul] at h1
      refine Int.le_of_mul_le_mul_left (a := 2 * u) ?_ (by omega)
      omega
theorem unfit_top {u p : Int} {ss : List Int} (hu : 0 < u) (hp : 1 ≤ p) (hl : ss ≠ []) (h : topS ss ≤ 2 * u) : feas (eds u p ss) p = false := by
  rw [← Bool.not_eq_true, feas_iff]
  rintro ⟨_, _, h2⟩
  have a := sumH_hi (p := p) hu (ss := ss)
  have b : topS ss * p ≤ 2 * u * p := Int.mul_le_mul_of_nonneg_right h (by omega)
  have c : 2 * u * p ≤ 2 * u * sumH (eds u p ss) := Int.mul_le_mul_of_nonneg_left h2 (by omega)
  have d : 0 < ss.length := List.length_pos_iff.mpr hl
  omega
theorem unfit_low {u p : Int} {ss : List Int} (hu : 0 < u) (hp : 1 ≤ p) (hs : ∀ s ∈ ss, 0 ≤ s) (h : 2 * u < lowS ss) : feas (eds u p ss) p = false := by
  rw [← Bool.not_eq_true, feas_iff]
  rintro ⟨_, h2, _⟩
  have a := (sumL_b (p := p) hu hs).1
  have b : 2 * u * p < lowS ss * p := Int.mul_lt_mul_of_pos_right h (by omega)
  have c : 2 * u * sumL (eds u p ss) ≤ 2 * u * p := Int.mul_le_mul_of_nonneg_left h2 (by omega)
  omega
/-- just as much: each least count must be met -/
def Div (u : Int) (ss : List Int) (p : Int) : Prop := ∀ s ∈ ss, 2 * u ∣ wl s * p
theorem sum_exact {u p : Int} (hu : 0 < u) : ∀ {ss : List Int}, (∀ s ∈ ss, 0 ≤ s) → (2 * u * sumL (eds u p ss) = lowS ss * p ↔ ∀ s ∈ ss, 2 * u * lo u s p = wl s * p)
  | [], _ => by simp [eds, sumL, lowS]
  | s :: r, h => by
    have hr : ∀ x ∈ r, 0 ≤ x := fun x hx => h x (List.mem_cons_of_mem _ hx)
    obtain ⟨a1, _⟩ := lo_b (p := p) hu (h s List.mem_cons_self)
    obtain ⟨i1, _⟩ := sumL_b (p := p) hu hr
    have ih := sum_exact (p := p) hu hr
    have e1 : lowS (s :: r) * p = wl s * p + lowS r * p := by show (wl s + lowS r) * p = _; rw [Int.add_mul]
    have e2 : 2 * u * sumL (eds u p (s :: r)) = 2 * u * lo u s p + 2 * u * sumL (eds u p r) := by show 2 * u * (lo u s p + sumL (eds u p r)) = _; rw [Int.mul_add]
    rw [e1, e2]
    constructor
    · intro q x hx
      rcases List.mem_cons.mp hx with z | z
      · rw [z]; omega
      · exact ih.mp (by omega) x z
    · intro q
      have := ih.mpr fun x hx => q x (List.mem_cons_of_mem _ hx)
      have := q s List.mem_cons_self
      omega
theorem lo_exact {u s p : Int} (hu : 0 < u) (hs : 0 ≤ s) : 2 * u * lo u s p = wl s * p ↔ 2 * u ∣ wl s * p := by
  constructor
  · intro h; rw [← h]; exact Int.dvd_mul_right _ _
  · rintro ⟨k, hk⟩
    obtain ⟨a1, a2⟩ := lo_b (p := p) hu hs
    rw [hk] at a1 a2 ⊢
    have l1 : k ≤ lo u s p := Int.le_of_mul_le_mul_left a1 (by omega)
    have l2 : lo u s p < k + 1 := Int.lt_of_mul_lt_mul_left (a := 2 * u) (by rw [Int.mul_add]; omega) (by omega)
    congr 1
    omega
theorem fit_just {u p : Int} {ss : List Int} (hu : 0 < u) (hs : ∀ s ∈ ss, 0 ≤ s ∧ s ≤ u) (hp : 1 ≤ p) (h : lowS ss = 2 * u) : feas (eds u p ss) p = true ↔ Div u ss p := by
  have hs0 : ∀ s ∈ ss, 0 ≤ s := fun s q => (hs s q).1
  obtain ⟨a1, _⟩ := sumL_b (p := p) hu hs0
  have ex := sum_exact (p := p) hu hs0
  rw [feas_iff]
  constructor
  · rintro ⟨_, h2, _⟩ s hm
    have c : 2 * u * sumL (eds u p ss) ≤ 2 * u * p := Int.mul_le_mul_of_nonneg_left h2 (by omega)
    exact (lo_exact hu (hs0 s hm)).mp (ex.mp (by rw [h] at a1 ⊢; omega) s hm)
  · intro hd
    have hx : ∀ s ∈ ss, 2 * u * lo u s p = wl s * p := fun s hm => (lo_exact hu (hs0 s hm)).mpr (hd s hm)
    have hal : allOk (eds u p ss) = true := allOk_of fun e he => by
      obtain ⟨s, hm, rfl⟩ := List.mem_map.mp he
      exact lo_le_hi hu (hs s hm) hp (.inr (hx s hm))
    have hsum := ex.mpr hx
    rw [h] at hsum
    have : sumL (eds u p ss) = p := Int.eq_of_mul_eq_mul_left (a := 2 * u) (by omega) hsum
    have := sums_le hal
    exact ⟨hal, by omega, by omega⟩
theorem Div.unit (u : Int) (ss : List Int) : Div u ss (2 * u) := fun s _ => Int.dvd_mul_left _ _
theorem Div.mul {u p : Int} {ss : List Int} (h : Div u ss p) (k : Int) : Div u ss (k * p) := fun s hs => by
  rw [Int.mul_left_comm]
  exact Int.dvd_trans (h s hs) (Int.dvd_mul_left _ _)
theorem Div.sub {u p q : Int} {ss : List Int} (h : Div u ss p) (k : Div u ss q) : Div u ss (p - q) := fun s hs => by
  rw [Int.mul_sub]
  exact Int.dvd_sub (h s hs) (k s hs)
theorem Div.iff {u m p : Int} {ss : List Int} (hm : 1 ≤ m) (h : Div u ss m) (least : ∀ j, 1 ≤ j → j < m → ¬ Div u ss j) (hp : 1 ≤ p) : Div u ss p ↔ p % m = 0 := by
  have e := Int.mul_ediv_add_emod p m
  have h2 := Int.emod_nonneg p (show m ≠ 0 by omega)
  have h3 := Int.emod_lt_of_pos p (show 0 < m by omega)
  constructor
  · intro hd
    have hr : Div u ss (p % m) := by
      have : p % m = p - (p / m) * m := by rw [Int.mul_comm (p / m) m]; omega
      rw [this]
      exact hd.sub (h.mul _)
    apply Classical.byContradiction
    intro hne
    exact least (p % m) (by omega) h3 hr
  · intro hz
    have : p = (p / m) * m := by rw [Int.mul_comm (p / m) m]; omega
    rw [this]
    exact h.mul _
/-! the counts that have a share -/
theorem count_near {u p s : Int} {P : Nat} (hu : u = 100 ∨ u = 1000) (hP : p = (P : Int)) (hp : 1 ≤ p) (hs : 0 ≤ s) : ((List.range (P + 1)).map fun (c : Nat) => near u (c : Int) p).count s = (hi u s p - lo u s p + 1).toNat ∧
    (lo u s p ≤ hi u s p → ((List.range (P + 1)).map fun (c : Nat) => near u (c : Int) p).idxOf? s = some (lo u s p).toNat) := by
  have hl := lo_nonneg hu hp hs
  have hh : hi u s p ≤ p := hi_le
  have key : ∀ c : Nat, c < P + 1 → (near u (c : Int) p = s ↔ lo u s p ≤ (c : Int) ∧ (c : Int) ≤ hi u s p) := fun c hc => near_iff hu hp hs (by omega)
  constructor
  · rw [List.count_eq_countP, List.countP_map, List.countP_eq_length_filter]
    have e1 : (List.range (P + 1)).filter ((fun x => x == s) ∘ fun (c : Nat) => near u (c : Int) p) = (List.range (P + 1)).filter (fun (c : Nat) => decide (lo u s p ≤ (c : Int)) && decide ((c : Int) ≤ hi u s p)) := by
      apply List.filter_congr
      intro c hc
      have := key c (List.mem_range.mp hc)
      show (near u (c : Int) p == s) = _
      rw [Bool.eq_iff_iff, beq_iff_eq, this, Bool.and_eq_true, decide_eq_true_eq, decide_eq_true_eq]
    rw [e1]
    generalize lo u s p = a at *
    generalize hi u s p = b at *
    clear key e1 hs hu
    have main : ∀ N : Nat, ((List.range N).filter (fun (c : Nat) => decide (a ≤ (c : Int)) && decide ((c : Int) ≤ b))).length = (min (b + 1) N - a).toNat := by
      intro N
      induction N with
      | zero => simp; omega
      | succ N ih =>
        rw [List.range_succ, List.filter_append, List.length_append, ih]
        by_cases q : a ≤ (N : Int) ∧ (N : Int) ≤ b
        · rw [List.filter_cons_of_pos (by simp [q.1, q.2])]
          simp only [List.filter_nil, List.length_singleton]
          omega
        · rw [List.filter_cons_of_neg (by simp only [Bool.and_eq_true, decide_eq_true_eq]; exact q)]
          simp only [List.filter_nil, List.length_nil]
          omega
    rw [main]
    omega
  · intro hle
    rw [List.idxOf?, List.findIdx?_map]
    rw [List.findIdx?_eq_some_iff_getElem]
    refine ⟨by rw [List.length_range]; omega, ?_, ?_⟩
    · show (near u (((List.range (P + 1))[(lo u s p).toNat]'_ : Nat) : Int) p == s) = true
      rw [List.getElem_range, beq_iff_eq, key _ (by omega)]
      omega
    · intro j hj
      show ¬ (near u (((List.range (P + 1))[j]'_ : Nat) : Int) p == s) = true
      rw [List.getElem_range, beq_iff_eq, key _ (by omega)]
      omega
end Poll

set_option Elab.async false
set_option linter.all false
set_option maxRecDepth 100000
set_option maxHeartbeats 400000
namespace Dn
open PySem PySem.Spec PyProof.Rows L2
/-! ### readings opened where they are applied -/
section
variable {α β : Type} {F : Fns} {e : Dn.Env} {S : Sto} {ev : E2} {evf : Fns → E2} {e1 e2 : E2} {a b c : XE} {t s : XT} {u v : XS} {xs : XEs} {ds : List D} {f : Nat} {n : Nat}
theorem a_bind {m : M α} {k : α → M β} : M.bind m k S = (match m S with
  | .ok a S' => k a S'
  | .exc c fs S' => .exc c fs S'
  | .bad => .bad) := rfl
theorem a_pure {x : α} : (M.pure x : M α) S = .ok x S := rfl
theorem a_stuck : (stuck : M α) S = .bad := rfl
theorem a_noX {m : M D} : noX m S = (match m S with
  | .exc _ _ _ => .bad
  | r => r) := rfl
theorem a_runB {k : Nat} {body : XS} : runB k body F ds S = (match body F (ds.map some ++ List.replicate (k - ds.length) none) S with
  | .rt d S' => .ok d S'
  | .nx _ S' => .ok .non S'
  | .exc c fs _ S' => .exc c fs S'
  | _ => .bad) := rfl
theorem a_sSeq : sSeq u v F e S = (match u F e S with
  | .nx e1 S1 => v F e1 S1
  | r => r) := rfl
theorem a_eS {m : M α} {k : α → Sto → RS} : eS m e k S = (match m S with
  | .ok a S' => k a S'
  | .exc c fs S' => .exc c fs e S'
  | .bad => .bad) := rfl
theorem a_sIf : sIf t u v F e S = eS (t F e) e (fun b S => if b = true then u F e S else v F e S) S := rfl
theorem a_sRet : sRet a F e S = eS (a F e) e (fun d S => .rt d S) S := rfl
theorem a_sRetN : sRetN F e S = .rt .non S := rfl
theorem a_sSet {i : Nat} : sSet i a F e S = eS (a F e) e (fun d S => .nx (e.set i (some d)) S) S := rfl
theorem a_sPar {is : List Nat} : sPar is xs F e S = eS (xs F e) e (fun ds S => if ds.length = is.length then .nx ((is.zip ds).foldl (fun e p => e.set p.1 (some p.2)) e) S else .bad) S := rfl
theorem a_sAsg {g : XG} : sAsg a g F e S = eS (a F e) e (fun d S => match g F e d S with
  | .ok e' S' => .nx e' S'
  | _ => .bad) S := rfl
theorem a_sEx : sEx a F e S = eS (a F e) e (fun _ S => .nx e S) S := rfl
theorem a_sNil : sNil F e S = .nx e S := rfl
theorem a_xVar {i : Nat} : xVar i F e = (match e[i]? with
  | some (some d) => M.pure d
  | _ => stuck) := rfl
theorem a_xC {d : D} : xC d F e = M.pure d := rfl
theorem a_x2 : x2 ev a b F e = (a F e).bind fun d1 => (b F e).bind fun d2 => noX (ev d1 d2) := rfl
theorem a_x2F : x2F evf a b F e = (a F e).bind fun d1 => (b F e).bind fun d2 => noX (evf F d1 d2) := rfl
theorem a_x1 {ev : D → M D} : x1 ev a F e = (a F e).bind fun d => noX (ev d) := rfl
theorem a_xIf : xIf t a b F e = (t F e).bind fun k => if k = true then a F e else b F e := rfl
theorem a_xAn : xAn a b F e = (a F e).bind fun d => (truD d).bind fun k => if k = true then b F e else M.pure d := rfl
theorem a_xOo : xOo a b F e = (a F e).bind fun d => (truD d).bind fun k => if k = true then M.pure d else b F e := rfl
theorem a_xNo : xNo a F e = (a F e).bind fun d => (truD d).bind fun k => M.pure (.bl (!k)) := rfl
theorem a_xTru : xTru a F e = (a F e).bind truD := rfl
theorem a_xBl : xBl a F e = (a F e).bind toBl := rfl
theorem a_tNo : tNo t F e = (t F e).bind fun k => M.pure (!k) := rfl
theorem a_tAn : tAn t s F e = (t F e).bind fun k => if k = true then s F e else M.pure false := rfl
theorem a_tOo : tOo t s F e = (t F e).bind fun k => if k = true then M.pure true else s F e := rfl
theorem a_xCons : xCons a xs F e = (a F e).bind fun d => (xs F e).bind fun ds => M.pure (d :: ds) := rfl
theorem a_xNil : xNil F e = M.pure [] := rfl
theorem a_xTup : xTup xs F e = (xs F e).bind fun ds => if ds.length ≤ line then M.pure (.tup ds) else stuck := rfl
theorem a_xMk {al : Bool} : xMk al xs F e = (xs F e).bind (mkL al) := rfl
theorem a_xP {ev : List D → M D} : xP ev xs F e = (xs F e).bind fun ds => noX (ev ds) := rfl
theorem a_xCall : xCall f n xs F e = (xs F e).bind fun ds => if ds.length = n then F f ds else stuck := rfl
theorem a_xCallK {k : List D → List D} : xCallK f n k xs F e = (xs F e).bind fun ds => if ds.length = n then F f (k ds) else stuck := rfl
theorem a_x3 : x3 e1 e2 a b c F e = (a F e).bind fun d1 => (b F e).bind fun d2 => (noX (e1 d1 d2)).bind fun k => match k with
  | .bl true => (c F e).bind fun d3 => noX (e2 d2 d3)
  | .bl false => M.pure (.bl false)
  | _ => stuck := rfl
theorem a_ev1 {k : D → M D} {d : D} : ev1 k [d] = k d := rfl
theorem a_ev2 {k : D → D → M D} {d d' : D} : ev2 k [d, d'] = k d d' := rfl
theorem a_truB {k : Bool} : truD (.bl k) S = .ok k S := rfl
theorem a_truI {k : Int} : truD (.int k) S = .ok (k != 0) S := rfl
theorem a_toBl {k : Bool} : toBl (.bl k) = M.pure k := rfl
theorem a_add {i j : Int} {al : Bool} : evAddA al (.int i) (.int j) = M.pure (.int (i + j)) := rfl
theorem a_sub {i j : Int} : evSub (.int i) (.int j) = M.pure (.int (i - j)) := rfl
theorem a_mul {i j : Int} {al : Bool} : evMulA al (.int i) (.int j) = (if mulB i j = true then M.pure (.int (i * j)) else stuck) := rfl
theorem a_div {i j : Int} : evDiv (.int i) (.int j) = (if divB j = true then M.pure (.int (i.fdiv j)) else stuck) := rfl
theorem a_mod {i j : Int} : evMod (.int i) (.int j) = (if j ≠ 0 then M.pure (.int (i.fmod j)) else stuck) := rfl
theorem a_pow {i j : Int} : evPow (.int i) (.int j) = (if powB i j = true then M.pure (.int (i ^ j.toNat)) else stuck) := rfl
theorem a_neg {i : Int} : evNeg (.int i) = M.pure (.int (-i)) := rfl
theorem a_lt {i j : Int} : evLt (.int i) (.int j) = M.pure (.bl (decide (i < j))) := rfl
theorem a_le {i j : Int} : evLe (.int i) (.int j) = M.pure (.bl (decide (i ≤ j))) := rfl
theorem a_gt {i j : Int} : evGt (.int i) (.int j) = M.pure (.bl (decide (j < i))) := rfl
theorem a_ge {i j : Int} : evGe (.int i) (.int j) = M.pure (.bl (decide (j ≤ i))) := rfl
theorem a_int {i : Int} : pInt (.int i) = M.pure (.int i) := rfl
theorem a_abs {i : Int} : pAbs (.int i) = M.pure (.int (if i < 0 then -i else i)) := rfl
theorem a_min {i j : Int} : pMinU [.int i, .int j] S = .ok (.int (if j < i then j else i)) S := rfl
theorem a_max {i j : Int} : pMaxU [.int i, .int j] S = .ok (.int (if j > i then j else i)) S := rfl
end
end Dn

set_option Elab.async false
set_option linter.all false
set_option maxRecDepth 100000
set_option maxHeartbeats 400000
namespace Dn
open PySem PySem.Spec PyProof.Rows L2
/-! ### data as they are shown and compared -/
mutual
def plainS : PyData → Bool
  | .none => true
  | .bool _ => true
  | .int i => decide (i.natAbs < 2 ^ 150)
  | .list xs => plainSL xs
  | .tuple xs => plainSL xs
  | _ => false
def plainSL : List PyData → Bool
  | [] => true
  | x :: xs => plainS x && plainSL xs
end
mutual
def szS : PyData → Nat
  | .none => 4
  | .bool _ => 5
  | .int _ => 152
  | .list xs => 2 + szSL xs
  | .tuple xs => 3 + szSL xs
  | _ => 0
def szSL : List PyData → Nat
  | [] => 0
  | x :: xs => szS x + 2 + szSL xs
end
def sumLen : List Str → Nat
  | [] => 0
  | t :: r => t.length + 2 + sumLen r
theorem textFrom_le : ∀ (ts : List Str) (k : Nat) (acc : Str), (textFrom k acc ts).length ≤ acc.length + sumLen ts
  | [], k, acc => by show acc.length ≤ _; simp [sumLen]
  | t :: r, k, acc => by
    have h := textFrom_le r (k + 1) (acc ++ (if k > 0 then ", " else "" : String) ++ t)
    have e : (acc ++ (if k > 0 then ", " else "" : String) ++ t).length ≤ acc.length + 2 + t.length := by
      rw [Str.length_append, Str.length_append]
      split
      · have : ((", " : String) : Str).length = 2 := rfl
        omega
      · have : (("" : String) : Str).length = 0 := rfl
        omega
    show (textFrom (k + 1) (acc ++ (if k > 0 then ", " else "" : String) ++ t) r).length ≤ acc.length + (t.length + 2 + sumLen r)
    omega
theorem join_le : ∀ ts : List Str, (Str.join ", " ts).length ≤ sumLen ts
  | [] => Nat.zero_le _
  | [x] => by show x.length ≤ x.length + 2 + 0; omega
  | x :: y :: r => by
    have h := join_le (y :: r)
    show (x ++ ", " ++ Str.join ", " (y :: r)).length ≤ x.length + 2 + sumLen (y :: r)
    rw [Str.length_append, Str.length_append]
    have : ((", " : String) : Str).length = 2 := rfl
    omega
theorem intT_len150 {i : Int} (h : i.natAbs < 2 ^ 150) : (Str.ofString (toString i)).length ≤ 152 := by
  have hl : i.natAbs.log2 < 150 := by
    by_cases h0 : i.natAbs = 0
    · rw [h0]; decide
    · exact (Nat.log2_lt h0 (k := 150)).mpr h
  have := PySem.int_text_length_le (k := 150) (by decide) hl
  rw [PySem.ofString_length]
  omega
mutual
theorem shown_len : ∀ {x : PyData}, plainS x = true → x.shown.length ≤ szS x ∧ x.showable = true ∧ x.hasDict = false
  | .none, _ => ⟨by show ("None" : Str).length ≤ 4; decide, by simp [PyData.showable], by simp [PyData.hasDict]⟩
  | .bool b, _ => ⟨by
      simp only [PyData.shown, szS]
      cases b
      · show ("False" : Str).length ≤ 5; decide
      · show ("True" : Str).length ≤ 5; decide, by simp [PyData.showable], by simp [PyData.hasDict]⟩
  | .int i, h => by
    have h : i.natAbs < 2 ^ 150 := by simpa [plainS] using h
    refine ⟨?_, ?_, by simp [PyData.hasDict]⟩
    · simp only [PyData.shown, szS]
      exact intT_len150 h
    · simp only [PyData.showable, decide_eq_true_eq]
      by_cases h0 : i.natAbs = 0
      · rw [h0]; decide
      · have := (Nat.log2_lt h0 (k := 150)).mpr h
        omega
  | .list xs, h => by
    obtain ⟨h1, h2, h3⟩ := shown_lenL (xs := xs) (by simpa [plainS] using h)
    refine ⟨?_, by simpa [PyData.showable] using h2, by simpa [PyData.hasDict] using h3⟩
    simp only [PyData.shown, szS]
    have := textFrom_le (PyData.shownAll xs) 0 "["
    show (textFrom 0 "[" (PyData.shownAll xs) ++ "]").length ≤ _
    rw [Str.length_append]
    have e1 : (("[" : String) : Str).length = 1 := rfl
    have e2 : (("]" : String) : Str).length = 1 := rfl
    omega
  | .tuple xs, h => by
    obtain ⟨h1, h2, h3⟩ := shown_lenL (xs := xs) (by simpa [plainS] using h)
    refine ⟨?_, by simpa [PyData.showable] using h2, by simpa [PyData.hasDict] using h3⟩
    simp only [PyData.shown, szS]
    have := join_le (PyData.shownAll xs)
    show (("(" : Str) ++ Str.join ", " (PyData.shownAll xs) ++ (if (PyData.shownAll xs).length == 1 then ",)" else ")" : String)).length ≤ _
    rw [Str.length_append, Str.length_append]
    have e1 : (("(" : String) : Str).length = 1 := rfl
    split
    · have e2 : ((",)" : String) : Str).length = 2 := rfl
      omega
    · have e2 : ((")" : String) : Str).length = 1 := rfl
      omega
  | .str _, h => by simp [plainS] at h
  | .dict _, h => by simp [plainS] at h
theorem shown_lenL : ∀ {xs : List PyData}, plainSL xs = true → sumLen (PyData.shownAll xs) ≤ szSL xs ∧ PyData.showableAll xs = true ∧ PyData.hasDictAll xs = false
  | [], _ => ⟨by simp [PyData.shownAll, sumLen, szSL], by simp [PyData.showableAll], by simp [PyData.hasDictAll]⟩
  | x :: xs, h => by
    have h : plainS x = true ∧ plainSL xs = true := by simpa [plainSL] using h
    obtain ⟨a1, a2, a3⟩ := shown_len h.1
    obtain ⟨b1, b2, b3⟩ := shown_lenL h.2
    refine ⟨?_, by simp [PyData.showableAll, a2, b2], by simp [PyData.hasDictAll, a3, b3]⟩
    simp only [PyData.shownAll, szSL]
    show (x.shown).length + 2 + sumLen (PyData.shownAll xs) ≤ _
    omega
end
theorem pRepr_ok {d : D} {x : PyData} {S : Sto} (h : dat S 60 d = some x) (hr : isRefD d = true) (hp : plainS x = true) (hd : x.depth ≤ 60) (hz : szS x ≤ 1000000) : pRepr d S = .ok (.str x.shown) S := by
  obtain ⟨h1, h2, h3⟩ := shown_len hp
  unfold pRepr
  rw [h]
  dsimp only
  rw [if_pos]
  refine ⟨?_, hr⟩
  rw [h2, h3, decide_eq_true hd, decide_eq_true (by unfold line; omega)]
  rfl
theorem optAll_map {α β γ : Type} {f : β → Option γ} {k : α → β} {h : α → γ} : ∀ {l : List α}, (∀ a ∈ l, f (k a) = some (h a)) → optAll f (l.map k) = some (l.map h)
  | [], _ => rfl
  | a :: l, e => by
    show ((f (k a)).bind fun b => (optAll f (l.map k)).map (b :: ·)) = _
    rw [e a List.mem_cons_self, optAll_map fun x hx => e x (List.mem_cons_of_mem _ hx)]
    rfl
theorem dat_tup (S : Sto) (n : Nat) (l : List Int) : dat S (n + 2) (.tup (l.map .int)) = some (.tuple (l.map .int)) := by
  show (optAll (dat S (n + 1)) (l.map D.int)).map PyData.tuple = _
  rw [optAll_map (f := dat S (n + 1)) (k := D.int) (h := PyData.int) (l := l) fun a _ => rfl]
  rfl
theorem eqvAll_ints : ∀ (a b : List Int), PyData.eqvAll (a.map .int) (b.map .int) = decide (a = b)
  | [], [] => by simp [PyData.eqvAll]
  | [], b :: bs => by simp [PyData.eqvAll]
  | a :: as, [] => by simp [PyData.eqvAll]
  | a :: as, b :: bs => by
    rw [List.map_cons, List.map_cons]
    simp only [PyData.eqvAll, PyData.eqv]
    rw [eqvAll_ints as bs]
    by_cases h1 : a = b <;> by_cases h2 : as = bs <;> simp [h1, h2]
theorem lay_ints : ∀ l : List Int, PyData.canLayAll0 (l.map .int) = true
  | [] => by simp [PyData.canLayAll0]
  | a :: l => by simp [PyData.canLayAll0, PyData.canLay0, lay_ints l]
theorem depth_ints : ∀ l : List Int, PyData.depthAll (l.map .int) ≤ 1
  | [] => by simp [PyData.depthAll]
  | a :: l => by
    have := depth_ints l
    simp only [List.map_cons, PyData.depthAll, PyData.depth]
    omega
theorem shaped_tup (l : List Int) : SeqAt.shaped (.tuple (l.map .int)) = true := by
  have h := depth_ints l
  show ((PyData.tuple (l.map .int)).canLay0 && decide ((PyData.tuple (l.map .int)).depth ≤ 64)) = true
  rw [Bool.and_eq_true]
  refine ⟨by simp only [PyData.canLay0]; exact lay_ints l, decide_eq_true ?_⟩
  simp only [PyData.depth]
  omega
theorem eqD_tup (S : Sto) (a b : List Int) : eqD S (.tup (a.map .int)) (.tup (b.map .int)) = some (decide (a = b)) := by
  show eqD0 S (.tup (a.map .int)) (.tup (b.map .int)) = _
  unfold eqD0
  rw [dat_tup S 58 a, dat_tup S 58 b]
  dsimp only
  rw [shaped_tup, shaped_tup]
  simp only [Bool.and_self, if_true, PyData.eqv, eqvAll_ints]
/-- a list of tuples of ints against the empty list -/
theorem eqD_empty (S : Sto) (L : List (List Int)) : eqD S (.tmp (L.map fun l => .tup (l.map .int))) (.tmp []) = some L.isEmpty := by
  have hd : dat S 60 (.tmp (L.map fun l => D.tup (l.map .int))) = some (.list (L.map fun l => PyData.tuple (l.map .int))) := by
    show (optAll (dat S 59) (L.map fun l => D.tup (l.map .int))).map PyData.list = _
    rw [optAll_map (h := fun l => PyData.tuple (l.map .int)) fun a _ => dat_tup S 57 a]
    rfl
  have hl : ∀ L : List (List Int), PyData.canLayAll0 (L.map fun l => PyData.tuple (l.map .int)) = true ∧ PyData.depthAll (L.map fun l => PyData.tuple (l.map .int)) ≤ 3 := by
    intro L
    induction L with
    | nil => simp [PyData.canLayAll0, PyData.depthAll]
    | cons a r ih =>
      have h1 := depth_ints a
      refine ⟨by simp [PyData.canLayAll0, PyData.canLay0, lay_ints a, ih.1], ?_⟩
      simp only [List.map_cons, PyData.depthAll, PyData.depth]
      have := ih.2
      omega
  have hs : SeqAt.shaped (.list (L.map fun l => PyData.tuple (l.map .int))) = true := by
    show ((PyData.list (L.map fun l => PyData.tuple (l.map .int))).canLay0 && decide ((PyData.list (L.map fun l => PyData.tuple (l.map .int))).depth ≤ 64)) = true
    rw [Bool.and_eq_true]
    refine ⟨by simp only [PyData.canLay0]; exact (hl L).1, decide_eq_true ?_⟩
    have := (hl L).2
    simp only [PyData.depth]
    omega
  have he : SeqAt.shaped (.list []) = true := by simp [SeqAt.shaped, PyData.canLay0, PyData.canLayAll0, PyData.depth, PyData.depthAll]
  show eqD0 S _ _ = _
  unfold eqD0
  rw [hd, show dat S 60 (.tmp []) = some (.list []) from rfl]
  dsimp only
  rw [hs, he]
  simp only [Bool.and_self, if_true, PyData.eqv]
  cases L with
  | nil => simp [PyData.eqvAll]
  | cons a r => simp [PyData.eqvAll]
end Dn

set_option Elab.async false
set_option linter.all false
set_option maxRecDepth 100000
set_option maxHeartbeats 400000
namespace Dn
open PySem PySem.Spec PyProof.Rows L2
/-! ### readings in frames: a result, then what follows -/
def Ho {α : Type} (r : α) (Q : α → Prop) : Prop := Q r
def Res.bd {α β : Type} (r : Res α) (k : α → Sto → Res β) : Res β := match r with
  | .ok a S => k a S
  | .exc c fs S => .exc c fs S
  | .bad => .bad
def Res.es {α : Type} (r : Res α) (e : Dn.Env) (k : α → Sto → RS) : RS := match r with
  | .ok a S => k a S
  | .exc c fs S => .exc c fs e S
  | .bad => .bad
def Res.nex (r : Res D) : Res D := match r with
  | .exc _ _ _ => .bad
  | r => r
def Res.st {α : Type} (r : Res α) (k : α → Sto → RS) : RS := match r with
  | .ok a S => k a S
  | _ => .bad
def RS.sq (r : RS) (k : Dn.Env → Sto → RS) : RS := match r with
  | .nx e S => k e S
  | r => r
def RS.out (r : RS) : Res D := match r with
  | .rt d S => .ok d S
  | .nx _ S => .ok .non S
  | .exc c fs _ S => .exc c fs S
  | _ => .bad
/-- it ends well -/
def OkP {α : Type} (R : α → Sto → Prop) : Res α → Prop := fun r => match r with
  | .ok a S => R a S
  | _ => False
/-- just this, and nothing changed -/
def Is {α : Type} (d : α) (S : Sto) : α → Sto → Prop := fun x S' => x = d ∧ S' = S
theorem is_eq {α : Type} {r : Res α} {d : α} {S : Sto} (h : Ho r (OkP (Is d S))) : r = .ok d S := by
  cases r with
  | ok a S' => rw [show a = d from h.1, show S' = S from h.2]
  | _ => exact h.elim
theorem is_refl {α : Type} {d : α} {S : Sto} : Is d S d S := ⟨rfl, rfl⟩
def OutP (Q : Res D → Prop) : RS → Prop := fun r => Q r.out
/-- what a body of a loop leaves -/
def LP (N B : Dn.Env → Sto → Prop) (P : RS → Prop) : RS → Prop := fun r => match r with
  | .nx e S => N e S
  | .ct e S => N e S
  | .bk e S => B e S
  | r => P r
section
variable {α β γ : Type} {F : Fns} {e : Dn.Env} {S S' : Sto} {ev : E2} {evf : Fns → E2} {e1 e2 : E2} {a b c : XE} {t s : XT} {u v : XS} {xs : XEs} {ds : List D} {f : Nat} {n : Nat}
theorem f_bind {m : M α} {k : α → M β} : M.bind m k S = (m S).bd k := by unfold M.bind Res.bd; cases m S <;> rfl
theorem f_noX {m : M D} : noX m S = (m S).nex := by unfold noX Res.nex; cases m S <;> rfl
theorem f_sSeq : sSeq u v F e S = (u F e S).sq (v F) := by unfold sSeq RS.sq; cases u F e S <;> rfl
theorem f_eS {m : M α} {k : α → Sto → RS} : eS m e k S = (m S).es e k := by unfold eS Res.es; cases m S <;> rfl
theorem f_sIf : sIf t u v F e S = (t F e S).es e (fun b S => if b = true then u F e S else v F e S) := f_eS
theorem f_sRet : sRet a F e S = (a F e S).es e (fun d S => .rt d S) := f_eS
theorem f_sSet {i : Nat} : sSet i a F e S = (a F e S).es e (fun d S => .nx (e.set i (some d)) S) := f_eS
theorem f_sPar {is : List Nat} : sPar is xs F e S = (xs F e S).es e (fun ds S => if ds.length = is.length then .nx ((is.zip ds).foldl (fun e p => e.set p.1 (some p.2)) e) S else .bad) := f_eS
theorem f_sAsg {g : XG} : sAsg a g F e S = (a F e S).es e (fun d S => (g F e d S).st fun e' S' => .nx e' S') := by
  show eS _ _ _ _ = _
  rw [f_eS]
  congr 1
  funext d S
  unfold Res.st
  cases g F e d S <;> rfl
theorem f_sEx : sEx a F e S = (a F e S).es e (fun _ S => .nx e S) := f_eS
theorem f_sFor {it : XI} {g : XG} : sFor it g u F e S = (it F e S).es e (fun ig S => loopF F u g ig.2 ig.1 e S) := f_eS
theorem f_sFldP {cs : List Str} {f : Str} : sFldP cs f a b F e S = ((b F e S).bd fun d S => (a F e S).bd fun r S => evPutF cs f r d S).es e (fun _ S => .nx e S) := by
  show eS _ _ _ _ = _
  rw [f_eS, f_bind]
  congr 2
theorem f_x2 : x2 ev a b F e S = (a F e S).bd fun d1 S => (b F e S).bd fun d2 S => (ev d1 d2 S).nex := by
  show M.bind _ _ _ = _
  rw [f_bind]; congr 1
theorem f_x2F : x2F evf a b F e S = (a F e S).bd fun d1 S => (b F e S).bd fun d2 S => (evf F d1 d2 S).nex := by
  show M.bind _ _ _ = _
  rw [f_bind]; congr 1
theorem f_x1 {ev : D → M D} : x1 ev a F e S = (a F e S).bd fun d S => (ev d S).nex := by
  show M.bind _ _ _ = _
  rw [f_bind]; congr 1
theorem f_xIf : xIf t a b F e S = (t F e S).bd fun k S => if k = true then a F e S else b F e S := by
  show M.bind _ _ _ = _
  rw [f_bind]; congr 1; funext d S; split <;> rfl
theorem f_xAn : xAn a b F e S = (a F e S).bd fun d S => (truD d S).bd fun k S => if k = true then b F e S else .ok d S := by
  show M.bind _ _ _ = _
  rw [f_bind]; congr 1; funext d S; rw [f_bind]; congr 1; funext k S; split <;> rfl
theorem f_xOo : xOo a b F e S = (a F e S).bd fun d S => (truD d S).bd fun k S => if k = true then .ok d S else b F e S := by
  show M.bind _ _ _ = _
  rw [f_bind]; congr 1; funext d S; rw [f_bind]; congr 1; funext k S; split <;> rfl
theorem f_xNo : xNo a F e S = (a F e S).bd fun d S => (truD d S).bd fun k S => .ok (.bl (!k)) S := by
  show M.bind _ _ _ = _
  rw [f_bind]; congr 1
theorem f_xTru : xTru a F e S = (a F e S).bd truD := by show M.bind _ _ _ = _; rw [f_bind]
theorem f_xBl : xBl a F e S = (a F e S).bd fun d S => toBl d S := by show M.bind _ _ _ = _; rw [f_bind]
theorem f_tNo : tNo t F e S = (t F e S).bd fun k S => .ok (!k) S := by show M.bind _ _ _ = _; rw [f_bind]; congr 1
theorem f_tAn : tAn t s F e S = (t F e S).bd fun k S => if k = true then s F e S else .ok false S := by
  show M.bind _ _ _ = _
  rw [f_bind]; congr 1; funext d S; split <;> rfl
theorem f_tOo : tOo t s F e S = (t F e S).bd fun k S => if k = true then .ok true S else s F e S := by
  show M.bind _ _ _ = _
  rw [f_bind]; congr 1; funext d S; split <;> rfl
theorem f_xCons : xCons a xs F e S = (a F e S).bd fun d S => (xs F e S).bd fun ds S => .ok (d :: ds) S := by
  show M.bind _ _ _ = _
  rw [f_bind]; congr 1
theorem f_xNil : xNil F e S = .ok [] S := rfl
theorem f_xTup : xTup xs F e S = (xs F e S).bd fun ds S => if ds.length ≤ line then .ok (.tup ds) S else .bad := by
  show M.bind _ _ _ = _
  rw [f_bind]; congr 1; funext d S; split <;> rfl
theorem f_xMk {al : Bool} : xMk al xs F e S = (xs F e S).bd fun ds S => mkL al ds S := by show M.bind _ _ _ = _; rw [f_bind]
theorem f_xP {ev : List D → M D} : xP ev xs F e S = (xs F e S).bd fun ds S => (ev ds S).nex := by
  show M.bind _ _ _ = _
  rw [f_bind]; congr 1
theorem f_xCall : xCall f n xs F e S = (xs F e S).bd fun ds S => if ds.length = n then F f ds S else .bad := by
  show M.bind _ _ _ = _
  rw [f_bind]; congr 1; funext d S; split <;> rfl
theorem f_xCallK {k : List D → List D} : xCallK f n k xs F e S = (xs F e S).bd fun ds S => if ds.length = n then F f (k ds) S else .bad := by
  show M.bind _ _ _ = _
  rw [f_bind]; congr 1; funext d S; split <;> rfl
/-- the third part of a chain -/
def ch3 (c : XE) (e2 : E2) (F : Fns) (e : Dn.Env) (d2 : D) (k : D) (S : Sto) : Res D := match k with
  | .bl true => (c F e S).bd fun d3 S => (e2 d2 d3 S).nex
  | .bl false => .ok (.bl false) S
  | _ => .bad
theorem f_x3 : x3 e1 e2 a b c F e S = (a F e S).bd fun d1 S => (b F e S).bd fun d2 S => (e1 d1 d2 S).nex.bd fun k S => ch3 c e2 F e d2 k S := by
  show M.bind _ _ _ = _
  rw [f_bind]; congr 1; funext d S; rw [f_bind]; congr 1; funext d2 S; rw [f_bind, f_noX]; congr 1; funext k S
  cases k with
  | bl k =>
    cases k with
    | true =>
      show M.bind _ _ _ = _
      rw [f_bind]
      rfl
    | false => rfl
  | _ => rfl
theorem f_ch3 {d2 : D} {k : Bool} : ch3 c e2 F e d2 (.bl k) S = if k = true then (c F e S).bd (fun d3 S => (e2 d2 d3 S).nex) else .ok (.bl false) S := by cases k <;> rfl
theorem f_xVar {i : Nat} {d : D} (h : e[i]? = some (some d)) : xVar i F e S = .ok d S := by
  show (match e[i]? with
    | some (some d) => M.pure d
    | _ => stuck) S = _
  rw [h]
  rfl
/-- the value of a name -/
def gv (o : Option (Option D)) (S : Sto) : Res D := match o with
  | some (some d) => .ok d S
  | _ => .bad
theorem f_var {i : Nat} : xVar i F e S = gv e[i]? S := by
  show (match e[i]? with
    | some (some d) => M.pure d
    | _ => stuck) S = _
  unfold gv
  cases e[i]? with
  | none => rfl
  | some o => cases o <;> rfl
theorem f_gv {d : D} : gv (some (some d)) S = .ok d S := rfl
theorem f_xC {d : D} : xC d F e S = .ok d S := rfl
theorem f_xComp {al : Bool} {it : XI} {g : XG} {t : XT} {x : XE} {vs : List Nat} : xComp al it g t x vs F e S = (it F e S).bd fun ig S => (loopC F g t x ig.2 (wipeE e vs) ig.1 [] S).bd fun l S => mkL al l S := by
  show M.bind _ _ _ = _
  rw [f_bind]; congr 1
theorem f_itSeq : itSeq a F e S = (a F e S).bd fun d S => ofO (seqIt d S) S := by show M.bind _ _ _ = _; rw [f_bind]
theorem f_itEnum : itEnum a F e S = (a F e S).bd fun d S => ofO (enIt d S) S := by show M.bind _ _ _ = _; rw [f_bind]
theorem f_itR1 : itR1 a F e S = (a F e S).bd fun d S => (toInt d S).bd fun j S => if i62 j = true then .ok (rngL 0 1 j.toNat, []) S else .bad := by
  show M.bind _ _ _ = _
  rw [f_bind]; congr 1; funext d S; rw [f_bind]; congr 1; funext j S; split <;> rfl
theorem f_itR2 : itR2 a b F e S = (a F e S).bd fun d S => (b F e S).bd fun d' S => (toInt d S).bd fun i S => (toInt d' S).bd fun j S => if (i62 i && i62 j) = true then .ok (rngL i 1 (j - i).toNat, []) S else .bad := by
  show M.bind _ _ _ = _
  rw [f_bind]; congr 1; funext d S; rw [f_bind]; congr 1; funext d' S; rw [f_bind]; congr 1; funext i S; rw [f_bind]; congr 1; funext j S; split <;> rfl
theorem f_toInt {i : Int} : toInt (.int i) S = .ok i S := rfl
theorem f_xBM {chk : D → Sto → Bool} {ev : D → List D → M D} : xBM chk ev a xs F e S = (a F e S).bd fun d S => if chk d S = true then (xs F e S).bd (fun ds S => (ev d ds S).nex) else .bad := by
  show M.bind _ _ _ = _
  rw [f_bind]; congr 1
theorem f_xCut {al : Bool} {lo hi : XO} : xCut al a lo hi F e S = (a F e S).bd fun d S => (lo F e S).bd fun l S => (hi F e S).bd fun h S => evCut al d l h S := by
  show M.bind _ _ _ = _
  rw [f_bind]; congr 1
theorem f_xPart : xPart a F e S = (a F e S).bd fun d S => (toInt d S).bd fun i S => .ok (some i) S := by
  show M.bind _ _ _ = _
  rw [f_bind]; congr 1
theorem f_xNoP : xNoP F e S = .ok none S := rfl
theorem f_xFld {cs : List Str} {f : Str} : xFld cs f a F e S = (a F e S).bd fun d S => ofO (fldO cs f d S) S := by show M.bind _ _ _ = _; rw [f_bind]
/-- a call by a table -/
def prC (o : Option Nat) (F : Fns) (d : D) (S : Sto) : Res D := match o with
  | some k => (F k [d] S).nex
  | none => .bad
theorem f_prC {k : Nat} {d : D} : prC (some k) F d S = (F k [d] S).nex := rfl
theorem f_xProp {tb : List (Str × Nat)} : xProp tb a F e S = (a F e S).bd fun d S => prC ((insC d S).bind fun c => tb.lookup c) F d S := by
  show M.bind _ _ _ = _
  rw [f_bind]; congr 1
theorem f_gNm {i : Nat} {d : D} : gNm i F e d S = .ok (e.set i (some d)) S := rfl
theorem f_gTp {gs : XGs} {l : List D} : gTp n gs F e (.tup l) S = if l.length = n then gs F e l S else .bad := by
  show (match seqOf (.tup l) S with
    | some l => if l.length = n then gs F e l S else .bad
    | none => .bad) = _
  rfl
theorem f_gCn {g : XG} {gs : XGs} {d : D} {l : List D} : gCn g gs F e (d :: l) S = (g F e d S).bd fun e S => gs F e l S := by
  show M.bind _ _ _ = _
  rw [f_bind]
theorem f_gNl : gNl F e [] S = .ok e S := rfl
theorem f_gSb {d : D} : gSb a b F e d S = (a F e S).bd fun o S => (b F e S).bd fun i S => (evSet o i d S).bd fun _ S => .ok e S := by
  show M.bind _ _ _ = _
  rw [f_bind]; congr 1
theorem f_xNew {c : Str} : xNew c f n xs F e S = (xs F e S).bd fun ds S => if ds.length + 1 = n then (F f (.ref S.length :: ds) (S ++ [.ins c []])).bd (fun d S' => if d = .non then .ok (.ref S.length) S' else .bad) else .bad := by
  show M.bind _ _ _ = _
  rw [f_bind]; congr 1; funext ds S
  split
  · show M.bind _ _ _ = _
    rw [f_bind]; congr 1; funext d S'; split <;> rfl
  · rfl
/-- frames over frames -/
theorem bd_ok {x : α} {k : α → Sto → Res β} : (Res.ok x S).bd k = k x S := rfl
theorem bd_bad {k : α → Sto → Res β} : (Res.bad).bd k = .bad := rfl
theorem bd_exc {k : α → Sto → Res β} {c : Str} {fs : List (Str × D)} : (Res.exc c fs S).bd k = .exc c fs S := rfl
theorem es_ok {x : α} {k : α → Sto → RS} : (Res.ok x S).es e k = k x S := rfl
theorem es_exc {k : α → Sto → RS} {c : Str} {fs : List (Str × D)} : (Res.exc c fs S).es e k = .exc c fs e S := rfl
theorem st_ok {x : α} {k : α → Sto → RS} : (Res.ok x S).st k = k x S := rfl
theorem nex_ok {d : D} : (Res.ok d S).nex = .ok d S := rfl
theorem sq_nx {k : Dn.Env → Sto → RS} : (RS.nx e S).sq k = k e S := rfl
theorem sq_rt {d : D} {k : Dn.Env → Sto → RS} : (RS.rt d S).sq k = .rt d S := rfl
theorem sq_bk {k : Dn.Env → Sto → RS} : (RS.bk e S).sq k = .bk e S := rfl
theorem sq_ct {k : Dn.Env → Sto → RS} : (RS.ct e S).sq k = .ct e S := rfl
theorem sq_exc {k : Dn.Env → Sto → RS} {c : Str} {fs : List (Str × D)} : (RS.exc c fs e S).sq k = .exc c fs e S := rfl
theorem bd_bd {r : Res α} {k : α → Sto → Res β} {k2 : β → Sto → Res γ} : (r.bd k).bd k2 = r.bd fun x S => (k x S).bd k2 := by cases r <;> rfl
theorem es_bd {r : Res α} {k : α → Sto → Res β} {k2 : β → Sto → RS} : (r.bd k).es e k2 = r.es e fun x S => (k x S).es e k2 := by cases r <;> rfl
theorem st_bd {r : Res α} {k : α → Sto → Res β} {k2 : β → Sto → RS} : (r.bd k).st k2 = r.st fun x S => (k x S).st k2 := by cases r <;> rfl
theorem nex_bd {r : Res α} {k : α → Sto → Res D} : (r.bd k).nex = (match r with
  | .ok x S => (k x S).nex
  | _ => .bad) := by cases r <;> rfl
theorem sq_es {r : Res α} {k : α → Sto → RS} {k2 : Dn.Env → Sto → RS} : (r.es e k).sq k2 = r.es e fun x S => (k x S).sq k2 := by cases r <;> rfl
theorem sq_st {r : Res α} {k : α → Sto → RS} {k2 : Dn.Env → Sto → RS} : (r.st k).sq k2 = r.st fun x S => (k x S).sq k2 := by cases r <;> rfl
theorem sq_sq {r : RS} {k : Dn.Env → Sto → RS} {k2 : Dn.Env → Sto → RS} : (r.sq k).sq k2 = r.sq fun e S => (k e S).sq k2 := by cases r <;> rfl
theorem sq_ite {p : Prop} [Decidable p] {x y : RS} {k : Dn.Env → Sto → RS} : (if p then x else y).sq k = if p then x.sq k else y.sq k := by split <;> rfl
theorem bd_ite {p : Prop} [Decidable p] {x y : Res α} {k : α → Sto → Res β} : (if p then x else y).bd k = if p then x.bd k else y.bd k := by split <;> rfl
theorem es_ite {p : Prop} [Decidable p] {x y : Res α} {k : α → Sto → RS} : (if p then x else y).es e k = if p then x.es e k else y.es e k := by split <;> rfl
theorem st_ite {p : Prop} [Decidable p] {x y : Res α} {k : α → Sto → RS} : (if p then x else y).st k = if p then x.st k else y.st k := by split <;> rfl
theorem nex_ite {p : Prop} [Decidable p] {x y : Res D} : (if p then x else y).nex = if p then x.nex else y.nex := by split <;> rfl
/-- values -/
theorem f_mkF : mkL false ds S = if ds.length ≤ line then .ok (.tmp ds) S else .bad := rfl
theorem f_mkT : mkL true ds S = if ds.length ≤ line then .ok (.ref S.length) (S ++ [.lst ds]) else .bad := rfl
theorem f_truB {k : Bool} : truD (.bl k) S = .ok k S := rfl
theorem f_truI {k : Int} : truD (.int k) S = .ok (k != 0) S := rfl
theorem f_toBl {k : Bool} : toBl (.bl k) S = .ok k S := rfl
theorem f_add {i j : Int} {al : Bool} : evAddA al (.int i) (.int j) S = .ok (.int (i + j)) S := rfl
theorem f_sub {i j : Int} : evSub (.int i) (.int j) S = .ok (.int (i - j)) S := rfl
theorem f_mul {i j : Int} {al : Bool} : evMulA al (.int i) (.int j) S = (if mulB i j = true then .ok (.int (i * j)) S else .bad) := by
  show (if mulB i j = true then M.pure (D.int (i * j)) else stuck) S = _
  split <;> rfl
theorem f_div {i j : Int} : evDiv (.int i) (.int j) S = (if divB j = true then .ok (.int (i.fdiv j)) S else .bad) := by
  show (if divB j = true then M.pure (D.int (i.fdiv j)) else stuck) S = _
  split <;> rfl
theorem f_mod {i j : Int} : evMod (.int i) (.int j) S = (if j ≠ 0 then .ok (.int (i.fmod j)) S else .bad) := by
  show (if j ≠ 0 then M.pure (D.int (i.fmod j)) else stuck) S = _
  split <;> rfl
theorem f_pow {i j : Int} : evPow (.int i) (.int j) S = (if powB i j = true then .ok (.int (i ^ j.toNat)) S else .bad) := by
  show (if powB i j = true then M.pure (D.int (i ^ j.toNat)) else stuck) S = _
  split <;> rfl
theorem f_neg {i : Int} : evNeg (.int i) S = .ok (.int (-i)) S := rfl
theorem f_lt {i j : Int} : evLt (.int i) (.int j) S = .ok (.bl (decide (i < j))) S := rfl
theorem f_le {i j : Int} : evLe (.int i) (.int j) S = .ok (.bl (decide (i ≤ j))) S := rfl
theorem f_gt {i j : Int} : evGt (.int i) (.int j) S = .ok (.bl (decide (j < i))) S := rfl
theorem f_ge {i j : Int} : evGe (.int i) (.int j) S = .ok (.bl (decide (j ≤ i))) S := rfl
theorem f_int {i : Int} : pInt (.int i) S = .ok (.int i) S := rfl
theorem f_abs {i : Int} : pAbs (.int i) S = .ok (.int (if i < 0 then -i else i)) S := rfl
theorem f_lenT : pLen (.tup ds) S = .ok (.int ds.length) S := rfl
theorem f_lenL : pLen (.tmp ds) S = .ok (.int ds.length) S := rfl
theorem f_tupT : pTup (.tmp ds) S = .ok (.tup ds) S := rfl
theorem f_divmod {i j : Int} : pDivmod (.int i) (.int j) S = (if 0 < j ∧ j.natAbs.log2 < 9000 then .ok (.tup [.int (i / j), .int (i % j)]) S else .bad) := by
  show (if 0 < j ∧ j.natAbs.log2 < 9000 then M.pure (D.tup [.int (i / j), .int (i % j)]) else stuck) S = _
  split <;> rfl
theorem f_catT {al : Bool} {l m : List D} : evAddA al (.tup l) (.tup m) S = if l.length + m.length ≤ line then .ok (.tup (l ++ m)) S else .bad := by
  show (if l.length + m.length ≤ line then M.pure (D.tup (l ++ m)) else stuck) S = _
  split <;> rfl
theorem f_catL {l m : List D} : evAddA false (.tmp l) (.tmp m) S = if (l ++ m).length ≤ line then .ok (.tmp (l ++ m)) S else .bad := rfl
theorem f_eqI {tb : Str → Option Nat} {i j : Int} : evEqF tb F (.int i) (.int j) S = .ok (.bl (decide (i = j))) S := by
  show ofO ((eqD S (.int i) (.int j)).map D.bl) S = _
  have h : ∀ k : Int, SeqAt.shaped (.int k) = true := fun k => by simp [SeqAt.shaped, PyData.canLay0, PyData.depth]
  have : eqD S (.int i) (.int j) = some (decide (i = j)) := by
    show (if (SeqAt.shaped (.int i) && SeqAt.shaped (.int j)) = true then some (PyData.eqv (.int i) (.int j)) else none) = _
    rw [h, h]
    simp only [PyData.eqv, Bool.and_self, if_true]
    by_cases e : i = j
    · subst e; simp
    · simp [e]
  rw [this]
  rfl
theorem f_eqS {tb : Str → Option Nat} {i j : Str} : evEqF tb F (.str i) (.str j) S = .ok (.bl (decide (i = j))) S := rfl
theorem f_neS {i j : Str} : evNe (.str i) (.str j) S = .ok (.bl (!decide (i = j))) S := rfl
theorem f_isN {d : D} : evIs d .non S = .ok (.bl (isNon d)) S := rfl
theorem f_isNN {d : D} : evIsNot d .non S = .ok (.bl (!isNon d)) S := rfl
theorem f_ixT {i : Int} {l : List D} : evIx (.tup l) (.int i) S = ofO (L2.atI l i) S := rfl
theorem f_ixL {i : Int} {l : List D} : evIx (.tmp l) (.int i) S = ofO (L2.atI l i) S := rfl
theorem f_ixR {i : Int} {l : List D} {j : Nat} (h : S[j]? = some (.lst l)) : evIx (.ref j) (.int i) S = ofO (L2.atI l i) S := by
  show ofO ((match S[j]? with
    | some (.lst l) => some l
    | _ => none).bind fun l => L2.atI l i) S = _
  rw [h]
  rfl
theorem f_ofS {x : α} : ofO (some x) S = .ok x S := rfl
theorem f_seqT : seqIt (.tup ds) S = some (ds, []) := rfl
theorem f_seqL : seqIt (.tmp ds) S = some (ds, []) := rfl
theorem f_seqC {l : List Int} : seqIt (.scr l) S = some (l.map .int, []) := rfl
theorem f_seqR {l : List D} {j : Nat} (h : S[j]? = some (.lst l)) : seqIt (.ref j) S = some (l, [(j, l)]) := by
  show (match S[j]? with
    | some (.lst l) => some (l, [(j, l)])
    | _ => none) = _
  rw [h]
theorem f_enT : enIt (.tup ds) S = some (enumD 0 ds, []) := rfl
theorem f_enL : enIt (.tmp ds) S = some (enumD 0 ds, []) := rfl
theorem f_app {l : List D} {j : Nat} {d : D} (h : S[j]? = some (.lst l)) (hl : l.length < line) : evApp (.ref j) [d] S = .ok .non (S.set j (.lst (l ++ [d]))) := by
  unfold evApp
  simp only [h]
  rw [if_pos hl]
theorem f_isL {l : List D} {j : Nat} (h : S[j]? = some (.lst l)) : isLstB (.ref j) S = true := by
  show (true && (match S[j]? with
    | some (.lst l) => some l
    | _ => none).isSome) = true
  rw [h]
  rfl
theorem f_isS {z : Str} : isStrB (.str z) S = true := rfl
theorem f_tupR {l : List D} {j : Nat} (h : S[j]? = some (.lst l)) : pTup (.ref j) S = .ok (.tup l) S := by
  show ofO ((match S[j]? with
    | some (.lst l) => some l
    | _ => none).map D.tup) S = _
  rw [h]
  rfl
theorem f_lenR {l : List D} {j : Nat} (h : S[j]? = some (.lst l)) : pLen (.ref j) S = .ok (.int l.length) S := by
  show ofO ((match S[j]? with
    | some (.lst l) => some (l.length : Int)
    | some (.dK l) => some (l.length : Int)
    | _ => none).map D.int) S = _
  rw [h]
  rfl
theorem f_lenC {l : List Int} : pLen (.scr l) S = .ok (.int l.length) S := by
  show ofO (((seqOf (.scr l) S).map fun l => (l.length : Int)).map D.int) S = _
  show ofO (some (D.int ((l.map D.int).length : Nat))) S = _
  rw [List.length_map]
  rfl
theorem f_fld {cs : List Str} {f c : Str} {fs : List (Str × D)} {j : Nat} (h : S[j]? = some (.ins c fs)) : fldO cs f (.ref j) S = if c ∈ cs then fs.lookup f else none := by
  show (match S[j]? with
    | some (.ins c fs) => if c ∈ cs then fs.lookup f else none
    | _ => none) = _
  rw [h]
theorem f_insC {c : Str} {fs : List (Str × D)} {j : Nat} (h : S[j]? = some (.ins c fs)) : insC (.ref j) S = some c := by
  show (match S[j]? with
    | some (.ins c _) => some c
    | _ => none) = _
  rw [h]
theorem f_set {l : List D} {j k : Nat} {i : Int} {d : D} (h : S[j]? = some (.lst l)) (hi : ixN l.length i = some k) : evSet (.ref j) (.int i) d S = .ok () (S.set j (.lst (l.set k d))) := by
  unfold evSet
  simp only [h, hi]
theorem f_sumT {ns : List Int} : pSumT (.tup (ns.map .int)) S = .ok (.int ns.sum) S := by
  show ofO ((intL (ns.map D.int)).map fun l => D.int l.sum) S = _
  rw [ints_map]
  rfl
theorem f_sumL {ns : List Int} : pSumT (.tmp (ns.map .int)) S = .ok (.int ns.sum) S := by
  show ofO ((intL (ns.map D.int)).map fun l => D.int l.sum) S = _
  rw [ints_map]
  rfl
theorem ints_mapF {h : α → Int} {l : List α} : intL (l.map fun x => D.int (h x)) = some (l.map h) := by
  have : (l.map fun x => D.int (h x)) = (l.map h).map D.int := by rw [List.map_map]; rfl
  rw [this, ints_map]
theorem bls_mapF {h : α → Bool} {l : List α} : blL (l.map fun x => D.bl (h x)) = some (l.map h) := by
  have : (l.map fun x => D.bl (h x)) = (l.map h).map D.bl := by rw [List.map_map]; rfl
  rw [this, bls_map]
theorem f_sumF {h : α → Int} {l : List α} : pSumT (.tmp (l.map fun x => .int (h x))) S = .ok (.int (l.map h).sum) S := by
  show ofO ((intL (l.map fun x => D.int (h x))).map fun l => D.int l.sum) S = _
  rw [ints_mapF]
  rfl
theorem f_allF {h : α → Bool} {l : List α} : pAll (.tmp (l.map fun x => .bl (h x))) S = .ok (.bl (l.all h)) S := by
  show ofO ((blL (l.map fun x => D.bl (h x))).map fun l => D.bl (l.all id)) S = _
  rw [bls_mapF]
  show Res.ok (D.bl ((l.map h).all id)) S = _
  rw [List.all_map]
  rfl
theorem f_anyF {h : α → Bool} {l : List α} : pAny (.tmp (l.map fun x => .bl (h x))) S = .ok (.bl (l.any h)) S := by
  show ofO ((blL (l.map fun x => D.bl (h x))).map fun l => D.bl (l.any id)) S = _
  rw [bls_mapF]
  show Res.ok (D.bl ((l.map h).any id)) S = _
  rw [List.any_map]
  rfl
theorem f_min {i j : Int} : pMinU [.int i, .int j] S = .ok (.int (min i j)) S := by
  show Res.ok (D.int (if j < i then j else i)) S = _
  congr 2
  omega
theorem f_max {i j : Int} : pMaxU [.int i, .int j] S = .ok (.int (max i j)) S := by
  show Res.ok (D.int (if j > i then j else i)) S = _
  congr 2
  omega
/-- promises -/
theorem ho_run {k : Nat} {body : XS} {Q : Res D → Prop} (h : Ho (body F (ds.map some ++ List.replicate (k - ds.length) none) S) (OutP Q)) : Ho (runB k body F ds S) Q := by
  have : runB k body F ds S = (body F (ds.map some ++ List.replicate (k - ds.length) none) S).out := by
    show (match body F (ds.map some ++ List.replicate (k - ds.length) none) S with
      | .rt d S' => Res.ok d S'
      | .nx _ S' => .ok .non S'
      | .exc c fs _ S' => .exc c fs S'
      | _ => .bad) = _
    unfold RS.out
    cases body F (ds.map some ++ List.replicate (k - ds.length) none) S <;> rfl
  rw [this]
  exact h
theorem ho_rt {d : D} {Q : Res D → Prop} : Ho (RS.rt d S) (OutP Q) = Ho (Res.ok d S) Q := rfl
theorem ho_nx {Q : Res D → Prop} : Ho (RS.nx e S) (OutP Q) = Ho (Res.ok D.non S) Q := rfl
theorem ho_exc {c : Str} {fs : List (Str × D)} {Q : Res D → Prop} : Ho (RS.exc c fs e S) (OutP Q) = Ho (Res.exc c fs S) Q := rfl
theorem ho_ok {x : α} {R : α → Sto → Prop} : Ho (Res.ok x S) (OkP R) = R x S := rfl
theorem lp_nx {N B : Dn.Env → Sto → Prop} {P : RS → Prop} : Ho (RS.nx e S) (LP N B P) = N e S := rfl
theorem lp_ct {N B : Dn.Env → Sto → Prop} {P : RS → Prop} : Ho (RS.ct e S) (LP N B P) = N e S := rfl
theorem lp_bk {N B : Dn.Env → Sto → Prop} {P : RS → Prop} : Ho (RS.bk e S) (LP N B P) = B e S := rfl
theorem lp_rt {d : D} {N B : Dn.Env → Sto → Prop} {P : RS → Prop} : Ho (RS.rt d S) (LP N B P) = Ho (RS.rt d S) P := rfl
theorem lp_exc {c : Str} {fs : List (Str × D)} {N B : Dn.Env → Sto → Prop} {P : RS → Prop} : Ho (RS.exc c fs e S) (LP N B P) = Ho (RS.exc c fs e S) P := rfl
theorem ok_ho {r : Res α} {R : α → Sto → Prop} (h : Ho r (OkP R)) : ∃ x S', r = .ok x S' ∧ R x S' := by
  cases r with
  | ok x S' => exact ⟨x, S', rfl, h⟩
  | _ => exact h.elim
theorem ho_of {r : Res α} {x : α} {R : α → Sto → Prop} (h : r = .ok x S) (h2 : R x S) : Ho r (OkP R) := by rw [h]; exact h2
theorem ho_imp {r : α} {P Q : α → Prop} (h : Ho r P) (i : ∀ x, P x → Q x) : Ho r Q := i _ h
theorem ok_imp {r : Res α} {P Q : α → Sto → Prop} (h : Ho r (OkP P)) (i : ∀ x S, P x S → Q x S) : Ho r (OkP Q) := by
  cases r with
  | ok x S' => exact i x S' h
  | _ => exact h.elim
theorem bd_of {r : Res α} {k : α → Sto → Res β} {R : α → Sto → Prop} {Q : Res β → Prop} (h : Ho r (OkP R)) (i : ∀ x S, R x S → Ho (k x S) Q) : Ho (r.bd k) Q := by
  cases r with
  | ok x S' => exact i x S' h
  | _ => exact h.elim
theorem es_of {r : Res α} {k : α → Sto → RS} {R : α → Sto → Prop} {Q : RS → Prop} (h : Ho r (OkP R)) (i : ∀ x S, R x S → Ho (k x S) Q) : Ho (r.es e k) Q := by
  cases r with
  | ok x S' => exact i x S' h
  | _ => exact h.elim
theorem st_of {r : Res α} {k : α → Sto → RS} {R : α → Sto → Prop} {Q : RS → Prop} (h : Ho r (OkP R)) (i : ∀ x S, R x S → Ho (k x S) Q) : Ho (r.st k) Q := by
  cases r with
  | ok x S' => exact i x S' h
  | _ => exact h.elim
theorem if_ho {p : Prop} [Decidable p] {x y : α} {Q : α → Prop} (h1 : p → Ho x Q) (h2 : ¬ p → Ho y Q) : Ho (if p then x else y) Q := by
  split
  · exact h1 ‹_›
  · exact h2 ‹_›
theorem if_ok {p : Prop} [Decidable p] {x y : Res α} {Q : Res α → Prop} (h : p) (h1 : Ho x Q) : Ho (if p then x else y) Q := by rw [if_pos h]; exact h1
theorem if_sq {p : Prop} [Decidable p] {x y : RS} {k : Dn.Env → Sto → RS} {Q : RS → Prop} (h1 : p → Ho (x.sq k) Q) (h2 : ¬ p → Ho (y.sq k) Q) : Ho ((if p then x else y).sq k) Q := by
  split
  · exact h1 ‹_›
  · exact h2 ‹_›
theorem if_bd {p : Prop} [Decidable p] {x y : Res α} {k : α → Sto → Res β} {Q : Res β → Prop} (h1 : p → Ho (x.bd k) Q) (h2 : ¬ p → Ho (y.bd k) Q) : Ho ((if p then x else y).bd k) Q := by
  split
  · exact h1 ‹_›
  · exact h2 ‹_›
theorem if_es {p : Prop} [Decidable p] {x y : Res α} {k : α → Sto → RS} {Q : RS → Prop} (h1 : p → Ho (x.es e k) Q) (h2 : ¬ p → Ho (y.es e k) Q) : Ho ((if p then x else y).es e k) Q := by
  split
  · exact h1 ‹_›
  · exact h2 ‹_›
theorem if_st {p : Prop} [Decidable p] {x y : Res α} {k : α → Sto → RS} {Q : RS → Prop} (h1 : p → Ho (x.st k) Q) (h2 : ¬ p → Ho (y.st k) Q) : Ho ((if p then x else y).st k) Q := by
  split
  · exact h1 ‹_›
  · exact h2 ‹_›
/-! loops -/
theorem for_ho {body : XS} {g : XG} {gs : Gd} {k : Dn.Env → Sto → RS} {Q : RS → Prop} (I : List D → Dn.Env → Sto → Prop) (hg : ∀ l e S, I l e S → okG gs S = true)
    (step : ∀ d r e S, I (d :: r) e S → Ho (g F e d S) (OkP fun e1 S1 => Ho (body F e1 S1) (LP (I r) (fun e S => Ho (k e S) Q) Q))) (fin : ∀ e S, I [] e S → Ho (k e S) Q) :
    ∀ {its : List D} {e : Dn.Env} {S : Sto}, I its e S → Ho ((loopF F body g gs its e S).sq k) Q
  | [], e, S, i => by
    unfold loopF
    rw [if_pos (hg _ _ _ i)]
    exact fin e S i
  | d :: r, e, S, i => by
    obtain ⟨e1, S1, h1, h2⟩ := ok_ho (step d r e S i)
    unfold loopF
    rw [if_pos (hg _ _ _ i), h1]
    dsimp only
    cases hb : body F e1 S1 with
    | nx e2 S2 => rw [hb] at h2; exact for_ho I hg step fin (its := r) h2
    | ct e2 S2 => rw [hb] at h2; exact for_ho I hg step fin (its := r) h2
    | bk e2 S2 => rw [hb] at h2; exact h2
    | rt d S2 => rw [hb] at h2; exact h2
    | exc c fs e2 S2 => rw [hb] at h2; exact h2
    | bad => rw [hb] at h2; exact h2
/-- a loop at the end -/
theorem sq_id {r : RS} {Q : RS → Prop} (h : Ho (r.sq fun e S => .nx e S) Q) : Ho r Q := by cases r <;> exact h
/-- what is done so far -/
theorem for_done {body : XS} {g : XG} {gs : Gd} {k : Dn.Env → Sto → RS} {Q : RS → Prop} {its : List D} (l : List α) (φ : α → D) (I : List α → Dn.Env → Sto → Prop) (hits : its = l.map φ) (hg : ∀ l e S, I l e S → okG gs S = true)
    (i0 : I [] e S) (step : ∀ done x left e S, l = done ++ x :: left → I done e S → Ho (g F e (φ x) S) (OkP fun e1 S1 => Ho (body F e1 S1) (LP (I (done ++ [x])) (fun e S => Ho (k e S) Q) Q))) (fin : ∀ e S, I l e S → Ho (k e S) Q) :
    Ho ((loopF F body g gs its e S).sq k) Q := by
  refine for_ho (fun ds e S => ∃ done left, l = done ++ left ∧ ds = left.map φ ∧ I done e S) ?_ ?_ ?_ ⟨[], l, rfl, hits, i0⟩
  · rintro _ e S ⟨done, left, _, _, i⟩; exact hg _ _ _ i
  · rintro d r e S ⟨done, left, h1, h2, i⟩
    cases left with
    | nil => cases h2
    | cons x left =>
      cases h2
      refine ok_imp (step done x left e S h1 i) fun e1 S1 h3 => ho_imp h3 fun r h4 => ?_
      cases r with
      | nx e2 S2 => exact ⟨done ++ [x], left, by rw [h1, List.append_assoc]; rfl, rfl, h4⟩
      | ct e2 S2 => exact ⟨done ++ [x], left, by rw [h1, List.append_assoc]; rfl, rfl, h4⟩
      | _ => exact h4
  · rintro e S ⟨done, left, h1, h2, i⟩
    cases left with
    | nil => rw [List.append_nil] at h1; subst h1; exact fin e S i
    | cons x left => cases h2
theorem rngL_0 (n : Nat) : rngL 0 1 n = (List.range n).map fun (i : Nat) => D.int (i : Int) := by
  unfold rngL
  congr 1
  funext i
  simp
theorem rngL_1 (a : Int) (n : Nat) : rngL a 1 n = (List.range n).map fun (i : Nat) => D.int (a + (i : Int)) := by
  unfold rngL
  congr 1
  funext i
  simp
theorem range_at {n : Nat} {done left : List Nat} {x : Nat} (h : List.range n = done ++ x :: left) : x = done.length ∧ x < n := by
  have h1 : (List.range n)[done.length]? = some x := by rw [h, List.getElem?_append_right (Nat.le_refl _), Nat.sub_self]; rfl
  obtain ⟨h2, h3⟩ := List.getElem?_eq_some_iff.mp h1
  rw [List.getElem_range] at h3
  rw [List.length_range] at h2
  omega
/-- range(n) -/
theorem for_rng {body : XS} {g : XG} {k : Dn.Env → Sto → RS} {Q : RS → Prop} {n : Nat} (I : Nat → Dn.Env → Sto → Prop)
    (i0 : I 0 e S) (step : ∀ i e S, i < n → I i e S → Ho (g F e (.int (i : Nat)) S) (OkP fun e1 S1 => Ho (body F e1 S1) (LP (I (i + 1)) (fun e S => Ho (k e S) Q) Q))) (fin : ∀ e S, I n e S → Ho (k e S) Q) :
    Ho ((loopF F body g [] (rngL 0 1 n) e S).sq k) Q := by
  refine for_done (List.range n) (fun (i : Nat) => D.int (i : Int)) (fun done e S => I done.length e S) (rngL_0 n) (fun _ _ _ _ => rfl) i0 ?_ (fun e S i => fin e S (by rw [List.length_range] at i; exact i))
  intro done x left e S h i
  obtain ⟨h1, h2⟩ := range_at h
  subst h1
  have := step done.length e S h2 i
  rw [List.length_append, List.length_singleton]
  exact this
/-! comprehensions -/
theorem comp_flt {g : XG} {t : XT} {x : XE} {gs : Gd} {its : List D} (l : List α) (φ : α → D) (q : α → Bool) (f : α → D) (hits : its = l.map φ) (hg : okG gs S = true) (hl : l.length ≤ line)
    (h : ∀ y ∈ l, Ho (g F e (φ y) S) (OkP fun e1 S1 => S1 = S ∧ Ho (t F e1 S) (OkP (Is (q y) S)) ∧ (q y = true → Ho (x F e1 S) (OkP (Is (f y) S))))) :
    Ho (loopC F g t x gs e its [] S) (OkP fun ys S' => ys = (l.filter q).map f ∧ S' = S ∧ ys.length ≤ line) := by
  have main : ∀ (l : List α) (acc : List D), acc.length + l.length ≤ line → (∀ y ∈ l, Ho (g F e (φ y) S) (OkP fun e1 S1 => S1 = S ∧ Ho (t F e1 S) (OkP (Is (q y) S)) ∧ (q y = true → Ho (x F e1 S) (OkP (Is (f y) S))))) →
      loopC F g t x gs e (l.map φ) acc S = .ok (acc ++ (l.filter q).map f) S := by
    intro l
    induction l with
    | nil => intro acc _ _; show (if okG gs S = true then Res.ok acc S else .bad) = _; rw [if_pos hg]; simp
    | cons y r ih =>
      intro acc hl h
      obtain ⟨e1, S1, h1, h2, h3, h4⟩ := ok_ho (h y List.mem_cons_self)
      subst h2
      obtain ⟨b, S2, h5, h6, h7⟩ := ok_ho h3
      subst h6; subst h7
      rw [List.length_cons] at hl
      rw [List.map_cons]
      unfold loopC
      rw [if_pos hg, h1]
      dsimp only
      rw [h5]
      cases hq : q y with
      | true =>
        obtain ⟨z, S3, h8, h9, h10⟩ := ok_ho (h4 hq)
        subst h9; subst h10
        dsimp only
        rw [h8]
        dsimp only
        rw [if_pos (by omega), ih (acc ++ [f y]) (by rw [List.length_append, List.length_singleton]; omega) (fun z hz => h z (List.mem_cons_of_mem _ hz))]
        simp [hq]
      | false =>
        dsimp only
        rw [ih acc (by omega) (fun z hz => h z (List.mem_cons_of_mem _ hz))]
        simp [hq]
  rw [hits, main l [] (by simpa using hl) h]
  have := List.length_filter_le q l
  exact ⟨rfl, rfl, by rw [List.nil_append, List.length_map]; omega⟩
theorem comp_all {g : XG} {x : XE} {gs : Gd} {its : List D} (l : List α) (φ : α → D) (f : α → D) (hits : its = l.map φ) (hg : okG gs S = true) (hl : l.length ≤ line)
    (h : ∀ y ∈ l, Ho (g F e (φ y) S) (OkP fun e1 S1 => S1 = S ∧ Ho (x F e1 S) (OkP (Is (f y) S)))) :
    Ho (loopC F g tYs x gs e its [] S) (OkP fun ys S' => ys = l.map f ∧ S' = S ∧ ys.length ≤ line) := by
  have := comp_flt (t := tYs) (F := F) (e := e) (S := S) (g := g) (x := x) l φ (fun _ => true) f hits hg hl fun y hy => ok_imp (h y hy) fun e1 S1 hh => ⟨hh.1, ⟨rfl, rfl⟩, fun _ => hh.2⟩
  rw [List.filter_eq_self.mpr (fun _ _ => rfl)] at this
  exact this
/-- a comprehension that may change the store -/
theorem comp_st {g : XG} {x : XE} {gs : Gd} {its : List D} (l : List α) (φ : α → D) (I : List α → List D → Sto → Prop) (hits : its = l.map φ) (hg : ∀ d ys S, I d ys S → okG gs S = true) (hl : l.length ≤ line) (i0 : I [] [] S)
    (step : ∀ done y left ys S, l = done ++ y :: left → I done ys S → Ho (g F e (φ y) S) (OkP fun e1 S1 => Ho (x F e1 S1) (OkP fun z S2 => I (done ++ [y]) (ys ++ [z]) S2))) :
    Ho (loopC F g tYs x gs e its [] S) (OkP fun ys S' => I l ys S' ∧ ys.length = l.length ∧ ys.length ≤ line) := by
  have main : ∀ (left done : List α) (ys : List D) (S : Sto), l = done ++ left → ys.length = done.length → I done ys S → Ho (loopC F g tYs x gs e (left.map φ) ys S) (OkP fun ys S' => I l ys S' ∧ ys.length = l.length ∧ ys.length ≤ line) := by
    intro left
    induction left with
    | nil =>
      intro done ys S h hy i
      rw [List.append_nil] at h
      subst h
      unfold loopC
      show Ho (if okG gs S = true then Res.ok ys S else .bad) _
      rw [if_pos (hg _ _ _ i)]
      exact ⟨i, hy, by omega⟩
    | cons y r ih =>
      intro done ys S h hy i
      obtain ⟨e1, S1, h1, h2⟩ := ok_ho (step done y r ys S h i)
      obtain ⟨z, S2, h3, h4⟩ := ok_ho h2
      have hlen : l.length = done.length + (r.length + 1) := by rw [h, List.length_append, List.length_cons]
      rw [List.map_cons]
      unfold loopC
      rw [if_pos (hg _ _ _ i), h1]
      show Ho (match (Res.ok true S1 : Res Bool) with
        | .ok true S2 => (match x F e1 S2 with
          | .ok y S3 => if ys.length < line then loopC F g tYs x gs e (r.map φ) (ys ++ [y]) S3 else .bad
          | _ => .bad)
        | .ok false S2 => loopC F g tYs x gs e (r.map φ) ys S2
        | _ => .bad) _
      dsimp only
      rw [h3]
      dsimp only
      rw [if_pos (by omega)]
      exact ih (done ++ [y]) (ys ++ [z]) S2 (by rw [h, List.append_assoc]; rfl) (by rw [List.length_append, List.length_append, hy]; rfl) h4
  rw [hits]
  exact main l [] [] S rfl rfl i0
end
/-! ### what stays in the store -/
/-- all but the object at w stays, more may come -/
structure Fr (w : Nat) (S S' : Sto) : Prop where
  len : S.length ≤ S'.length
  at_ : ∀ j, j < S.length → j ≠ w → S'[j]? = S[j]?
theorem Fr.refl (w : Nat) (S : Sto) : Fr w S S := ⟨Nat.le_refl _, fun _ _ _ => rfl⟩
theorem Fr.trans {w : Nat} {S S1 S2 : Sto} (h : Fr w S S1) (k : Fr w S1 S2) : Fr w S S2 := ⟨Nat.le_trans h.len k.len, fun j hj hw => (k.at_ j (Nat.lt_of_lt_of_le hj h.len) hw).trans (h.at_ j hj hw)⟩
theorem Fr.get {w j : Nat} {S S' : Sto} {o : O} (h : Fr w S S') (hj : S[j]? = some o) (hw : j ≠ w) : S'[j]? = some o := (h.at_ j (List.getElem?_eq_some_iff.mp hj).1 hw).trans hj
theorem Fr.app (w : Nat) (S X : Sto) : Fr w S (S ++ X) := ⟨by simp, fun j hj _ => List.getElem?_append_left hj⟩
theorem Fr.set (w : Nat) (S : Sto) (o : O) : Fr w S (S.set w o) := ⟨by simp, fun j _ hw => List.getElem?_set_ne (Ne.symm hw)⟩
/-- what came later may be written -/
theorem Fr.new {w j : Nat} {S S1 : Sto} (h : Fr w S S1) (o : O) (hj : S.length ≤ j) : Fr w S (S1.set j o) := ⟨by simpa using h.len, fun i hi hw => by rw [List.getElem?_set_ne (by omega)]; exact h.at_ i hi hw⟩
theorem get_last (S : Sto) (o : O) : (S ++ [o])[S.length]? = some o := by rw [List.getElem?_append_right (Nat.le_refl _), Nat.sub_self]; rfl
theorem get_app {S X : Sto} {j : Nat} {o : O} (h : S[j]? = some o) : (S ++ X)[j]? = some o := by rw [List.getElem?_append_left (List.getElem?_eq_some_iff.mp h).1]; exact h
theorem get_set {S : Sto} {j : Nat} {o u : O} (h : S[j]? = some o) : (S.set j u)[j]? = some u := List.getElem?_set_self (List.getElem?_eq_some_iff.mp h).1
theorem get_ne {S : Sto} {j k : Nat} {o u : O} (h : S[j]? = some o) (hk : k ≠ j) : (S.set k u)[j]? = some o := by rw [List.getElem?_set_ne hk]; exact h
theorem get_lt {S : Sto} {j : Nat} {o : O} (h : S[j]? = some o) : j < S.length := (List.getElem?_eq_some_iff.mp h).1
theorem line_pos0 : 0 ≤ line := Nat.zero_le _
theorem line_pos1 : 1 ≤ line := by unfold line; decide
theorem line_pos2 : 2 ≤ line := by unfold line; decide
theorem line_pos3 : 3 ≤ line := by unfold line; decide
theorem okG_nil (S : Sto) : okG [] S = true := rfl
theorem okG_1 {S : Sto} {a : Nat} {l : List D} (h : S[a]? = some (.lst l)) : okG [(a, l)] S = true := by
  unfold okG
  simp [h]
theorem i62_le {i : Int} (h : -(2 ^ 61) ≤ i ∧ i ≤ 2 ^ 61) : i62 i = true := by
  unfold i62
  rw [Bool.and_eq_true, decide_eq_true_eq, decide_eq_true_eq]
  omega
theorem divB_wide {j : Int} (h0 : j ≠ 0) (h : j.natAbs < 2 ^ 2000) : divB j = true := by
  unfold divB
  have h1 : j.natAbs ≠ 0 := by omega
  have := (Nat.log2_lt h1 (k := 2000)).mpr h
  simp [h0]
  omega
end Dn

set_option Elab.async false
set_option linter.all false
set_option maxRecDepth 100000
set_option maxHeartbeats 400000
namespace Dn
open PySem PySem.Spec PyProof.Rows L2
/-! ### what is asked of an object of the store, as a look at it -/
def lkL (o : Option O) : Option (List D) := match o with
  | some (.lst l) => some l
  | _ => none
def lkC (o : Option O) : Option Str := match o with
  | some (.ins c _) => some c
  | _ => none
def lkF (cs : List Str) (f : Str) (o : Option O) : Option D := match o with
  | some (.ins c fs) => if c ∈ cs then fs.lookup f else none
  | _ => none
def apL (o : Option (List D)) (j : Nat) (d : D) (S : Sto) : Res D := match o with
  | some l => if l.length < line then .ok .non (S.set j (.lst (l ++ [d]))) else .bad
  | none => .bad
def stL (o : Option (List D)) (j : Nat) (i : Int) (d : D) (S : Sto) : Res Unit := match o with
  | some l => (match ixN l.length i with
    | some k => .ok () (S.set j (.lst (l.set k d)))
    | none => .bad)
  | none => .bad
def pfL (cs : List Str) (f : Str) (j : Nat) (d : D) (o : Option O) (S : Sto) : Res Unit := match o with
  | some (.ins c fs) => if c ∈ cs ∧ fs.length < 1000 then .ok () (S.set j (.ins c (putD f d fs))) else .bad
  | _ => .bad
def mkO (al : Bool) (o : Option (List D)) (S : Sto) : Res D := match o with
  | some l => mkL al l S
  | none => .bad
section
variable {α : Type} {F : Fns} {e : Dn.Env} {S : Sto} {j : Nat} {i : Int} {d d' : D} {l m : List D} {cs : List Str} {c f : Str} {fs : List (Str × D)} {al : Bool} {lo hi : Option Int}
theorem l_L : lkL (some (.lst l)) = some l := rfl
theorem l_C : lkC (some (.ins c fs)) = some c := rfl
theorem l_CL : lkC (some (.lst l)) = none := rfl
theorem l_F : lkF cs f (some (.ins c fs)) = if c ∈ cs then fs.lookup f else none := rfl
theorem l_ap : apL (some l) j d S = if l.length < line then .ok .non (S.set j (.lst (l ++ [d]))) else .bad := rfl
theorem l_st {k : Nat} (h : ixN l.length i = some k) : stL (some l) j i d S = .ok () (S.set j (.lst (l.set k d))) := by unfold stL; simp only [h]
theorem l_pf : pfL cs f j d (some (.ins c fs)) S = if c ∈ cs ∧ fs.length < 1000 then .ok () (S.set j (.ins c (putD f d fs))) else .bad := rfl
theorem l_mk : mkO al (some l) S = mkL al l S := rfl
theorem l_seqOf : seqOf (.ref j) S = lkL S[j]? := rfl
theorem l_seqOfT : seqOf (.tup l) S = some l := rfl
theorem l_seqOfL : seqOf (.tmp l) S = some l := rfl
theorem l_ix : evIx (.ref j) (.int i) S = ofO ((lkL S[j]?).bind fun l => L2.atI l i) S := rfl
theorem l_seqIt : seqIt (.ref j) S = (lkL S[j]?).map fun l => (l, [(j, l)]) := by
  show (match S[j]? with
    | some (.lst l) => some (l, [(j, l)])
    | _ => none) = _
  cases S[j]? with
  | none => rfl
  | some o => cases o <;> rfl
theorem l_en : enIt (.ref j) S = (lkL S[j]?).map fun l => (enumD 0 l, [(j, l)]) := by
  show (seqIt (.ref j) S).map _ = _
  rw [l_seqIt]
  cases lkL S[j]? <;> rfl
theorem l_tup : pTup (.ref j) S = ofO ((lkL S[j]?).map D.tup) S := rfl
theorem l_isL : isLstB (.ref j) S = (lkL S[j]?).isSome := by
  show (true && (lkL S[j]?).isSome) = _
  rw [Bool.true_and]
theorem l_app : evApp (.ref j) [d] S = apL (lkL S[j]?) j d S := by
  show (match S[j]? with
    | some (.lst l) => if l.length < line then Res.ok D.non (S.set j (.lst (l ++ [d]))) else .bad
    | _ => .bad) = _
  cases S[j]? with
  | none => rfl
  | some o => cases o <;> rfl
theorem l_set : evSet (.ref j) (.int i) d S = stL (lkL S[j]?) j i d S := by
  show (match S[j]? with
    | some (.lst l) => (match ixN l.length i with
      | some k => Res.ok () (S.set j (.lst (l.set k d)))
      | none => .bad)
    | _ => .bad) = _
  cases S[j]? with
  | none => rfl
  | some o => cases o <;> rfl
theorem l_len : pLen (.ref j) S = ofO (((match S[j]? with
    | some (.lst l) => some (l.length : Int)
    | some (.dK l) => some (l.length : Int)
    | _ => none)).map D.int) S := rfl
theorem l_fld : fldO cs f (.ref j) S = lkF cs f S[j]? := by
  show (match S[j]? with
    | some (.ins c fs) => if c ∈ cs then fs.lookup f else none
    | _ => none) = _
  cases S[j]? with
  | none => rfl
  | some o => cases o <;> rfl
theorem l_insC : insC (.ref j) S = lkC S[j]? := by
  show (match S[j]? with
    | some (.ins c _) => some c
    | _ => none) = _
  cases S[j]? with
  | none => rfl
  | some o => cases o <;> rfl
theorem l_putF : evPutF cs f (.ref j) d S = pfL cs f j d S[j]? S := by
  show (match S[j]? with
    | some (.ins c fs) => if c ∈ cs ∧ fs.length < 1000 then Res.ok () (S.set j (.ins c (putD f d fs))) else .bad
    | _ => .bad) = _
  cases S[j]? with
  | none => rfl
  | some o => cases o <;> rfl
theorem l_lst : pLst al d S = mkO al (seqOf d S) S := by
  show (match seqOf d S with
    | some l => mkL al l S
    | none => .bad) = _
  cases seqOf d S <;> rfl
theorem l_cutT : evCut al (.tup l) lo hi S = .ok (.tup (cutD l lo hi)) S := rfl
theorem l_cutL : evCut al (.tmp l) lo hi S = mkL al (cutD l lo hi) S := rfl
theorem l_cutR : evCut al (.ref j) lo hi S = mkO al ((lkL S[j]?).map fun l => cutD l lo hi) S := by
  show (match seqOf (.ref j) S with
    | some l => mkL al (cutD l lo hi) S
    | none => .bad) = _
  show (match lkL S[j]? with
    | some l => mkL al (cutD l lo hi) S
    | none => .bad) = _
  cases lkL S[j]? <;> rfl
theorem l_cutC {z : List Int} : evCut al (.scr z) lo hi S = mkL al (cutD (z.map .int) lo hi) S := rfl
theorem l_sum : pSumT (.ref j) S = ofO (((lkL S[j]?).bind intL).map fun l => D.int l.sum) S := rfl
theorem l_catRR : evAddA al (.ref j) (.tmp m) S = mkO al ((lkL S[j]?).map (· ++ m)) S := by
  show (match lkL S[j]? with
    | some l => mkL al (l ++ m) S
    | none => evAdd (.ref j) (.tmp m) S) = _
  cases lkL S[j]? <;> rfl
theorem l_catL : evAddA al (.tmp l) (.tmp m) S = mkL al (l ++ m) S := rfl
theorem at_nat {β : Type} {xs : List β} {k : Nat} : L2.atI xs (k : Int) = xs[k]? := by
  unfold L2.atI ixN
  rw [if_pos (by omega)]
  by_cases h : (k : Int) < xs.length
  · rw [if_pos h, Int.toNat_natCast]; rfl
  · rw [if_neg h, List.getElem?_eq_none (by omega)]; rfl
theorem at_int {β : Type} {xs : List β} {i : Int} (h : 0 ≤ i) : L2.atI xs i = xs[i.toNat]? := by
  obtain ⟨k, rfl⟩ := Int.eq_ofNat_of_zero_le h
  rw [at_nat, Int.toNat_natCast]
theorem at_0 {β : Type} {x : β} {xs : List β} : L2.atI (x :: xs) 0 = some x := at_nat (k := 0)
theorem at_1 {β : Type} {x y : β} {xs : List β} : L2.atI (x :: y :: xs) 1 = some y := at_nat (k := 1)
theorem at_2 {β : Type} {x y z : β} {xs : List β} : L2.atI (x :: y :: z :: xs) 2 = some z := at_nat (k := 2)
theorem at_3 {β : Type} {x y z u : β} {xs : List β} : L2.atI (x :: y :: z :: u :: xs) 3 = some u := at_nat (k := 3)
theorem at_last {β : Type} {x : β} {xs : List β} : L2.atI (xs ++ [x]) (-1) = some x := by
  unfold L2.atI ixN
  rw [if_neg (by decide), if_pos (by rw [List.length_append, List.length_singleton]; omega)]
  show (xs ++ [x])[_]? = _
  have : (-1 + ((xs ++ [x]).length : Int)).toNat = xs.length := by rw [List.length_append, List.length_singleton]; omega
  rw [this, List.getElem?_append_right (Nat.le_refl _), Nat.sub_self]
  rfl
theorem at_m1 {β : Type} {xs : List β} : L2.atI xs (-1) = xs.getLast? := by
  rcases List.eq_nil_or_concat xs with h | ⟨l, x, h⟩
  · subst h; rfl
  · subst h; rw [List.concat_eq_append, at_last]; simp
theorem ix_nat {n k : Nat} (h : k < n) : ixN n (k : Int) = some k := by
  unfold ixN
  rw [if_pos (by omega), if_pos (by omega), Int.toNat_natCast]
theorem ix_int {n : Nat} {i : Int} (h : 0 ≤ i ∧ i < n) : ixN n i = some i.toNat := by
  unfold ixN
  rw [if_pos h.1, if_pos h.2]
theorem st_0 {x : D} {xs : List D} : stL (some (x :: xs)) j 0 d S = .ok () (S.set j (.lst (d :: xs))) := l_st (k := 0) (by unfold ixN; rw [if_pos (by decide), if_pos (by simp only [List.length_cons]; omega)]; rfl)
theorem st_1 {x y : D} {xs : List D} : stL (some (x :: y :: xs)) j 1 d S = .ok () (S.set j (.lst (x :: d :: xs))) := l_st (k := 1) (by unfold ixN; rw [if_pos (by decide), if_pos (by simp only [List.length_cons]; omega)]; rfl)
theorem st_2 {x y z : D} {xs : List D} : stL (some (x :: y :: z :: xs)) j 2 d S = .ok () (S.set j (.lst (x :: y :: d :: xs))) := l_st (k := 2) (by unfold ixN; rw [if_pos (by decide), if_pos (by simp only [List.length_cons]; omega)]; rfl)
theorem cut_all {β : Type} {l : List β} : cutD l none none = l := by
  unfold cutD
  show (l.drop 0).take (l.length - 0) = l
  simp
theorem cut_fromN {β : Type} (l : List β) {k : Nat} : cutD l (some (k : Int)) none = l.drop k := by
  unfold cutD
  have e1 : HT.sIx l.length 0 (some (k : Int)) = min k l.length := HT.sIx_nat _ _ _
  have e2 : HT.sIx l.length l.length none = l.length := rfl
  rw [e1, e2]
  rw [List.take_of_length_le (by rw [List.length_drop]; omega)]
  by_cases h : k ≤ l.length
  · rw [Nat.min_eq_left h]
  · rw [Nat.min_eq_right (by omega), List.drop_length, List.drop_eq_nil_of_le (by omega)]
theorem cut_toN {β : Type} (l : List β) {k : Nat} : cutD l none (some (k : Int)) = l.take k := by
  unfold cutD
  have e1 : HT.sIx l.length l.length (some (k : Int)) = min k l.length := HT.sIx_nat _ _ _
  have e2 : HT.sIx l.length 0 none = 0 := rfl
  rw [e1, e2]
  show (l.drop 0).take (min k l.length - 0) = _
  rw [List.drop_zero, Nat.sub_zero]
  by_cases h : k ≤ l.length
  · rw [Nat.min_eq_left h]
  · rw [Nat.min_eq_right (by omega), List.take_length, List.take_of_length_le (by omega)]
theorem cut_fromI {β : Type} (l : List β) {i : Int} (h : 0 ≤ i) : cutD l (some i) none = l.drop i.toNat := by
  obtain ⟨k, rfl⟩ := Int.eq_ofNat_of_zero_le h
  rw [cut_fromN, Int.toNat_natCast]
theorem cut_toI {β : Type} (l : List β) {i : Int} (h : 0 ≤ i) : cutD l none (some i) = l.take i.toNat := by
  obtain ⟨k, rfl⟩ := Int.eq_ofNat_of_zero_le h
  rw [cut_toN, Int.toNat_natCast]
end
end Dn

set_option Elab.async false
set_option linter.all false
set_option maxRecDepth 100000
set_option maxHeartbeats 400000
namespace Dn
open PySem PySem.Spec PyProof.Rows L2
section
variable {α β : Type} {F : Fns} {e : Dn.Env} {S : Sto} {a b c : XE}
theorem f_itR3 : itR3 a b c F e S = (a F e S).bd fun d S => (b F e S).bd fun d' S => (c F e S).bd fun d2 S => (toInt d S).bd fun i S => (toInt d' S).bd fun j S => (toInt d2 S).bd fun c S => if (i62 i && i62 j && decide (c = -1)) = true then .ok (rngL i (-1) (i - j).toNat, []) S else .bad := by
  show M.bind _ _ _ = _
  rw [f_bind]; congr 1; funext d S; rw [f_bind]; congr 1; funext d' S; rw [f_bind]; congr 1; funext d2 S; rw [f_bind]; congr 1; funext i S; rw [f_bind]; congr 1; funext j S; rw [f_bind]; congr 1; funext c S
  split
  · rename_i h
    have : c = -1 := by
      rw [Bool.and_eq_true] at h
      exact of_decide_eq_true h.2
    subst this
    rfl
  · rfl
/-- range(n - 1, -1, -1) -/
theorem for_down {body : XS} {g : XG} {k : Dn.Env → Sto → RS} {Q : RS → Prop} {n : Nat} {i0 : Int} (hi : i0 = (n : Int) - 1) (I : Nat → Dn.Env → Sto → Prop)
    (h0 : I n e S) (step : ∀ i e S, i < n → I (i + 1) e S → Ho (g F e (.int (i : Nat)) S) (OkP fun e1 S1 => Ho (body F e1 S1) (LP (I i) (fun e S => Ho (k e S) Q) Q))) (fin : ∀ e S, I 0 e S → Ho (k e S) Q) :
    Ho ((loopF F body g [] (rngL i0 (-1) n) e S).sq k) Q := by
  refine for_done (List.range n) (fun (i : Nat) => D.int (i0 + (i : Int) * (-1))) (fun done e S => I (n - done.length) e S) rfl (fun _ _ _ _ => rfl) h0 ?_ (fun e S i => fin e S (by rw [List.length_range, Nat.sub_self] at i; exact i))
  intro done x left e S h i
  obtain ⟨h1, h2⟩ := range_at h
  subst h1
  have e1 : i0 + (done.length : Int) * (-1) = ((n - done.length - 1 : Nat) : Int) := by omega
  have e2 : n - done.length = (n - done.length - 1) + 1 := by omega
  rw [e2] at i
  have := step (n - done.length - 1) e S (by omega) i
  rw [List.length_append, List.length_singleton, e1, show n - (done.length + 1) = n - done.length - 1 by omega]
  exact this
theorem minL_eq {l : List Int} {m : Int} (h : m ∈ l) (hm : ∀ y ∈ l, m ≤ y) : minL l = some m := by
  cases h1 : minL l with
  | none =>
    cases l with
    | nil => cases h
    | cons x r =>
      unfold minL at h1
      cases h2 : minL r <;> rw [h2] at h1 <;> cases h1
  | some x =>
    obtain ⟨q1, q2⟩ := minL_ok h1
    have := hm x q1
    have := q2 m h
    congr 1
    omega
theorem maxL_eq {l : List Int} {m : Int} (h : m ∈ l) (hm : ∀ y ∈ l, y ≤ m) : maxL l = some m := by
  cases h1 : maxL l with
  | none =>
    cases l with
    | nil => cases h
    | cons x r =>
      unfold maxL at h1
      cases h2 : maxL r <;> rw [h2] at h1 <;> cases h1
  | some x =>
    obtain ⟨q1, q2⟩ := maxL_ok h1
    have := hm x q1
    have := q2 m h
    congr 1
    omega
theorem f_minL {l : List Int} : pMinU [.tmp (l.map .int)] S = ofO ((minL l).map D.int) S := by
  show ofO ((intL (l.map D.int)).bind fun l => (minL l).map D.int) S = _
  rw [ints_map]
  rfl
theorem f_maxL {l : List Int} : pMaxU [.tmp (l.map .int)] S = ofO ((maxL l).map D.int) S := by
  show ofO ((intL (l.map D.int)).bind fun l => (maxL l).map D.int) S = _
  rw [ints_map]
  rfl
theorem dat_ref {j : Nat} {l : List D} (h : S[j]? = some (.lst l)) (n : Nat) : dat S n (.ref j) = dat S n (.tmp l) := by
  cases n with
  | zero => rfl
  | succ n =>
    show (match S[j]? with
    | some (.lst l) => (optAll (dat S n) l).map .list
    | _ => none : Option PyData) = _
    rw [h]
    rfl
theorem eqF_ref {tb : Str → Option Nat} {j : Nat} {l m : List D} (h : S[j]? = some (.lst l)) : evEqF tb F (.ref j) (.tmp m) S = evEqF tb F (.tmp l) (.tmp m) S := by
  have h1 : insC (.ref j) S = none := by rw [l_insC, h]; rfl
  unfold evEqF
  rw [h1]
  show evEq (.ref j) (.tmp m) S = evEq (.tmp l) (.tmp m) S
  unfold evEq
  have : eqD S (.ref j) (.tmp m) = eqD S (.tmp l) (.tmp m) := by
    show eqD0 S (.ref j) (.tmp m) = eqD0 S (.tmp l) (.tmp m)
    unfold eqD0
    rw [dat_ref h]
  rw [this]
end
end Dn

set_option Elab.async false
set_option linter.all false
set_option maxRecDepth 100000
set_option maxHeartbeats 400000
namespace Dn
open PySem PySem.Spec PyProof.Rows L2
/-! ### data that are shown: sizes by a count over D -/
mutual
def plD : D → Bool
  | .non => true
  | .bl _ => true
  | .int i => decide (i.natAbs < 2 ^ 150)
  | .tup l => plDL l
  | .tmp l => plDL l
  | _ => false
def plDL : List D → Bool
  | [] => true
  | d :: r => plD d && plDL r
end
mutual
def szD : D → Nat
  | .non => 4
  | .bl _ => 5
  | .int _ => 152
  | .tup l => 3 + szDL l
  | .tmp l => 2 + szDL l
  | _ => 0
def szDL : List D → Nat
  | [] => 0
  | d :: r => szD d + 2 + szDL r
end
mutual
def dpD : D → Nat
  | .tup l => 1 + dpDL l
  | .tmp l => 1 + dpDL l
  | _ => 1
def dpDL : List D → Nat
  | [] => 0
  | d :: r => max (dpD d) (dpDL r)
end
mutual
def pdD : D → PyData
  | .bl b => .bool b
  | .int i => .int i
  | .tup l => .tuple (pdDL l)
  | .tmp l => .list (pdDL l)
  | _ => .none
def pdDL : List D → List PyData
  | [] => []
  | d :: r => pdD d :: pdDL r
end
mutual
theorem pd_ok : ∀ {d : D}, plD d = true → plainS (pdD d) = true ∧ szS (pdD d) = szD d ∧ (pdD d).depth ≤ dpD d
  | .non, _ => by simp [pdD, plainS, szS, szD, dpD, PyData.depth]
  | .bl _, _ => by simp [pdD, plainS, szS, szD, dpD, PyData.depth]
  | .int i, h => by
    have h : i.natAbs < 2 ^ 150 := by simpa [plD] using h
    simp [pdD, plainS, szS, szD, dpD, PyData.depth, h]
  | .tup l, h => by
    obtain ⟨h1, h2, h3⟩ := pd_okL (l := l) (by simpa [plD] using h)
    simp only [pdD, plainS, szS, szD, dpD, PyData.depth]
    exact ⟨h1, by omega, by omega⟩
  | .tmp l, h => by
    obtain ⟨h1, h2, h3⟩ := pd_okL (l := l) (by simpa [plD] using h)
    simp only [pdD, plainS, szS, szD, dpD, PyData.depth]
    exact ⟨h1, by omega, by omega⟩
  | .str _, h => by simp [plD] at h
  | .ref _, h => by simp [plD] at h
  | .scr _, h => by simp [plD] at h
  | .ty _, h => by simp [plD] at h
  | .gl _, h => by simp [plD] at h
theorem pd_okL : ∀ {l : List D}, plDL l = true → plainSL (pdDL l) = true ∧ szSL (pdDL l) = szDL l ∧ PyData.depthAll (pdDL l) ≤ dpDL l
  | [], _ => by simp [pdDL, plainSL, szSL, szDL, dpDL, PyData.depthAll]
  | d :: r, h => by
    have h : plD d = true ∧ plDL r = true := by simpa [plDL] using h
    obtain ⟨a1, a2, a3⟩ := pd_ok h.1
    obtain ⟨b1, b2, b3⟩ := pd_okL h.2
    simp only [pdDL, plainSL, szSL, szDL, dpDL, PyData.depthAll]
    exact ⟨by rw [a1, b1]; rfl, by omega, by omega⟩
end
mutual
theorem pd_dat {S : Sto} : ∀ {d : D} {n : Nat}, plD d = true → dpD d ≤ n → dat S n d = some (pdD d)
  | .non, n, _, h => by
    cases n with
    | zero => simp [dpD] at h
    | succ n => rfl
  | .bl _, n, _, h => by
    cases n with
    | zero => simp [dpD] at h
    | succ n => rfl
  | .int _, n, _, h => by
    cases n with
    | zero => simp [dpD] at h
    | succ n => rfl
  | .tup l, n, hp, h => by
    cases n with
    | zero => simp [dpD] at h
    | succ n =>
      show (optAll (dat S n) l).map PyData.tuple = _
      rw [pd_datL (by simpa [plD] using hp) (by simp only [dpD] at h; omega)]
      rfl
  | .tmp l, n, hp, h => by
    cases n with
    | zero => simp [dpD] at h
    | succ n =>
      show (optAll (dat S n) l).map PyData.list = _
      rw [pd_datL (by simpa [plD] using hp) (by simp only [dpD] at h; omega)]
      rfl
  | .str _, _, h, _ => by simp [plD] at h
  | .ref _, _, h, _ => by simp [plD] at h
  | .scr _, _, h, _ => by simp [plD] at h
  | .ty _, _, h, _ => by simp [plD] at h
  | .gl _, _, h, _ => by simp [plD] at h
theorem pd_datL {S : Sto} : ∀ {l : List D} {n : Nat}, plDL l = true → dpDL l ≤ n → optAll (dat S n) l = some (pdDL l)
  | [], _, _, _ => rfl
  | d :: r, n, hp, h => by
    have hp : plD d = true ∧ plDL r = true := by simpa [plDL] using hp
    simp only [dpDL] at h
    show ((dat S n d).bind fun b => (optAll (dat S n) r).map (b :: ·)) = _
    rw [pd_dat hp.1 (by omega), pd_datL hp.2 (by omega)]
    rfl
end
theorem pl_ref : ∀ {d : D}, plD d = true → isRefD d = true := fun {d} h => by
  cases d <;> first | rfl | simp [plD] at h
theorem repr_pl {d : D} (h1 : plD d = true) (h2 : dpD d ≤ 60) (h3 : szD d ≤ 1000000) : ∃ t : Str, ∀ S, pRepr d S = .ok (.str t) S := by
  obtain ⟨a1, a2, a3⟩ := pd_ok h1
  exact ⟨_, fun S => pRepr_ok (pd_dat h1 h2) (pl_ref h1) a1 (by omega) (by omega)⟩
theorem plDL_ints : ∀ {l : List Int}, (∀ z ∈ l, z.natAbs < 2 ^ 150) → plDL (l.map .int) = true
  | [], _ => rfl
  | a :: l, h => by
    have h1 := h a List.mem_cons_self
    have h2 := plDL_ints (l := l) fun x hx => h x (List.mem_cons_of_mem _ hx)
    simp [plDL, plD, h1, h2]
theorem szDL_ints : ∀ l : List Int, szDL (l.map .int) = 154 * l.length
  | [] => rfl
  | a :: l => by
    have := szDL_ints l
    simp only [List.map_cons, szDL, szD, List.length_cons]
    omega
theorem dpDL_ints : ∀ l : List Int, dpDL (l.map .int) ≤ 1
  | [] => by simp [dpDL]
  | a :: l => by
    have := dpDL_ints l
    simp only [List.map_cons, dpDL, dpD]
    omega
theorem eqD_pl {d1 d2 : D} {S : Sto} (h1 : plD d1 = true) (h2 : plD d2 = true) (k1 : dpD d1 ≤ 60) (k2 : dpD d2 ≤ 60) : dat S 60 d1 = some (pdD d1) ∧ dat S 60 d2 = some (pdD d2) := ⟨pd_dat h1 k1, pd_dat h2 k2⟩
end Dn

set_option Elab.async false
set_option linter.all false
set_option maxRecDepth 100000
set_option maxHeartbeats 1000000
namespace Dn
open PySem PySem.Spec PyProof.Rows L2
theorem eqD_int (S : Sto) (i j : Int) : eqD S (.int i) (.int j) = some (decide (i = j)) := by
  have h : ∀ k : Int, SeqAt.shaped (.int k) = true := fun k => by simp [SeqAt.shaped, PyData.canLay0, PyData.depth]
  show (if (SeqAt.shaped (.int i) && SeqAt.shaped (.int j)) = true then some (PyData.eqv (.int i) (.int j)) else none) = _
  rw [h, h]
  simp only [PyData.eqv, Bool.and_self, if_true]
  by_cases e : i = j
  · subst e; simp
  · simp [e]
theorem eqD_str (S : Sto) (i j : Str) : eqD S (.str i) (.str j) = some (decide (i = j)) := rfl
theorem evEqF_int (tb : Str → Option Nat) (F : Fns) (i j : Int) (S : Sto) : evEqF tb F (.int i) (.int j) S = .ok (.bl (decide (i = j))) S := by
  show evEq (.int i) (.int j) S = _
  unfold evEq
  rw [eqD_int]
  rfl
theorem evEqF_str (tb : Str → Option Nat) (F : Fns) (i j : Str) (S : Sto) : evEqF tb F (.str i) (.str j) S = .ok (.bl (decide (i = j))) S := by
  show evEq (.str i) (.str j) S = _
  unfold evEq
  rw [eqD_str]
  rfl
theorem evNe_str (i j : Str) (S : Sto) : evNe (.str i) (.str j) S = .ok (.bl (!decide (i = j))) S := by
  unfold evNe
  rw [eqD_str]
  rfl
theorem pSumT_tup (ns : List Int) (S : Sto) : pSumT (.tup (ns.map .int)) S = .ok (.int ns.sum) S := by
  unfold pSumT
  show ofO ((intL (ns.map D.int)).map fun l => D.int l.sum) S = _
  rw [ints_map]
  rfl
theorem pSumT_tmp (ns : List Int) (S : Sto) : pSumT (.tmp (ns.map .int)) S = .ok (.int ns.sum) S := by
  unfold pSumT
  show ofO ((intL (ns.map D.int)).map fun l => D.int l.sum) S = _
  rw [ints_map]
  rfl
theorem pAll_tmp (bs : List Bool) (S : Sto) : pAll (.tmp (bs.map .bl)) S = .ok (.bl (bs.all id)) S := by
  unfold pAll
  show ofO ((blL (bs.map D.bl)).map fun l => D.bl (l.all id)) S = _
  rw [bls_map]
  rfl
theorem pLen_tup (l : List D) (S : Sto) : pLen (.tup l) S = .ok (.int l.length) S := rfl
theorem pLen_tmp (l : List D) (S : Sto) : pLen (.tmp l) S = .ok (.int l.length) S := rfl
end Dn
namespace K69
open PySem PySem.Spec PyProof.Rows L2 Dn
theorem is_integer_int (n : Nat) (i : Int) (S : Sto) : cal g (n + 1) 0 [.int i] S = .ok (.bl true) S := by
  rw [c_is_integer]; rfl
theorem is_within_int (n : Nat) (i a b : Int) (S : Sto) : cal g (n + 2) 1 [.int i, .int a, .int b] S = .ok (.bl (decide (a ≤ i) && decide (i ≤ b))) S := by
  rw [c_is_within]
  simp only [a_bind, a_pure, a_stuck, a_noX, a_runB, a_sSeq, a_eS, a_sIf, a_sRet, a_sRetN, a_sSet, a_sPar, a_sAsg, a_sEx, a_sNil, a_xVar, a_xC, a_x2, a_x2F, a_x1, a_xIf, a_xAn, a_xOo, a_xNo, a_xTru, a_xBl, a_tNo, a_tAn, a_tOo, a_xCons, a_xNil, a_xTup, a_xMk, a_xP, a_xCall, a_xCallK, a_x3, a_ev1, a_ev2, a_truB, a_truI, a_toBl, a_add, a_sub, a_mul, a_div, a_mod, a_pow, a_neg, a_lt, a_le, a_gt, a_ge, a_int, a_abs, a_min, a_max, ite_app, List.map_cons, List.map_nil, List.length_cons, List.length_nil, List.cons_append, List.nil_append, List.getElem?_cons_zero, List.getElem?_cons_succ, List.set_cons_zero, List.set_cons_succ, List.replicate_succ, List.replicate_zero, List.zip_cons_cons, List.zip_nil_left, List.zip_nil_right, List.foldl_cons, List.foldl_nil, Nat.reduceAdd, Nat.reduceSub, Nat.zero_add, if_true, if_false, Bool.false_eq_true, reduceIte, reduceCtorEq, x_is_within, is_integer_int]
  by_cases h : a ≤ i <;> simp [h, a_bind, a_pure, a_stuck, a_noX, a_runB, a_sSeq, a_eS, a_sIf, a_sRet, a_sRetN, a_sSet, a_sPar, a_sAsg, a_sEx, a_sNil, a_xVar, a_xC, a_x2, a_x2F, a_x1, a_xIf, a_xAn, a_xOo, a_xNo, a_xTru, a_xBl, a_tNo, a_tAn, a_tOo, a_xCons, a_xNil, a_xTup, a_xMk, a_xP, a_xCall, a_xCallK, a_x3, a_ev1, a_ev2, a_truB, a_truI, a_toBl, a_add, a_sub, a_mul, a_div, a_mod, a_pow, a_neg, a_lt, a_le, a_gt, a_ge, a_int, a_abs, a_min, a_max, ite_app, List.map_cons, List.map_nil, List.length_cons, List.length_nil, List.cons_append, List.nil_append, List.getElem?_cons_zero, List.getElem?_cons_succ, List.set_cons_zero, List.set_cons_succ, List.replicate_succ, List.replicate_zero, List.zip_cons_cons, List.zip_nil_left, List.zip_nil_right, List.foldl_cons, List.foldl_nil, Nat.reduceAdd, Nat.reduceSub, Nat.zero_add, if_true, if_false, Bool.false_eq_true, reduceIte, reduceCtorEq]
theorem is_natural_int (n : Nat) (i : Int) (S : Sto) : cal g (n + 2) 2 [.int i] S = .ok (.bl (decide (0 ≤ i))) S := by
  rw [c_is_natural]
  simp only [a_bind, a_pure, a_stuck, a_noX, a_runB, a_sSeq, a_eS, a_sIf, a_sRet, a_sRetN, a_sSet, a_sPar, a_sAsg, a_sEx, a_sNil, a_xVar, a_xC, a_x2, a_x2F, a_x1, a_xIf, a_xAn, a_xOo, a_xNo, a_xTru, a_xBl, a_tNo, a_tAn, a_tOo, a_xCons, a_xNil, a_xTup, a_xMk, a_xP, a_xCall, a_xCallK, a_x3, a_ev1, a_ev2, a_truB, a_truI, a_toBl, a_add, a_sub, a_mul, a_div, a_mod, a_pow, a_neg, a_lt, a_le, a_gt, a_ge, a_int, a_abs, a_min, a_max, ite_app, List.map_cons, List.map_nil, List.length_cons, List.length_nil, List.cons_append, List.nil_append, List.getElem?_cons_zero, List.getElem?_cons_succ, List.set_cons_zero, List.set_cons_succ, List.replicate_succ, List.replicate_zero, List.zip_cons_cons, List.zip_nil_left, List.zip_nil_right, List.foldl_cons, List.foldl_nil, Nat.reduceAdd, Nat.reduceSub, Nat.zero_add, if_true, if_false, Bool.false_eq_true, reduceIte, reduceCtorEq, x_is_natural, is_integer_int]
theorem check_people_ok (n : Nat) (p : Int) (hp : 1 ≤ p) (S : Sto) : cal g (n + 3) 5 [.int p] S = .ok .non S := by
  rw [c_check_people]
  have h1 : (0 : Int) ≤ p := by omega
  have h2 : ¬ p = 0 := by omega
  simp only [a_bind, a_pure, a_stuck, a_noX, a_runB, a_sSeq, a_eS, a_sIf, a_sRet, a_sRetN, a_sSet, a_sPar, a_sAsg, a_sEx, a_sNil, a_xVar, a_xC, a_x2, a_x2F, a_x1, a_xIf, a_xAn, a_xOo, a_xNo, a_xTru, a_xBl, a_tNo, a_tAn, a_tOo, a_xCons, a_xNil, a_xTup, a_xMk, a_xP, a_xCall, a_xCallK, a_x3, a_ev1, a_ev2, a_truB, a_truI, a_toBl, a_add, a_sub, a_mul, a_div, a_mod, a_pow, a_neg, a_lt, a_le, a_gt, a_ge, a_int, a_abs, a_min, a_max, ite_app, List.map_cons, List.map_nil, List.length_cons, List.length_nil, List.cons_append, List.nil_append, List.getElem?_cons_zero, List.getElem?_cons_succ, List.set_cons_zero, List.set_cons_succ, List.replicate_succ, List.replicate_zero, List.zip_cons_cons, List.zip_nil_left, List.zip_nil_right, List.foldl_cons, List.foldl_nil, Nat.reduceAdd, Nat.reduceSub, Nat.zero_add, if_true, if_false, Bool.false_eq_true, reduceIte, reduceCtorEq, x_check_people, is_natural_int, evEqF_int, h1, h2, decide_true, decide_false, Bool.not_true]
theorem check_places_ok (n : Nat) (pl : Int) (hp : pl = 0 ∨ pl = 1) (S : Sto) : cal g (n + 3) 6 [.int pl] S = .ok .non S := by
  rw [c_check_poll_places]
  have h1 : (0 : Int) ≤ pl := by omega
  have h2 : pl ≤ (2 : Nat) - 1 := by omega
  simp only [a_bind, a_pure, a_stuck, a_noX, a_runB, a_sSeq, a_eS, a_sIf, a_sRet, a_sRetN, a_sSet, a_sPar, a_sAsg, a_sEx, a_sNil, a_xVar, a_xC, a_x2, a_x2F, a_x1, a_xIf, a_xAn, a_xOo, a_xNo, a_xTru, a_xBl, a_tNo, a_tAn, a_tOo, a_xCons, a_xNil, a_xTup, a_xMk, a_xP, a_xCall, a_xCallK, a_x3, a_ev1, a_ev2, a_truB, a_truI, a_toBl, a_add, a_sub, a_mul, a_div, a_mod, a_pow, a_neg, a_lt, a_le, a_gt, a_ge, a_int, a_abs, a_min, a_max, ite_app, List.map_cons, List.map_nil, List.length_cons, List.length_nil, List.cons_append, List.nil_append, List.getElem?_cons_zero, List.getElem?_cons_succ, List.set_cons_zero, List.set_cons_succ, List.replicate_succ, List.replicate_zero, List.zip_cons_cons, List.zip_nil_left, List.zip_nil_right, List.foldl_cons, List.foldl_nil, Nat.reduceAdd, Nat.reduceSub, Nat.zero_add, if_true, if_false, Bool.false_eq_true, reduceIte, reduceCtorEq, x_check_poll_places, pLen_tup, is_within_int, h1, h2, decide_true, Bool.not_true, Bool.and_self]
theorem check_poll_ok (n : Nat) (j : Nat) (fs : List (Str × D)) (S : Sto) (h : S[j]? = some (.ins "Poll" fs)) : cal g (n + 1) 8 [.ref j] S = .ok .non S := by
  rw [c_check_poll]
  have e : pIsi g.cls (.ref j) (.gl "Poll") S = .ok (.bl true) S := by
    have et : tyS (.ref j) S = some (.inr "Poll") := by
      show (match S[j]? with
      | some (.lst _) => some (.inl "list")
      | some (.dK _) => some (.inl "dict")
      | some (.ins c _) => some (.inr c)
      | none => none : Option (String ⊕ Str)) = _
      rw [h]
    unfold pIsi
    rw [et]
    rfl
  simp only [a_bind, a_pure, a_stuck, a_noX, a_runB, a_sSeq, a_eS, a_sIf, a_sRet, a_sRetN, a_sSet, a_sPar, a_sAsg, a_sEx, a_sNil, a_xVar, a_xC, a_x2, a_x2F, a_x1, a_xIf, a_xAn, a_xOo, a_xNo, a_xTru, a_xBl, a_tNo, a_tAn, a_tOo, a_xCons, a_xNil, a_xTup, a_xMk, a_xP, a_xCall, a_xCallK, a_x3, a_ev1, a_ev2, a_truB, a_truI, a_toBl, a_add, a_sub, a_mul, a_div, a_mod, a_pow, a_neg, a_lt, a_le, a_gt, a_ge, a_int, a_abs, a_min, a_max, ite_app, List.map_cons, List.map_nil, List.length_cons, List.length_nil, List.cons_append, List.nil_append, List.getElem?_cons_zero, List.getElem?_cons_succ, List.set_cons_zero, List.set_cons_succ, List.replicate_succ, List.replicate_zero, List.zip_cons_cons, List.zip_nil_left, List.zip_nil_right, List.foldl_cons, List.foldl_nil, Nat.reduceAdd, Nat.reduceSub, Nat.zero_add, if_true, if_false, Bool.false_eq_true, reduceIte, reduceCtorEq, x_check_poll, e, Bool.not_true]
end K69

set_option Elab.async false
set_option linter.all false
set_option maxRecDepth 100000
set_option maxHeartbeats 1000000
namespace Dn
open PySem PySem.Spec PyProof.Rows L2
theorem join_len {y : Str} {b : Nat} : ∀ {ps : List Str}, (∀ p ∈ ps, p.length ≤ b) → (Str.join y ps).length ≤ ps.length * (b + y.length)
  | [], _ => by
    have : (Str.join y []).length = 0 := rfl
    omega
  | [p], h => by
    have := h p List.mem_cons_self
    show p.length ≤ 1 * (b + y.length)
    omega
  | p :: q :: r, h => by
    have h1 := h p List.mem_cons_self
    have h2 := join_len (y := y) (ps := q :: r) fun z hz => h z (List.mem_cons_of_mem _ hz)
    show (p ++ y ++ Str.join y (q :: r)).length ≤ _
    rw [Str.length_append, Str.length_append]
    have e : (p :: q :: r).length * (b + y.length) = (b + y.length) + (q :: r).length * (b + y.length) := by
      rw [List.length_cons (a := p), Nat.add_mul, Nat.one_mul, Nat.add_comm]
    rw [e]
    omega
theorem intT_len {i : Int} (h : i.natAbs < 2 ^ 60) : (Str.ofString (toString i)).length ≤ 62 := by
  have hl : i.natAbs.log2 < 60 ∨ i.natAbs = 0 := by
    by_cases h0 : i.natAbs = 0
    · exact .inr h0
    · exact .inl ((Nat.log2_lt h0 (k := 60)).mpr h)
  have hl : i.natAbs.log2 < 60 := by
    rcases hl with h | h
    · exact h
    · rw [h]; decide
  have := PySem.int_text_length_le (k := 60) (by decide) hl
  rw [PySem.ofString_length]
  omega
theorem log60 {i : Int} (h : i.natAbs < 2 ^ 60) : i.natAbs.log2 < 1920 := by
  by_cases h0 : i.natAbs = 0
  · rw [h0]; decide
  · have := (Nat.log2_lt h0 (k := 60)).mpr h
    omega
theorem app_at (S : Sto) (o : O) : (S ++ [o])[S.length]? = some o := by simp
theorem app_set (S : Sto) (o o' : O) : (S ++ [o]).set S.length o' = S ++ [o'] := by simp
end Dn
namespace K69
open PySem PySem.Spec PyProof.Rows L2 Dn
def intT (z : Int) : Str := Str.ofString (toString z)
def numT (ss : List Int) : Str := Str.join " " (ss.map intT)
theorem numT_len {ss : List Int} (h : ∀ z ∈ ss, z.natAbs < 2 ^ 60) : (numT ss).length ≤ ss.length * 63 := by
  have := join_len (y := " ") (b := 62) (ps := ss.map intT) fun p hp => by
    obtain ⟨z, hz, rfl⟩ := List.mem_map.mp hp
    exact intT_len (h z hz)
  rw [List.length_map] at this
  exact this
theorem numbers_text_ok (n : Nat) (ss : List Int) (h : ∀ z ∈ ss, z.natAbs < 2 ^ 60) (hl : ss.length ≤ 100) (S : Sto) : cal g (n + 1) 3 [.tup (ss.map .int)] S = .ok (.str (numT ss)) S := by
  rw [c_numbers_text]
  have e : xComp false (itSeq (xVar 0)) (gNm 1) tYs (xP (ev1 pStr) (xCons (xVar 1) xNil)) [1] (cal g n) [some (.tup (ss.map .int)), none] S = .ok (.tmp ((ss.map D.int).map fun d => match d with | .int z => .str (intT z) | d => d)) S := by
    refine comp_map (eg := fun d => [some (.tup (ss.map .int)), some d]) rfl rfl (fun d hd => ⟨rfl, ?_⟩) (by rw [List.length_map]; unfold line; omega)
    obtain ⟨z, hz, rfl⟩ := List.mem_map.mp hd
    simp only [a_bind, a_pure, a_stuck, a_noX, a_runB, a_sSeq, a_eS, a_sIf, a_sRet, a_sRetN, a_sSet, a_sPar, a_sAsg, a_sEx, a_sNil, a_xVar, a_xC, a_x2, a_x2F, a_x1, a_xIf, a_xAn, a_xOo, a_xNo, a_xTru, a_xBl, a_tNo, a_tAn, a_tOo, a_xCons, a_xNil, a_xTup, a_xMk, a_xP, a_xCall, a_xCallK, a_x3, a_ev1, a_ev2, a_truB, a_truI, a_toBl, a_add, a_sub, a_mul, a_div, a_mod, a_pow, a_neg, a_lt, a_le, a_gt, a_ge, a_int, a_abs, a_min, a_max, ite_app, List.map_cons, List.map_nil, List.length_cons, List.length_nil, List.cons_append, List.nil_append, List.getElem?_cons_zero, List.getElem?_cons_succ, List.set_cons_zero, List.set_cons_succ, List.replicate_succ, List.replicate_zero, List.zip_cons_cons, List.zip_nil_left, List.zip_nil_right, List.foldl_cons, List.foldl_nil, Nat.reduceAdd, Nat.reduceSub, Nat.zero_add, if_true, if_false, Bool.false_eq_true, reduceIte, reduceCtorEq, pStr, log60 (h z hz)]
    rfl
  have e2 : ((ss.map D.int).map fun d => match d with | .int z => D.str (intT z) | d => d) = (ss.map intT).map D.str := by simp
  have ej : evJoin (.str " ") [.tmp ((ss.map intT).map D.str)] S = .ok (.str (numT ss)) S := by
    unfold evJoin
    show (match strL ((ss.map intT).map D.str) with
    | some ys => if (ys.map (fun y : Str => y.length)).sum + ys.length * (" " : Str).length ≤ line then Res.ok (D.str (Txt.join " " ys)) S else .bad
    | none => .bad) = _
    rw [Dn.strs_map]
    dsimp only
    have hs : ((ss.map intT).map (fun y : Str => y.length)).sum ≤ ss.length * 62 := by
      clear e e2
      induction ss with
      | nil => simp
      | cons a r ih =>
        have h1 := intT_len (h a List.mem_cons_self)
        have h2 := ih (fun z hz => h z (List.mem_cons_of_mem _ hz)) (by rw [List.length_cons] at hl; omega)
        rw [List.map_cons, List.map_cons, List.sum_cons, List.length_cons]
        have : (intT a).length ≤ 62 := h1
        omega
    have h1 : (" " : Str).length = 1 := rfl
    rw [if_pos (by rw [List.length_map, h1]; unfold line; omega), TL.join_eq]
    rfl
  rw [e2] at e
  simp only [a_bind, a_pure, a_stuck, a_noX, a_runB, a_sSeq, a_eS, a_sIf, a_sRet, a_sRetN, a_sSet, a_sPar, a_sAsg, a_sEx, a_sNil, a_xVar, a_xC, a_x2, a_x2F, a_x1, a_xIf, a_xAn, a_xOo, a_xNo, a_xTru, a_xBl, a_tNo, a_tAn, a_tOo, a_xCons, a_xNil, a_xTup, a_xMk, a_xP, a_xCall, a_xCallK, a_x3, a_ev1, a_ev2, a_truB, a_truI, a_toBl, a_add, a_sub, a_mul, a_div, a_mod, a_pow, a_neg, a_lt, a_le, a_gt, a_ge, a_int, a_abs, a_min, a_max, ite_app, List.map_cons, List.map_nil, List.length_cons, List.length_nil, List.cons_append, List.nil_append, List.getElem?_cons_zero, List.getElem?_cons_succ, List.set_cons_zero, List.set_cons_succ, List.replicate_succ, List.replicate_zero, List.zip_cons_cons, List.zip_nil_left, List.zip_nil_right, List.foldl_cons, List.foldl_nil, Nat.reduceAdd, Nat.reduceSub, Nat.zero_add, if_true, if_false, Bool.false_eq_true, reduceIte, reduceCtorEq, x_numbers_text, xBM, isStrB, e, ej]
theorem check_shares_ok (n : Nat) (ss : List Int) (u : Int) (h : ∀ z ∈ ss, 0 ≤ z ∧ z ≤ u) (hl : 2 ≤ ss.length ∧ ss.length ≤ 6) (S : Sto) : cal g (n + 3) 7 [.tup (ss.map .int), .int u] S = .ok .non S := by
  rw [c_check_shares]
  have e1 : pIsi g.cls (.tup (ss.map D.int)) (.ty "tuple") S = .ok (.bl true) S := rfl
  have loop : ∃ e' S', sFor (itEnum (xVar 0)) (gTp 2 (gCn (gNm 2) (gCn (gNm 3) gNl))) (
      sIf (tOo (xBl (x2F (evEqF g.eqs) (xVar 2) (xC (.int 6)))) (tNo (xTru (xCall 1 3 (xCons (xVar 3) (xCons (xC (.int 0)) (xCons (xVar 1) xNil))))))) (sNever) (sNil)) (cal g (n + 2)) [some (.tup (ss.map .int)), some (.int u), none, none] S = .nx e' S' ∧
      (S' = S ∧ ∃ a b k, e' = [some (.tup (ss.map .int)), some (.int u), a, b] ∧ k ≤ ss.length ∧ [] = enumD k ((ss.drop k).map .int)) := by
    refine sFor_inv (I := fun l e S' => S' = S ∧ ∃ a b k, e = [some (.tup (ss.map .int)), some (.int u), a, b] ∧ k ≤ ss.length ∧ l = enumD k ((ss.drop k).map .int)) (its := enumD 0 (ss.map .int)) (gs := []) rfl ⟨rfl, none, none, 0, rfl, Nat.zero_le _, rfl⟩ (fun _ _ _ _ => rfl) ?_
    rintro d r e S' ⟨rfl, a, b, k, rfl, hk, hd⟩
    by_cases hlt : k < ss.length
    · rw [List.drop_eq_getElem_cons hlt, List.map_cons] at hd
      have hd : d :: r = .tup [.int (k : Nat), .int ss[k]] :: enumD (k + 1) ((ss.drop (k + 1)).map .int) := hd
      cases hd
      obtain ⟨h1, h2⟩ := h ss[k] (List.getElem_mem hlt)
      have h6 : ¬ ((k : Nat) : Int) = 6 := by omega
      refine ⟨[some (.tup (ss.map .int)), some (.int u), some (.int (k : Nat)), some (.int ss[k])], S', [some (.tup (ss.map .int)), some (.int u), some (.int (k : Nat)), some (.int ss[k])], S', rfl, ?_, rfl, _, _, k + 1, rfl, hlt, rfl⟩
      simp only [a_bind, a_pure, a_stuck, a_noX, a_runB, a_sSeq, a_eS, a_sIf, a_sRet, a_sRetN, a_sSet, a_sPar, a_sAsg, a_sEx, a_sNil, a_xVar, a_xC, a_x2, a_x2F, a_x1, a_xIf, a_xAn, a_xOo, a_xNo, a_xTru, a_xBl, a_tNo, a_tAn, a_tOo, a_xCons, a_xNil, a_xTup, a_xMk, a_xP, a_xCall, a_xCallK, a_x3, a_ev1, a_ev2, a_truB, a_truI, a_toBl, a_add, a_sub, a_mul, a_div, a_mod, a_pow, a_neg, a_lt, a_le, a_gt, a_ge, a_int, a_abs, a_min, a_max, ite_app, List.map_cons, List.map_nil, List.length_cons, List.length_nil, List.cons_append, List.nil_append, List.getElem?_cons_zero, List.getElem?_cons_succ, List.set_cons_zero, List.set_cons_succ, List.replicate_succ, List.replicate_zero, List.zip_cons_cons, List.zip_nil_left, List.zip_nil_right, List.foldl_cons, List.foldl_nil, Nat.reduceAdd, Nat.reduceSub, Nat.zero_add, if_true, if_false, Bool.false_eq_true, reduceIte, reduceCtorEq, evEqF_int, h6, is_within_int, h1, h2, decide_true, decide_false, Bool.and_self, Bool.not_true]
    · have : ss.drop k = [] := List.drop_eq_nil_of_le (by omega)
      rw [this] at hd
      cases hd
  obtain ⟨e', S', h1, rfl, a, b, k, rfl, _, _⟩ := loop
  have h2 : ¬ (ss.length : Int) < 2 := by omega
  simp only [a_bind, a_pure, a_stuck, a_noX, a_runB, a_sSeq, a_eS, a_sIf, a_sRet, a_sRetN, a_sSet, a_sPar, a_sAsg, a_sEx, a_sNil, a_xVar, a_xC, a_x2, a_x2F, a_x1, a_xIf, a_xAn, a_xOo, a_xNo, a_xTru, a_xBl, a_tNo, a_tAn, a_tOo, a_xCons, a_xNil, a_xTup, a_xMk, a_xP, a_xCall, a_xCallK, a_x3, a_ev1, a_ev2, a_truB, a_truI, a_toBl, a_add, a_sub, a_mul, a_div, a_mod, a_pow, a_neg, a_lt, a_le, a_gt, a_ge, a_int, a_abs, a_min, a_max, ite_app, List.map_cons, List.map_nil, List.length_cons, List.length_nil, List.cons_append, List.nil_append, List.getElem?_cons_zero, List.getElem?_cons_succ, List.set_cons_zero, List.set_cons_succ, List.replicate_succ, List.replicate_zero, List.zip_cons_cons, List.zip_nil_left, List.zip_nil_right, List.foldl_cons, List.foldl_nil, Nat.reduceAdd, Nat.reduceSub, Nat.zero_add, if_true, if_false, Bool.false_eq_true, reduceIte, reduceCtorEq, x_check_shares, e1, h1, pLen_tup, List.length_map, h2, decide_false, Bool.not_true]
def pollT (pl : Int) (ss : List Int) : Str := Str.empty ++ "poll " ++ intT pl ++ " " ++ numT ss
def pollF (pl : Int) (ss : List Int) : List (Str × D) := [("own_places", .int pl), ("own_shares", .tup (ss.map .int)), ("own_text", .str (pollT pl ss))]
theorem pollT_eq (pl : Int) (ss : List Int) : pollT pl ss = (((Str.empty ++ "poll ") ++ intT pl) ++ " ") ++ numT ss := rfl
theorem init_ok (n : Nat) (pl u : Int) (ss : List Int) (hu : (pl = 0 ∧ u = 100) ∨ (pl = 1 ∧ u = 1000)) (h : ∀ z ∈ ss, 0 ≤ z ∧ z ≤ u) (hl : 2 ≤ ss.length ∧ ss.length ≤ 6) (S : Sto) :
    cal g (n + 4) 9 [.ref S.length, .int pl, .tup (ss.map .int)] (S ++ [.ins "Poll" []]) = .ok .non (S ++ [.ins "Poll" (pollF pl ss)]) := by
  rw [c_Poll_init]
  have hp : pl = 0 ∨ pl = 1 := by omega
  have hb : ∀ z ∈ ss, z.natAbs < 2 ^ 60 := fun z hz => by have := h z hz; omega
  have eu : ∀ S, evIx (.tup [.int 100, .int 1000]) (.int pl) S = .ok (.int u) S := fun S => by
    rcases hu with ⟨rfl, rfl⟩ | ⟨rfl, rfl⟩ <;> rfl
  have k1 : ∀ S, cal g (n + 3) 6 [.int pl] S = .ok .non S := fun S => check_places_ok n pl hp S
  have k2 : ∀ S, cal g (n + 3) 7 [.tup (ss.map .int), .int u] S = .ok .non S := fun S => check_shares_ok n ss u h hl S
  have k3 : ∀ S, cal g (n + 3) 3 [.tup (ss.map .int)] S = .ok (.str (numT ss)) S := fun S => numbers_text_ok (n + 2) ss hb (by omega) S
  have l1 : (intT pl).length ≤ 62 := intT_len (by omega)
  have l2 := numT_len hb
  have z0 : (Str.empty : Str).length = 0 := rfl
  have z1 : ("poll " : Str).length = 5 := rfl
  have z2 : (" " : Str).length = 1 := rfl
  have lg : pl.natAbs.log2 < 1920 := log60 (by omega)
  have p1 : ∀ (a b : Str), (a ++ b).length = a.length + b.length := Str.length_append
  have c1 : (Str.empty ++ ("poll " : Str)).length ≤ line := by rw [p1, z0, z1]; unfold line; omega
  have c2 : (Str.empty ++ ("poll " : Str) ++ intT pl).length ≤ line := by rw [p1, p1, z0, z1]; unfold line; omega
  have c3 : (Str.empty ++ ("poll " : Str) ++ intT pl ++ (" " : Str)).length ≤ line := by rw [p1, p1, p1, z0, z1, z2]; unfold line; omega
  have c4 : (Str.empty ++ ("poll " : Str) ++ intT pl ++ (" " : Str) ++ numT ss).length ≤ line := by rw [p1, p1, p1, p1, z0, z1, z2]; unfold line; omega
  have c5 : (numT ss).length ≤ line := by unfold line; omega
  have ej : ∀ S', joinX [xC (.str "poll "), xFmt (xVar 1), xC (.str " "), xFmt (xCall 3 1 (xCons (xVar 2) xNil))] Str.empty (cal g (n + 3)) [some (.ref S.length), some (.int pl), some (.tup (ss.map .int))] S' = .ok (.str (pollT pl ss)) S' := fun S' => by
    have e0 : Str.ofString (toString pl) = intT pl := rfl
    simp only [a_bind, a_pure, a_stuck, a_noX, a_runB, a_sSeq, a_eS, a_sIf, a_sRet, a_sRetN, a_sSet, a_sPar, a_sAsg, a_sEx, a_sNil, a_xVar, a_xC, a_x2, a_x2F, a_x1, a_xIf, a_xAn, a_xOo, a_xNo, a_xTru, a_xBl, a_tNo, a_tAn, a_tOo, a_xCons, a_xNil, a_xTup, a_xMk, a_xP, a_xCall, a_xCallK, a_x3, a_ev1, a_ev2, a_truB, a_truI, a_toBl, a_add, a_sub, a_mul, a_div, a_mod, a_pow, a_neg, a_lt, a_le, a_gt, a_ge, a_int, a_abs, a_min, a_max, ite_app, List.map_cons, List.map_nil, List.length_cons, List.length_nil, List.cons_append, List.nil_append, List.getElem?_cons_zero, List.getElem?_cons_succ, List.set_cons_zero, List.set_cons_succ, List.replicate_succ, List.replicate_zero, List.zip_cons_cons, List.zip_nil_left, List.zip_nil_right, List.foldl_cons, List.foldl_nil, Nat.reduceAdd, Nat.reduceSub, Nat.zero_add, if_true, if_false, Bool.false_eq_true, reduceIte, reduceCtorEq, joinX, xFmt, fmtD, lg, k3, c1, c2, c3, c4, c5, e0, ite_app]
    rfl
  have f1 : ∀ fs : List (Str × D), evPutF ["Poll"] "own_places" (.ref S.length) (.int pl) (S ++ [.ins "Poll" []]) = .ok () (S ++ [.ins "Poll" [("own_places", .int pl)]]) := fun _ => by
    unfold evPutF
    simp only [app_at, app_set]
    rfl
  have f2 : evPutF ["Poll"] "own_shares" (.ref S.length) (.tup (ss.map .int)) (S ++ [.ins "Poll" [("own_places", .int pl)]]) = .ok () (S ++ [.ins "Poll" [("own_places", .int pl), ("own_shares", .tup (ss.map .int))]]) := by
    unfold evPutF
    simp only [app_at, app_set]
    rfl
  have f3 : evPutF ["Poll"] "own_text" (.ref S.length) (.str (pollT pl ss)) (S ++ [.ins "Poll" [("own_places", .int pl), ("own_shares", .tup (ss.map .int))]]) = .ok () (S ++ [.ins "Poll" (pollF pl ss)]) := by
    unfold evPutF
    simp only [app_at, app_set]
    rfl
  simp only [a_bind, a_pure, a_stuck, a_noX, a_runB, a_sSeq, a_eS, a_sIf, a_sRet, a_sRetN, a_sSet, a_sPar, a_sAsg, a_sEx, a_sNil, a_xVar, a_xC, a_x2, a_x2F, a_x1, a_xIf, a_xAn, a_xOo, a_xNo, a_xTru, a_xBl, a_tNo, a_tAn, a_tOo, a_xCons, a_xNil, a_xTup, a_xMk, a_xP, a_xCall, a_xCallK, a_x3, a_ev1, a_ev2, a_truB, a_truI, a_toBl, a_add, a_sub, a_mul, a_div, a_mod, a_pow, a_neg, a_lt, a_le, a_gt, a_ge, a_int, a_abs, a_min, a_max, ite_app, List.map_cons, List.map_nil, List.length_cons, List.length_nil, List.cons_append, List.nil_append, List.getElem?_cons_zero, List.getElem?_cons_succ, List.set_cons_zero, List.set_cons_succ, List.replicate_succ, List.replicate_zero, List.zip_cons_cons, List.zip_nil_left, List.zip_nil_right, List.foldl_cons, List.foldl_nil, Nat.reduceAdd, Nat.reduceSub, Nat.zero_add, if_true, if_false, Bool.false_eq_true, reduceIte, reduceCtorEq, x_Poll_init, k1, k2, eu, sFldP, f1 [], f2, ej, f3]
end K69

set_option Elab.async false
set_option linter.all false
set_option maxRecDepth 100000
set_option maxHeartbeats 1000000
namespace K69
open PySem PySem.Spec PyProof.Rows L2 Dn
/-- places and unit go together -/
def PU (pl u : Int) : Prop := (pl = 0 ∧ u = 100) ∨ (pl = 1 ∧ u = 1000)
theorem PU.u {pl u : Int} (h : PU pl u) : u = 100 ∨ u = 1000 := by unfold PU at h; omega
theorem new_ok (n : Nat) {pl u : Int} {ss : List Int} (hu : PU pl u) (h : ∀ z ∈ ss, 0 ≤ z ∧ z ≤ u) (hl : 2 ≤ ss.length ∧ ss.length ≤ 6) {xs : XEs} {e : Dn.Env} {S S1 : Sto} (hx : xs (cal g (n + 4)) e S = .ok [.int pl, .tup (ss.map .int)] S1) :
    xNew "Poll" 9 3 xs (cal g (n + 4)) e S = .ok (.ref S1.length) (S1 ++ [.ins "Poll" (pollF pl ss)]) := by
  unfold xNew M.bind
  rw [hx]
  dsimp only
  rw [if_pos (show [D.int pl, D.tup (List.map D.int ss)].length + 1 = 3 from rfl), init_ok n pl u ss hu h hl S1]
  rfl
/-- object j is the poll -/
def IsP (S : Sto) (j : Nat) (pl : Int) (ss : List Int) : Prop := S[j]? = some (.ins "Poll" (pollF pl ss))
theorem fld_at {S : Sto} {j : Nat} {fs : List (Str × D)} (h : S[j]? = some (.ins "Poll" fs)) (f : Str) : fldO ["Poll"] f (.ref j) S = fs.lookup f := by
  show (match S[j]? with
    | some (.ins c fs) => if c ∈ (["Poll"] : List Str) then fs.lookup f else none
    | _ => none) = _
  rw [h]
  rfl
theorem places_ok (n : Nat) {S : Sto} {j : Nat} {pl : Int} {ss : List Int} (h : IsP S j pl ss) : cal g (n + 1) 10 [.ref j] S = .ok (.int pl) S := by
  rw [c_Poll_p_places]
  simp only [a_bind, a_pure, a_stuck, a_noX, a_runB, a_sSeq, a_eS, a_sIf, a_sRet, a_sRetN, a_sSet, a_sPar, a_sAsg, a_sEx, a_sNil, a_xVar, a_xC, a_x2, a_x2F, a_x1, a_xIf, a_xAn, a_xOo, a_xNo, a_xTru, a_xBl, a_tNo, a_tAn, a_tOo, a_xCons, a_xNil, a_xTup, a_xMk, a_xP, a_xCall, a_xCallK, a_x3, a_ev1, a_ev2, a_truB, a_truI, a_toBl, a_add, a_sub, a_mul, a_div, a_mod, a_pow, a_neg, a_lt, a_le, a_gt, a_ge, a_int, a_abs, a_min, a_max, ite_app, List.map_cons, List.map_nil, List.length_cons, List.length_nil, List.cons_append, List.nil_append, List.getElem?_cons_zero, List.getElem?_cons_succ, List.set_cons_zero, List.set_cons_succ, List.replicate_succ, List.replicate_zero, List.zip_cons_cons, List.zip_nil_left, List.zip_nil_right, List.foldl_cons, List.foldl_nil, Nat.reduceAdd, Nat.reduceSub, Nat.zero_add, if_true, if_false, Bool.false_eq_true, reduceIte, reduceCtorEq, x_Poll_p_places, xFld, fld_at h]
  rfl
theorem shares_ok (n : Nat) {S : Sto} {j : Nat} {pl : Int} {ss : List Int} (h : IsP S j pl ss) : cal g (n + 1) 11 [.ref j] S = .ok (.tup (ss.map .int)) S := by
  rw [c_Poll_p_shares]
  simp only [a_bind, a_pure, a_stuck, a_noX, a_runB, a_sSeq, a_eS, a_sIf, a_sRet, a_sRetN, a_sSet, a_sPar, a_sAsg, a_sEx, a_sNil, a_xVar, a_xC, a_x2, a_x2F, a_x1, a_xIf, a_xAn, a_xOo, a_xNo, a_xTru, a_xBl, a_tNo, a_tAn, a_tOo, a_xCons, a_xNil, a_xTup, a_xMk, a_xP, a_xCall, a_xCallK, a_x3, a_ev1, a_ev2, a_truB, a_truI, a_toBl, a_add, a_sub, a_mul, a_div, a_mod, a_pow, a_neg, a_lt, a_le, a_gt, a_ge, a_int, a_abs, a_min, a_max, ite_app, List.map_cons, List.map_nil, List.length_cons, List.length_nil, List.cons_append, List.nil_append, List.getElem?_cons_zero, List.getElem?_cons_succ, List.set_cons_zero, List.set_cons_succ, List.replicate_succ, List.replicate_zero, List.zip_cons_cons, List.zip_nil_left, List.zip_nil_right, List.foldl_cons, List.foldl_nil, Nat.reduceAdd, Nat.reduceSub, Nat.zero_add, if_true, if_false, Bool.false_eq_true, reduceIte, reduceCtorEq, x_Poll_p_shares, xFld, fld_at h]
  rfl
theorem insC_at {S : Sto} {j : Nat} {fs : List (Str × D)} (h : S[j]? = some (.ins "Poll" fs)) : insC (.ref j) S = some ("Poll" : Str) := by
  show (match S[j]? with
    | some (.ins c _) => some c
    | _ => none) = _
  rw [h]
theorem unit_ok (n : Nat) {S : Sto} {j : Nat} {pl u : Int} {ss : List Int} (hu : PU pl u) (h : IsP S j pl ss) : cal g (n + 2) 13 [.ref j] S = .ok (.int u) S := by
  rw [c_unit_of]
  have eu : ∀ S, evIx (.tup [.int 100, .int 1000]) (.int pl) S = .ok (.int u) S := fun S => by
    rcases hu with ⟨rfl, rfl⟩ | ⟨rfl, rfl⟩ <;> rfl
  have el : List.lookup ("Poll" : Str) [("Poll", 10)] = some 10 := rfl
  simp only [a_bind, a_pure, a_stuck, a_noX, a_runB, a_sSeq, a_eS, a_sIf, a_sRet, a_sRetN, a_sSet, a_sPar, a_sAsg, a_sEx, a_sNil, a_xVar, a_xC, a_x2, a_x2F, a_x1, a_xIf, a_xAn, a_xOo, a_xNo, a_xTru, a_xBl, a_tNo, a_tAn, a_tOo, a_xCons, a_xNil, a_xTup, a_xMk, a_xP, a_xCall, a_xCallK, a_x3, a_ev1, a_ev2, a_truB, a_truI, a_toBl, a_add, a_sub, a_mul, a_div, a_mod, a_pow, a_neg, a_lt, a_le, a_gt, a_ge, a_int, a_abs, a_min, a_max, ite_app, List.map_cons, List.map_nil, List.length_cons, List.length_nil, List.cons_append, List.nil_append, List.getElem?_cons_zero, List.getElem?_cons_succ, List.set_cons_zero, List.set_cons_succ, List.replicate_succ, List.replicate_zero, List.zip_cons_cons, List.zip_nil_left, List.zip_nil_right, List.foldl_cons, List.foldl_nil, Nat.reduceAdd, Nat.reduceSub, Nat.zero_add, if_true, if_false, Bool.false_eq_true, reduceIte, reduceCtorEq, x_unit_of, xProp, insC_at h, Option.bind_some, el, places_ok n h, eu]
def ends (u p : Int) (ss : List Int) : List (Int × Int) := ss.map fun s => (Poll.lo u s p, Poll.hi u s p)
def pairD (e : Int × Int) : D := .tup [.int e.1, .int e.2]
theorem share_ends_ok (n : Nat) {s p u : Int} (S : Sto) (h1 : 0 ≤ s ∧ s ≤ 1000) (h2 : 1 ≤ p ∧ p ≤ 100000) (hu : u = 100 ∨ u = 1000) : cal g (n + 1) 14 [.int s, .int p, .int u] S = .ok (pairD (Poll.lo u s p, Poll.hi u s p)) S := by
  have m1 : ∀ z : Int, mulB 2 z = true := fun z => mulB_l (by decide)
  have m2 : ∀ z : Int, mulB z p = true := fun z => mulB_r (by omega)
  have d1 : divB (2 * u) = true := divB_of (by omega) (by omega)
  rw [c_share_ends]
  unfold Poll.lo Poll.hi
  by_cases hs : 0 < s
  · simp only [a_bind, a_pure, a_stuck, a_noX, a_runB, a_sSeq, a_eS, a_sIf, a_sRet, a_sRetN, a_sSet, a_sPar, a_sAsg, a_sEx, a_sNil, a_xVar, a_xC, a_x2, a_x2F, a_x1, a_xIf, a_xAn, a_xOo, a_xNo, a_xTru, a_xBl, a_tNo, a_tAn, a_tOo, a_xCons, a_xNil, a_xTup, a_xMk, a_xP, a_xCall, a_xCallK, a_x3, a_ev1, a_ev2, a_truB, a_truI, a_toBl, a_add, a_sub, a_mul, a_div, a_mod, a_pow, a_neg, a_lt, a_le, a_gt, a_ge, a_int, a_abs, a_min, a_max, ite_app, List.map_cons, List.map_nil, List.length_cons, List.length_nil, List.cons_append, List.nil_append, List.getElem?_cons_zero, List.getElem?_cons_succ, List.set_cons_zero, List.set_cons_succ, List.replicate_succ, List.replicate_zero, List.zip_cons_cons, List.zip_nil_left, List.zip_nil_right, List.foldl_cons, List.foldl_nil, Nat.reduceAdd, Nat.reduceSub, Nat.zero_add, if_true, if_false, Bool.false_eq_true, reduceIte, reduceCtorEq, x_share_ends, hs, decide_true, m1, m2, d1]
    rfl
  · simp only [a_bind, a_pure, a_stuck, a_noX, a_runB, a_sSeq, a_eS, a_sIf, a_sRet, a_sRetN, a_sSet, a_sPar, a_sAsg, a_sEx, a_sNil, a_xVar, a_xC, a_x2, a_x2F, a_x1, a_xIf, a_xAn, a_xOo, a_xNo, a_xTru, a_xBl, a_tNo, a_tAn, a_tOo, a_xCons, a_xNil, a_xTup, a_xMk, a_xP, a_xCall, a_xCallK, a_x3, a_ev1, a_ev2, a_truB, a_truI, a_toBl, a_add, a_sub, a_mul, a_div, a_mod, a_pow, a_neg, a_lt, a_le, a_gt, a_ge, a_int, a_abs, a_min, a_max, ite_app, List.map_cons, List.map_nil, List.length_cons, List.length_nil, List.cons_append, List.nil_append, List.getElem?_cons_zero, List.getElem?_cons_succ, List.set_cons_zero, List.set_cons_succ, List.replicate_succ, List.replicate_zero, List.zip_cons_cons, List.zip_nil_left, List.zip_nil_right, List.foldl_cons, List.foldl_nil, Nat.reduceAdd, Nat.reduceSub, Nat.zero_add, if_true, if_false, Bool.false_eq_true, reduceIte, reduceCtorEq, x_share_ends, hs, decide_false, m1, m2, d1]
    rfl
theorem all_ends_ok (n : Nat) {S : Sto} {j : Nat} {pl u p : Int} {ss : List Int} (hu : PU pl u) (h : IsP S j pl ss) (hs : ∀ z ∈ ss, 0 ≤ z ∧ z ≤ u) (hl : ss.length ≤ 6) (hp : 1 ≤ p ∧ p ≤ 100000) : cal g (n + 3) 15 [.ref j, .int p] S = .ok (.tmp ((ends u p ss).map pairD)) S := by
  rw [c_all_ends]
  have hu' := hu.u
  have el : List.lookup ("Poll" : Str) [("Poll", 11)] = some 11 := rfl
  have e : xComp false (itSeq (xProp [("Poll", 11)] (xVar 0))) (gNm 3) tYs (xCall 14 3 (xCons (xVar 3) (xCons (xVar 1) (xCons (xVar 2) xNil)))) [3] (cal g (n + 2)) [some (.ref j), some (.int p), some (.int u), none] S =
      .ok (.tmp ((ss.map D.int).map fun d => match d with | .int z => pairD (Poll.lo u z p, Poll.hi u z p) | d => d)) S := by
    refine comp_map (its := ss.map D.int) (gs := []) (eg := fun d => [some (.ref j), some (.int p), some (.int u), some d]) ?_ rfl (fun d hd => ⟨rfl, ?_⟩) (by rw [List.length_map]; unfold line; omega)
    · simp only [a_bind, a_pure, a_stuck, a_noX, a_runB, a_sSeq, a_eS, a_sIf, a_sRet, a_sRetN, a_sSet, a_sPar, a_sAsg, a_sEx, a_sNil, a_xVar, a_xC, a_x2, a_x2F, a_x1, a_xIf, a_xAn, a_xOo, a_xNo, a_xTru, a_xBl, a_tNo, a_tAn, a_tOo, a_xCons, a_xNil, a_xTup, a_xMk, a_xP, a_xCall, a_xCallK, a_x3, a_ev1, a_ev2, a_truB, a_truI, a_toBl, a_add, a_sub, a_mul, a_div, a_mod, a_pow, a_neg, a_lt, a_le, a_gt, a_ge, a_int, a_abs, a_min, a_max, ite_app, List.map_cons, List.map_nil, List.length_cons, List.length_nil, List.cons_append, List.nil_append, List.getElem?_cons_zero, List.getElem?_cons_succ, List.set_cons_zero, List.set_cons_succ, List.replicate_succ, List.replicate_zero, List.zip_cons_cons, List.zip_nil_left, List.zip_nil_right, List.foldl_cons, List.foldl_nil, Nat.reduceAdd, Nat.reduceSub, Nat.zero_add, if_true, if_false, Bool.false_eq_true, reduceIte, reduceCtorEq, itSeq, xProp, insC_at h, Option.bind_some, el, shares_ok (n + 1) h]
      rfl
    · obtain ⟨z, hz, rfl⟩ := List.mem_map.mp hd
      have := hs z hz
      simp only [a_bind, a_pure, a_stuck, a_noX, a_runB, a_sSeq, a_eS, a_sIf, a_sRet, a_sRetN, a_sSet, a_sPar, a_sAsg, a_sEx, a_sNil, a_xVar, a_xC, a_x2, a_x2F, a_x1, a_xIf, a_xAn, a_xOo, a_xNo, a_xTru, a_xBl, a_tNo, a_tAn, a_tOo, a_xCons, a_xNil, a_xTup, a_xMk, a_xP, a_xCall, a_xCallK, a_x3, a_ev1, a_ev2, a_truB, a_truI, a_toBl, a_add, a_sub, a_mul, a_div, a_mod, a_pow, a_neg, a_lt, a_le, a_gt, a_ge, a_int, a_abs, a_min, a_max, ite_app, List.map_cons, List.map_nil, List.length_cons, List.length_nil, List.cons_append, List.nil_append, List.getElem?_cons_zero, List.getElem?_cons_succ, List.set_cons_zero, List.set_cons_succ, List.replicate_succ, List.replicate_zero, List.zip_cons_cons, List.zip_nil_left, List.zip_nil_right, List.foldl_cons, List.foldl_nil, Nat.reduceAdd, Nat.reduceSub, Nat.zero_add, if_true, if_false, Bool.false_eq_true, reduceIte, reduceCtorEq, share_ends_ok (n + 1) S (s := z) (p := p) (u := u) (by omega) hp hu']
  have e2 : ((ss.map D.int).map fun d => match d with | .int z => pairD (Poll.lo u z p, Poll.hi u z p) | d => d) = (ends u p ss).map pairD := by
    unfold ends
    simp
  rw [e2] at e
  simp only [a_bind, a_pure, a_stuck, a_noX, a_runB, a_sSeq, a_eS, a_sIf, a_sRet, a_sRetN, a_sSet, a_sPar, a_sAsg, a_sEx, a_sNil, a_xVar, a_xC, a_x2, a_x2F, a_x1, a_xIf, a_xAn, a_xOo, a_xNo, a_xTru, a_xBl, a_tNo, a_tAn, a_tOo, a_xCons, a_xNil, a_xTup, a_xMk, a_xP, a_xCall, a_xCallK, a_x3, a_ev1, a_ev2, a_truB, a_truI, a_toBl, a_add, a_sub, a_mul, a_div, a_mod, a_pow, a_neg, a_lt, a_le, a_gt, a_ge, a_int, a_abs, a_min, a_max, ite_app, List.map_cons, List.map_nil, List.length_cons, List.length_nil, List.cons_append, List.nil_append, List.getElem?_cons_zero, List.getElem?_cons_succ, List.set_cons_zero, List.set_cons_succ, List.replicate_succ, List.replicate_zero, List.zip_cons_cons, List.zip_nil_left, List.zip_nil_right, List.foldl_cons, List.foldl_nil, Nat.reduceAdd, Nat.reduceSub, Nat.zero_add, if_true, if_false, Bool.false_eq_true, reduceIte, reduceCtorEq, x_all_ends, unit_ok n hu h, e]
/-- a comprehension over pairs -/
theorem pairs_comp {F : Fns} {e : Dn.Env} {i a b : Nat} {es : List (Int × Int)} {x : XE} {S : Sto} {f : Int × Int → D} {eg : D → Dn.Env} (hv : e[i]? = some (some (.tmp (es.map pairD)))) (hl : es.length ≤ 100)
    (h : ∀ p ∈ es, gTp 2 (gCn (gNm a) (gCn (gNm b) gNl)) F (wipeE e [a, b]) (pairD p) S = .ok (eg (pairD p)) S ∧ x F (eg (pairD p)) S = .ok (f p) S) :
    xComp false (itSeq (xVar i)) (gTp 2 (gCn (gNm a) (gCn (gNm b) gNl))) tYs x [a, b] F e S = .ok (.tmp (es.map f)) S := by
  have := comp_map (it := itSeq (xVar i)) (g := gTp 2 (gCn (gNm a) (gCn (gNm b) gNl))) (x := x) (vs := [a, b]) (e := e) (S := S) (its := es.map pairD) (gs := []) (eg := eg)
    (f := fun d => match d with | .tup [.int y, .int z] => f (y, z) | d => d) (by simp only [itSeq, xVar, hv, M.bind, M.pure]; rfl) rfl (fun d hd => by
      obtain ⟨p, hp, rfl⟩ := List.mem_map.mp hd
      exact h p hp) (by rw [List.length_map]; unfold line; omega)
  rw [this, List.map_map]
  rfl
theorem allOk_eq : ∀ es : List (Int × Int), (es.map fun p => decide (p.1 ≤ p.2)).all id = Poll.allOk es
  | [] => rfl
  | e :: es => by
    show (decide (e.1 ≤ e.2) && (es.map fun p => decide (p.1 ≤ p.2)).all id) = (decide (e.1 ≤ e.2) && Poll.allOk es)
    rw [allOk_eq es]
theorem does_fit_ok (n : Nat) {S : Sto} {j : Nat} {pl u p : Int} {ss : List Int} (hu : PU pl u) (h : IsP S j pl ss) (hs : ∀ z ∈ ss, 0 ≤ z ∧ z ≤ u) (hl : ss.length ≤ 6) (hp : 1 ≤ p ∧ p ≤ 100000) : cal g (n + 4) 16 [.ref j, .int p] S = .ok (.bl (Poll.feas (ends u p ss) p)) S := by
  rw [c_does_fit]
  have hle : (ends u p ss).length ≤ 100 := by unfold ends; rw [List.length_map]; omega
  have e1 := fun (x : XE) (f : Int × Int → D) => pairs_comp (f := f) (F := cal g (n + 3)) (i := 2) (a := 3) (b := 4) (es := ends u p ss) (x := x) (S := S) (e := [some (.ref j), some (.int p), some (.tmp ((ends u p ss).map pairD)), none, none]) (eg := fun d => match d with | .tup [y, z] => [some (.ref j), some (.int p), some (.tmp ((ends u p ss).map pairD)), some y, some z] | _ => [])
  have c1 := e1 (x2F (fun _ => evLe) (xVar 3) (xVar 4)) (fun q => .bl (decide (q.1 ≤ q.2))) rfl hle (fun q _ => ⟨rfl, rfl⟩)
  have c2 := e1 (xVar 3) (fun q => .int q.1) rfl hle (fun q _ => ⟨rfl, rfl⟩)
  have c3 := e1 (xVar 4) (fun q => .int q.2) rfl hle (fun q _ => ⟨rfl, rfl⟩)
  have m1 : (ends u p ss).map (fun q => D.bl (decide (q.1 ≤ q.2))) = ((ends u p ss).map fun q => decide (q.1 ≤ q.2)).map D.bl := by rw [List.map_map]; rfl
  have m2 : (ends u p ss).map (fun q => D.int q.1) = ((ends u p ss).map (·.1)).map D.int := by rw [List.map_map]; rfl
  have m3 : (ends u p ss).map (fun q => D.int q.2) = ((ends u p ss).map (·.2)).map D.int := by rw [List.map_map]; rfl
  rw [m1] at c1
  rw [m2] at c2
  rw [m3] at c3
  cases ha : Poll.allOk (ends u p ss) with
  | false =>
    have hf : Poll.feas (ends u p ss) p = false := by unfold Poll.feas; rw [ha]; rfl
    simp only [a_bind, a_pure, a_stuck, a_noX, a_runB, a_sSeq, a_eS, a_sIf, a_sRet, a_sRetN, a_sSet, a_sPar, a_sAsg, a_sEx, a_sNil, a_xVar, a_xC, a_x2, a_x2F, a_x1, a_xIf, a_xAn, a_xOo, a_xNo, a_xTru, a_xBl, a_tNo, a_tAn, a_tOo, a_xCons, a_xNil, a_xTup, a_xMk, a_xP, a_xCall, a_xCallK, a_x3, a_ev1, a_ev2, a_truB, a_truI, a_toBl, a_add, a_sub, a_mul, a_div, a_mod, a_pow, a_neg, a_lt, a_le, a_gt, a_ge, a_int, a_abs, a_min, a_max, ite_app, List.map_cons, List.map_nil, List.length_cons, List.length_nil, List.cons_append, List.nil_append, List.getElem?_cons_zero, List.getElem?_cons_succ, List.set_cons_zero, List.set_cons_succ, List.replicate_succ, List.replicate_zero, List.zip_cons_cons, List.zip_nil_left, List.zip_nil_right, List.foldl_cons, List.foldl_nil, Nat.reduceAdd, Nat.reduceSub, Nat.zero_add, if_true, if_false, Bool.false_eq_true, reduceIte, reduceCtorEq, x_does_fit, all_ends_ok n hu h hs hl hp, c1, pAll_tmp, allOk_eq, ha, Bool.not_false, hf]
  | true =>
    have hf : Poll.feas (ends u p ss) p = (decide (Poll.sumL (ends u p ss) ≤ p) && decide (p ≤ Poll.sumH (ends u p ss))) := by unfold Poll.feas; rw [ha]; rfl
    rw [hf]
    show _ = Res.ok (D.bl (decide (((ends u p ss).map (·.1)).sum ≤ p) && decide (p ≤ ((ends u p ss).map (·.2)).sum))) S
    by_cases hq : ((ends u p ss).map (·.1)).sum ≤ p
    · simp only [a_bind, a_pure, a_stuck, a_noX, a_runB, a_sSeq, a_eS, a_sIf, a_sRet, a_sRetN, a_sSet, a_sPar, a_sAsg, a_sEx, a_sNil, a_xVar, a_xC, a_x2, a_x2F, a_x1, a_xIf, a_xAn, a_xOo, a_xNo, a_xTru, a_xBl, a_tNo, a_tAn, a_tOo, a_xCons, a_xNil, a_xTup, a_xMk, a_xP, a_xCall, a_xCallK, a_x3, a_ev1, a_ev2, a_truB, a_truI, a_toBl, a_add, a_sub, a_mul, a_div, a_mod, a_pow, a_neg, a_lt, a_le, a_gt, a_ge, a_int, a_abs, a_min, a_max, ite_app, List.map_cons, List.map_nil, List.length_cons, List.length_nil, List.cons_append, List.nil_append, List.getElem?_cons_zero, List.getElem?_cons_succ, List.set_cons_zero, List.set_cons_succ, List.replicate_succ, List.replicate_zero, List.zip_cons_cons, List.zip_nil_left, List.zip_nil_right, List.foldl_cons, List.foldl_nil, Nat.reduceAdd, Nat.reduceSub, Nat.zero_add, if_true, if_false, Bool.false_eq_true, reduceIte, reduceCtorEq, x_does_fit, all_ends_ok n hu h hs hl hp, c1, c2, c3, pAll_tmp, pSumT_tmp, allOk_eq, ha, Bool.not_true, hq, decide_true, Bool.true_and]
    · simp only [a_bind, a_pure, a_stuck, a_noX, a_runB, a_sSeq, a_eS, a_sIf, a_sRet, a_sRetN, a_sSet, a_sPar, a_sAsg, a_sEx, a_sNil, a_xVar, a_xC, a_x2, a_x2F, a_x1, a_xIf, a_xAn, a_xOo, a_xNo, a_xTru, a_xBl, a_tNo, a_tAn, a_tOo, a_xCons, a_xNil, a_xTup, a_xMk, a_xP, a_xCall, a_xCallK, a_x3, a_ev1, a_ev2, a_truB, a_truI, a_toBl, a_add, a_sub, a_mul, a_div, a_mod, a_pow, a_neg, a_lt, a_le, a_gt, a_ge, a_int, a_abs, a_min, a_max, ite_app, List.map_cons, List.map_nil, List.length_cons, List.length_nil, List.cons_append, List.nil_append, List.getElem?_cons_zero, List.getElem?_cons_succ, List.set_cons_zero, List.set_cons_succ, List.replicate_succ, List.replicate_zero, List.zip_cons_cons, List.zip_nil_left, List.zip_nil_right, List.foldl_cons, List.foldl_nil, Nat.reduceAdd, Nat.reduceSub, Nat.zero_add, if_true, if_false, Bool.false_eq_true, reduceIte, reduceCtorEq, x_does_fit, all_ends_ok n hu h hs hl hp, c1, c2, c3, pAll_tmp, pSumT_tmp, allOk_eq, ha, Bool.not_true, hq, decide_false, Bool.false_and]
end K69

set_option Elab.async false
set_option linter.all false
set_option maxRecDepth 100000
set_option maxHeartbeats 1000000
namespace Dn
open PySem PySem.Spec PyProof.Rows L2
theorem cut_from {α : Type} (l : List α) (k : Nat) (hk : k ≤ l.length) : cutD l (some (k : Int)) none = l.drop k := by
  unfold cutD
  have e1 : HT.sIx l.length 0 (some (k : Int)) = k := by
    rw [HT.sIx_nat]
    omega
  have e2 : HT.sIx l.length l.length none = l.length := rfl
  rw [e1, e2]
  rw [List.take_of_length_le (by rw [List.length_drop]; omega)]
theorem cut_to {α : Type} (l : List α) (k : Nat) (hk : k ≤ l.length) : cutD l none (some (k : Int)) = l.take k := by
  unfold cutD
  have e1 : HT.sIx l.length l.length (some (k : Int)) = k := by
    rw [HT.sIx_nat]
    omega
  have e2 : HT.sIx l.length 0 none = 0 := rfl
  rw [e1, e2]
  rfl
end Dn
namespace K69
open PySem PySem.Spec PyProof.Rows L2 Dn
theorem does_fit_people_ok (n : Nat) {S : Sto} {j : Nat} {pl u p : Int} {ss : List Int} (hu : PU pl u) (h : IsP S j pl ss) (hs : ∀ z ∈ ss, 0 ≤ z ∧ z ≤ u) (hl : ss.length ≤ 6) (hp : 1 ≤ p ∧ p ≤ 100000) : cal g (n + 5) 17 [.ref j, .int p] S = .ok (.bl (Poll.feas (ends u p ss) p)) S := by
  rw [c_does_fit_people]
  simp only [a_bind, a_pure, a_stuck, a_noX, a_runB, a_sSeq, a_eS, a_sIf, a_sRet, a_sRetN, a_sSet, a_sPar, a_sAsg, a_sEx, a_sNil, a_xVar, a_xC, a_x2, a_x2F, a_x1, a_xIf, a_xAn, a_xOo, a_xNo, a_xTru, a_xBl, a_tNo, a_tAn, a_tOo, a_xCons, a_xNil, a_xTup, a_xMk, a_xP, a_xCall, a_xCallK, a_x3, a_ev1, a_ev2, a_truB, a_truI, a_toBl, a_add, a_sub, a_mul, a_div, a_mod, a_pow, a_neg, a_lt, a_le, a_gt, a_ge, a_int, a_abs, a_min, a_max, ite_app, List.map_cons, List.map_nil, List.length_cons, List.length_nil, List.cons_append, List.nil_append, List.getElem?_cons_zero, List.getElem?_cons_succ, List.set_cons_zero, List.set_cons_succ, List.replicate_succ, List.replicate_zero, List.zip_cons_cons, List.zip_nil_left, List.zip_nil_right, List.foldl_cons, List.foldl_nil, Nat.reduceAdd, Nat.reduceSub, Nat.zero_add, if_true, if_false, Bool.false_eq_true, reduceIte, reduceCtorEq, x_does_fit_people, check_poll_ok (n + 3) j _ S h, check_people_ok (n + 1) p hp.1 S, does_fit_ok n hu h hs hl hp]
theorem app_last (S : Sto) (l : List D) (v : D) (hl : l.length < line) : evApp (.ref S.length) [v] (S ++ [.lst l]) = .ok .non (S ++ [.lst (l ++ [v])]) := by
  unfold evApp
  simp only [app_at, app_set]
  rw [if_pos hl]
end K69

set_option Elab.async false
set_option linter.all false
set_option maxRecDepth 100000
set_option maxHeartbeats 1000000
namespace Dn
open PySem PySem.Spec PyProof.Rows L2
theorem divB_big {j : Int} (h0 : j ≠ 0) (h : j.natAbs < 2 ^ 200) : divB j = true := by
  unfold divB
  have h1 : j.natAbs ≠ 0 := by omega
  have := (Nat.log2_lt h1 (k := 200)).mpr h
  simp [h0]
  omega
end Dn
namespace K69
open PySem PySem.Spec PyProof.Rows L2 Dn
theorem near_ok (n : Nat) {u c p : Int} (hu : u = 100 ∨ u = 1000) (hp : 1 ≤ p) (hb : p.natAbs < 2 ^ 190) (S : Sto) : cal g (n + 1) 26 [.int u, .int c, .int p] S = .ok (.int (Poll.near u c p)) S := by
  rw [c_law_near]
  have m1 : ∀ z : Int, mulB 2 z = true := fun z => mulB_l (by decide)
  have m2 : mulB (2 * u) c = true := mulB_l (by omega)
  have d1 : divB (2 * p) = true := divB_big (by omega) (by
    have : (2 * p).natAbs = 2 * p.natAbs := by omega
    rw [this]
    have e : (2 : Nat) ^ 200 = 1024 * 2 ^ 190 := by decide
    omega)
  simp only [a_bind, a_pure, a_stuck, a_noX, a_runB, a_sSeq, a_eS, a_sIf, a_sRet, a_sRetN, a_sSet, a_sPar, a_sAsg, a_sEx, a_sNil, a_xVar, a_xC, a_x2, a_x2F, a_x1, a_xIf, a_xAn, a_xOo, a_xNo, a_xTru, a_xBl, a_tNo, a_tAn, a_tOo, a_xCons, a_xNil, a_xTup, a_xMk, a_xP, a_xCall, a_xCallK, a_x3, a_ev1, a_ev2, a_truB, a_truI, a_toBl, a_add, a_sub, a_mul, a_div, a_mod, a_pow, a_neg, a_lt, a_le, a_gt, a_ge, a_int, a_abs, a_min, a_max, ite_app, List.map_cons, List.map_nil, List.length_cons, List.length_nil, List.cons_append, List.nil_append, List.getElem?_cons_zero, List.getElem?_cons_succ, List.set_cons_zero, List.set_cons_succ, List.replicate_succ, List.replicate_zero, List.zip_cons_cons, List.zip_nil_left, List.zip_nil_right, List.foldl_cons, List.foldl_nil, Nat.reduceAdd, Nat.reduceSub, Nat.zero_add, if_true, if_false, Bool.false_eq_true, reduceIte, reduceCtorEq, x_law_near, m1, m2, d1]
  rfl
end K69

set_option Elab.async false
set_option linter.all false
set_option maxRecDepth 100000
set_option maxHeartbeats 1000000
namespace Dn
open PySem PySem.Spec PyProof.Rows L2
theorem f_neI {i j : Int} {S : Sto} : evNe (.int i) (.int j) S = .ok (.bl (!decide (i = j))) S := by
  unfold evNe
  rw [eqD_int]
  rfl
theorem f_isB {b c : Bool} {S : Sto} : evIs (.bl b) (.bl c) S = .ok (.bl (decide (b = c))) S := rfl
theorem f_isNB {b c : Bool} {S : Sto} : evIsNot (.bl b) (.bl c) S = .ok (.bl (!decide (b = c))) S := rfl
theorem f_max3 {i j k : Int} {S : Sto} : pMaxU [.int i, .int j, .int k] S = .ok (.int (max (max i j) k)) S := rfl
theorem for_rngA {F : Fns} {e : Dn.Env} {S : Sto} {body : XS} {g : XG} {k : Dn.Env → Sto → RS} {Q : RS → Prop} {n : Nat} {a : Int} (I : Nat → Dn.Env → Sto → Prop)
    (i0 : I 0 e S) (step : ∀ i e S, i < n → I i e S → Ho (g F e (.int (a + (i : Nat))) S) (OkP fun e1 S1 => Ho (body F e1 S1) (LP (I (i + 1)) (fun e S => Ho (k e S) Q) Q))) (fin : ∀ e S, I n e S → Ho (k e S) Q) :
    Ho ((loopF F body g [] (rngL a 1 n) e S).sq k) Q := by
  refine for_done (List.range n) (fun (i : Nat) => D.int (a + (i : Int))) (fun done e S => I done.length e S) (rngL_1 a n) (fun _ _ _ _ => rfl) i0 ?_ (fun e S i => fin e S (by rw [List.length_range] at i; exact i))
  intro done x left e S h i
  obtain ⟨h1, h2⟩ := range_at h
  subst h1
  have := step done.length e S h2 i
  rw [List.length_append, List.length_singleton]
  exact this
/-- range(m, 0, -1) -/
theorem for_down1 {F : Fns} {e : Dn.Env} {S : Sto} {body : XS} {g : XG} {k : Dn.Env → Sto → RS} {Q : RS → Prop} {n : Nat} {i0 : Int} (hi : i0 = (n : Int)) (I : Nat → Dn.Env → Sto → Prop)
    (h0 : I n e S) (step : ∀ i e S, i < n → I (i + 1) e S → Ho (g F e (.int ((i : Nat) + 1)) S) (OkP fun e1 S1 => Ho (body F e1 S1) (LP (I i) (fun e S => Ho (k e S) Q) Q))) (fin : ∀ e S, I 0 e S → Ho (k e S) Q) :
    Ho ((loopF F body g [] (rngL i0 (-1) n) e S).sq k) Q := by
  refine for_done (List.range n) (fun (i : Nat) => D.int (i0 + (i : Int) * (-1))) (fun done e S => I (n - done.length) e S) rfl (fun _ _ _ _ => rfl) h0 ?_ (fun e S i => fin e S (by rw [List.length_range, Nat.sub_self] at i; exact i))
  intro done x left e S h i
  obtain ⟨h1, h2⟩ := range_at h
  subst h1
  have e1 : i0 + (done.length : Int) * (-1) = ((n - done.length - 1 : Nat) : Int) + 1 := by omega
  have e2 : n - done.length = (n - done.length - 1) + 1 := by omega
  rw [e2] at i
  have := step (n - done.length - 1) e S (by omega) i
  rw [List.length_append, List.length_singleton, e1, show n - (done.length + 1) = n - done.length - 1 by omega]
  exact this
end Dn
namespace Poll
theorem low_ne {ss : List Int} (h : ∀ s ∈ ss, 0 ≤ s) : ((ss.filter fun s => !decide (s = 0)).map fun s => 2 * s - 1).sum = lowS ss := by
  induction ss with
  | nil => rfl
  | cons s r ih =>
    have ih := ih fun x hx => h x (List.mem_cons_of_mem _ hx)
    have h0 := h s List.mem_cons_self
    show _ = wl s + lowS r
    by_cases q : s = 0
    · rw [List.filter_cons_of_neg (by simp [q]), ih]
      unfold wl
      rw [if_neg (by omega)]
      omega
    · rw [List.filter_cons_of_pos (by simp [q]), List.map_cons, List.sum_cons, ih]
      unfold wl
      rw [if_pos (by omega)]
theorem low_gt {ss : List Int} : ((ss.filter fun s => decide (0 < s)).map fun s => 2 * s - 1).sum = lowS ss := by
  induction ss with
  | nil => rfl
  | cons s r ih =>
    show _ = wl s + lowS r
    by_cases q : 0 < s
    · rw [List.filter_cons_of_pos (by simp [q]), List.map_cons, List.sum_cons, ih]
      unfold wl
      rw [if_pos q]
    · rw [List.filter_cons_of_neg (by simp [q]), ih]
      unfold wl
      rw [if_neg q]
      omega
/-- the number above which all fit -/
def far (u : Int) (ss : List Int) : Int := max (max u ((2 * u * ss.length).fdiv (2 * u - lowS ss) + 1)) ((2 * u * ss.length).fdiv (topS ss - 2 * u) + 1)
theorem low_b {u : Int} (hu : 0 < u) : ∀ {ss : List Int}, (∀ s ∈ ss, 0 ≤ s ∧ s ≤ u) → 0 ≤ lowS ss ∧ lowS ss ≤ 2 * u * ss.length ∧ 0 ≤ topS ss ∧ topS ss ≤ (2 * u + 1) * ss.length
  | [], _ => by simp [lowS, topS]
  | s :: r, h => by
    obtain ⟨i1, i2, i3, i4⟩ := low_b hu (ss := r) fun x hx => h x (List.mem_cons_of_mem _ hx)
    obtain ⟨a, b⟩ := h s List.mem_cons_self
    have e1 : lowS (s :: r) = wl s + lowS r := rfl
    have e2 : topS (s :: r) = 2 * s + 1 + topS r := rfl
    have e3 : 2 * u * ((s :: r).length : Int) = 2 * u * (r.length : Int) + 2 * u := by rw [List.length_cons]; push_cast; rw [Int.mul_add, Int.mul_one]
    have e4 : (2 * u + 1) * ((s :: r).length : Int) = (2 * u + 1) * (r.length : Int) + (2 * u + 1) := by rw [List.length_cons]; push_cast; rw [Int.mul_add, Int.mul_one]
    have w : 0 ≤ wl s ∧ wl s ≤ 2 * u := by unfold wl; split <;> omega
    rw [e1, e2, e3, e4]
    omega
theorem far_b {u : Int} {ss : List Int} (hu : u = 100 ∨ u = 1000) (hl : ss.length ≤ 6) (h0 : 0 < 2 * u - lowS ss) (h1 : 0 < topS ss - 2 * u) : u ≤ far u ss ∧ far u ss ≤ 20000 ∧ (∀ p, far u ss ≤ p → 2 * u * ss.length ≤ (2 * u - lowS ss) * p ∧ 2 * u * ss.length ≤ (topS ss - 2 * u) * p) := by
  have key : ∀ W r p : Int, 0 ≤ W → 0 < r → W.fdiv r + 1 ≤ p → W ≤ r * p := fun W r p hW hr hp => by
    rw [Int.fdiv_eq_ediv_of_nonneg _ (by omega)] at hp
    have e := Int.mul_ediv_add_emod W r
    have e2 := Int.emod_lt_of_pos W hr
    have e3 : r * (W / r + 1) ≤ r * p := Int.mul_le_mul_of_nonneg_left hp (by omega)
    rw [Int.mul_add, Int.mul_one] at e3
    omega
  have up : ∀ W r : Int, 0 ≤ W → 0 < r → W.fdiv r ≤ W := fun W r hW hr => by
    rw [Int.fdiv_eq_ediv_of_nonneg _ (by omega)]
    exact Int.ediv_le_self _ hW
  have hW : 0 ≤ 2 * u * (ss.length : Int) ∧ 2 * u * (ss.length : Int) ≤ 12000 := by
    rcases hu with rfl | rfl <;> omega
  have b1 := up _ _ hW.1 h0
  have b2 := up _ _ hW.1 h1
  refine ⟨by unfold far; omega, by unfold far; omega, fun p hp => ⟨key _ _ _ hW.1 h0 (by unfold far at hp; omega), key _ _ _ hW.1 h1 (by unfold far at hp; omega)⟩⟩
end Poll
namespace K69
open PySem PySem.Spec PyProof.Rows L2 Dn
theorem ends_eds (u p : Int) (ss : List Int) : ends u p ss = Poll.eds u p ss := rfl
abbrev Fit (u : Int) (ss : List Int) (p : Int) : Bool := Poll.feas (ends u p ss) p
theorem check_most_ok (n : Nat) (i : Int) (h : 1 ≤ i ∧ i ≤ 3000) (S : Sto) : cal g (n + 3) 4 [.int i] S = .ok .non S := by
  rw [c_check_most]
  simp only [a_bind, a_pure, a_stuck, a_noX, a_runB, a_sSeq, a_eS, a_sIf, a_sRet, a_sRetN, a_sSet, a_sPar, a_sAsg, a_sEx, a_sNil, a_xVar, a_xC, a_x2, a_x2F, a_x1, a_xIf, a_xAn, a_xOo, a_xNo, a_xTru, a_xBl, a_tNo, a_tAn, a_tOo, a_xCons, a_xNil, a_xTup, a_xMk, a_xP, a_xCall, a_xCallK, a_x3, a_ev1, a_ev2, a_truB, a_truI, a_toBl, a_add, a_sub, a_mul, a_div, a_mod, a_pow, a_neg, a_lt, a_le, a_gt, a_ge, a_int, a_abs, a_min, a_max, ite_app, List.map_cons, List.map_nil, List.length_cons, List.length_nil, List.cons_append, List.nil_append, List.getElem?_cons_zero, List.getElem?_cons_succ, List.set_cons_zero, List.set_cons_succ, List.replicate_succ, List.replicate_zero, List.zip_cons_cons, List.zip_nil_left, List.zip_nil_right, List.foldl_cons, List.foldl_nil, Nat.reduceAdd, Nat.reduceSub, Nat.zero_add, if_true, if_false, Bool.false_eq_true, reduceIte, reduceCtorEq, x_check_most, is_within_int, h.1, h.2, decide_true, Bool.and_self, Bool.not_true]
theorem bounds_ok (n : Nat) {S : Sto} {j : Nat} {pl : Int} {ss : List Int} (h : IsP S j pl ss) (hs : ∀ z ∈ ss, 0 ≤ z) (hl : ss.length ≤ 6) : cal g (n + 2) 19 [.ref j] S = .ok (.tup [.int (Poll.lowS ss), .int (Poll.topS ss)]) S := by
  have k1 := shares_ok n h
  have h' : S[j]? = some (.ins "Poll" (pollF pl ss)) := h
  have el : List.lookup ("Poll" : Str) [("Poll", 11)] = some 11 := rfl
  have m1 : ∀ z : Int, mulB 2 z = true := fun z => mulB_l (by decide)
  refine is_eq ?_
  rw [c_bounds_of]; refine ho_run ?_; unfold x_bounds_of; simp -implicitDefEqProofs only [f_bind, f_noX, f_sSeq, f_eS, f_sIf, f_sRet, a_sRetN, f_sSet, f_sPar, f_sAsg, f_sEx, a_sNil, f_sFor, f_sFldP, f_x2, f_x2F, f_x1, f_xIf, f_xAn, f_xOo, f_xNo, f_xTru, f_xBl, f_tNo, f_tAn, f_tOo, f_xCons, f_xNil, f_xTup, f_xMk, f_xP, f_xCall, f_xCallK, f_x3, f_ch3, f_var, f_gv, f_xC, f_xComp, f_itSeq, f_itEnum, f_itR1, f_itR2, f_toInt, f_xBM, f_xCut, f_xPart, f_xNoP, f_xFld, f_prC, f_xProp, f_gNm, f_gTp, f_gCn, f_gNl, f_gSb, f_xNew, bd_ok, bd_bad, bd_exc, es_ok, es_exc, st_ok, nex_ok, sq_nx, sq_rt, sq_bk, sq_ct, sq_exc, bd_bd, es_bd, st_bd, sq_es, sq_st, sq_sq, a_ev1, a_ev2, f_truB, f_truI, f_toBl, f_add, f_sub, f_mul, f_div, f_mod, f_pow, f_neg, f_lt, f_le, f_gt, f_ge, f_int, f_abs, f_lenT, f_lenL, f_tupT, f_divmod, f_catT, f_catL, f_eqI, f_eqS, f_neS, f_isN, f_isNN, f_ixT, f_ixL, f_ofS, f_seqT, f_seqL, f_seqC, f_enT, f_enL, f_isS, f_lenC, f_sumT, f_sumL, f_sumF, f_allF, f_anyF, f_min, f_max, ho_rt, ho_nx, ho_exc, ho_ok, lp_nx, lp_ct, lp_bk, lp_rt, lp_exc, wipeE, a_pure, a_stuck, f_mkF, f_mkT, l_L, l_C, l_F, l_ap, l_pf, l_mk, l_seqOf, l_seqOfT, l_seqOfL, l_ix, l_seqIt, l_en, l_tup, l_isL, l_app, l_set, l_fld, l_insC, l_putF, l_lst, l_cutT, l_cutL, l_cutR, l_cutC, l_catRR, at_0, at_1, at_2, at_3, at_last, st_0, st_1, st_2, Option.isSome_some, List.map_cons, List.map_nil, List.length_cons, List.length_nil, List.cons_append, List.nil_append, List.getElem?_cons_zero, List.getElem?_cons_succ, List.set_cons_zero, List.set_cons_succ, List.replicate_succ, List.replicate_zero, List.zip_cons_cons, List.zip_nil_left, List.zip_nil_right, List.foldl_cons, List.foldl_nil, Nat.reduceAdd, Nat.reduceSub, Nat.zero_add, if_true, if_false, Bool.false_eq_true, reduceIte, reduceCtorEq, decide_true, decide_false, decide_eq_true_eq, Bool.not_eq_eq_eq_not, Bool.not_true, Bool.not_false, decide_eq_false_iff_not, ite_not, Bool.true_and, Bool.and_true, Bool.false_and, Bool.and_false, Option.bind_some, Option.map_some, and_self, true_and, and_true, line_pos0, line_pos1, line_pos2, line_pos3, Int.reduceEq, Int.reduceLT, Int.reduceLE, Int.reduceAdd, Int.reduceSub, Int.reduceMul, Int.reduceNeg, Int.reduceToNat, Int.reduceNe, Int.reducePow, Nat.reduceLeDiff, Nat.reduceLT, Nat.reduceEqDiff]
  try simp -implicitDefEqProofs only [f_bind, f_noX, f_sSeq, f_eS, f_sIf, f_sRet, a_sRetN, f_sSet, f_sPar, f_sAsg, f_sEx, a_sNil, f_sFor, f_sFldP, f_x2, f_x2F, f_x1, f_xIf, f_xAn, f_xOo, f_xNo, f_xTru, f_xBl, f_tNo, f_tAn, f_tOo, f_xCons, f_xNil, f_xTup, f_xMk, f_xP, f_xCall, f_xCallK, f_x3, f_ch3, f_var, f_gv, f_xC, f_xComp, f_itSeq, f_itEnum, f_itR1, f_itR2, f_toInt, f_xBM, f_xCut, f_xPart, f_xNoP, f_xFld, f_prC, f_xProp, f_gNm, f_gTp, f_gCn, f_gNl, f_gSb, f_xNew, bd_ok, bd_bad, bd_exc, es_ok, es_exc, st_ok, nex_ok, sq_nx, sq_rt, sq_bk, sq_ct, sq_exc, bd_bd, es_bd, st_bd, sq_es, sq_st, sq_sq, a_ev1, a_ev2, f_truB, f_truI, f_toBl, f_add, f_sub, f_mul, f_div, f_mod, f_pow, f_neg, f_lt, f_le, f_gt, f_ge, f_int, f_abs, f_lenT, f_lenL, f_tupT, f_divmod, f_catT, f_catL, f_eqI, f_eqS, f_neS, f_isN, f_isNN, f_ixT, f_ixL, f_ofS, f_seqT, f_seqL, f_seqC, f_enT, f_enL, f_isS, f_lenC, f_sumT, f_sumL, f_sumF, f_allF, f_anyF, f_min, f_max, ho_rt, ho_nx, ho_exc, ho_ok, lp_nx, lp_ct, lp_bk, lp_rt, lp_exc, wipeE, a_pure, a_stuck, f_mkF, f_mkT, l_L, l_C, l_F, l_ap, l_pf, l_mk, l_seqOf, l_seqOfT, l_seqOfL, l_ix, l_seqIt, l_en, l_tup, l_isL, l_app, l_set, l_fld, l_insC, l_putF, l_lst, l_cutT, l_cutL, l_cutR, l_cutC, l_catRR, at_0, at_1, at_2, at_3, at_last, st_0, st_1, st_2, Option.isSome_some, List.map_cons, List.map_nil, List.length_cons, List.length_nil, List.cons_append, List.nil_append, List.getElem?_cons_zero, List.getElem?_cons_succ, List.set_cons_zero, List.set_cons_succ, List.replicate_succ, List.replicate_zero, List.zip_cons_cons, List.zip_nil_left, List.zip_nil_right, List.foldl_cons, List.foldl_nil, Nat.reduceAdd, Nat.reduceSub, Nat.zero_add, if_true, if_false, Bool.false_eq_true, reduceIte, reduceCtorEq, decide_true, decide_false, decide_eq_true_eq, Bool.not_eq_eq_eq_not, Bool.not_true, Bool.not_false, decide_eq_false_iff_not, ite_not, Bool.true_and, Bool.and_true, Bool.false_and, Bool.and_false, Option.bind_some, Option.map_some, and_self, true_and, and_true, line_pos0, line_pos1, line_pos2, line_pos3, Int.reduceEq, Int.reduceLT, Int.reduceLE, Int.reduceAdd, Int.reduceSub, Int.reduceMul, Int.reduceNeg, Int.reduceToNat, Int.reduceNe, Int.reducePow, Nat.reduceLeDiff, Nat.reduceLT, Nat.reduceEqDiff, h', el, k1]
  refine es_of (comp_flt ss D.int (fun s => !decide (s = 0)) (fun s => .int (2 * s - 1)) rfl rfl (by unfold line; omega) ?_) ?_
  · intro y hy
    try simp -implicitDefEqProofs only [f_bind, f_noX, f_sSeq, f_eS, f_sIf, f_sRet, a_sRetN, f_sSet, f_sPar, f_sAsg, f_sEx, a_sNil, f_sFor, f_sFldP, f_x2, f_x2F, f_x1, f_xIf, f_xAn, f_xOo, f_xNo, f_xTru, f_xBl, f_tNo, f_tAn, f_tOo, f_xCons, f_xNil, f_xTup, f_xMk, f_xP, f_xCall, f_xCallK, f_x3, f_ch3, f_var, f_gv, f_xC, f_xComp, f_itSeq, f_itEnum, f_itR1, f_itR2, f_toInt, f_xBM, f_xCut, f_xPart, f_xNoP, f_xFld, f_prC, f_xProp, f_gNm, f_gTp, f_gCn, f_gNl, f_gSb, f_xNew, bd_ok, bd_bad, bd_exc, es_ok, es_exc, st_ok, nex_ok, sq_nx, sq_rt, sq_bk, sq_ct, sq_exc, bd_bd, es_bd, st_bd, sq_es, sq_st, sq_sq, a_ev1, a_ev2, f_truB, f_truI, f_toBl, f_add, f_sub, f_mul, f_div, f_mod, f_pow, f_neg, f_lt, f_le, f_gt, f_ge, f_int, f_abs, f_lenT, f_lenL, f_tupT, f_divmod, f_catT, f_catL, f_eqI, f_eqS, f_neS, f_isN, f_isNN, f_ixT, f_ixL, f_ofS, f_seqT, f_seqL, f_seqC, f_enT, f_enL, f_isS, f_lenC, f_sumT, f_sumL, f_sumF, f_allF, f_anyF, f_min, f_max, ho_rt, ho_nx, ho_exc, ho_ok, lp_nx, lp_ct, lp_bk, lp_rt, lp_exc, wipeE, a_pure, a_stuck, f_mkF, f_mkT, l_L, l_C, l_F, l_ap, l_pf, l_mk, l_seqOf, l_seqOfT, l_seqOfL, l_ix, l_seqIt, l_en, l_tup, l_isL, l_app, l_set, l_fld, l_insC, l_putF, l_lst, l_cutT, l_cutL, l_cutR, l_cutC, l_catRR, at_0, at_1, at_2, at_3, at_last, st_0, st_1, st_2, Option.isSome_some, List.map_cons, List.map_nil, List.length_cons, List.length_nil, List.cons_append, List.nil_append, List.getElem?_cons_zero, List.getElem?_cons_succ, List.set_cons_zero, List.set_cons_succ, List.replicate_succ, List.replicate_zero, List.zip_cons_cons, List.zip_nil_left, List.zip_nil_right, List.foldl_cons, List.foldl_nil, Nat.reduceAdd, Nat.reduceSub, Nat.zero_add, if_true, if_false, Bool.false_eq_true, reduceIte, reduceCtorEq, decide_true, decide_false, decide_eq_true_eq, Bool.not_eq_eq_eq_not, Bool.not_true, Bool.not_false, decide_eq_false_iff_not, ite_not, Bool.true_and, Bool.and_true, Bool.false_and, Bool.and_false, Option.bind_some, Option.map_some, and_self, true_and, and_true, line_pos0, line_pos1, line_pos2, line_pos3, Int.reduceEq, Int.reduceLT, Int.reduceLE, Int.reduceAdd, Int.reduceSub, Int.reduceMul, Int.reduceNeg, Int.reduceToNat, Int.reduceNe, Int.reducePow, Nat.reduceLeDiff, Nat.reduceLT, Nat.reduceEqDiff, m1, f_neI]
    exact ⟨is_refl, fun _ => is_refl⟩
  rintro _ S_ ⟨rfl, h_, q1⟩; have h_ := h_.symm; subst h_
  try simp -implicitDefEqProofs only [f_bind, f_noX, f_sSeq, f_eS, f_sIf, f_sRet, a_sRetN, f_sSet, f_sPar, f_sAsg, f_sEx, a_sNil, f_sFor, f_sFldP, f_x2, f_x2F, f_x1, f_xIf, f_xAn, f_xOo, f_xNo, f_xTru, f_xBl, f_tNo, f_tAn, f_tOo, f_xCons, f_xNil, f_xTup, f_xMk, f_xP, f_xCall, f_xCallK, f_x3, f_ch3, f_var, f_gv, f_xC, f_xComp, f_itSeq, f_itEnum, f_itR1, f_itR2, f_toInt, f_xBM, f_xCut, f_xPart, f_xNoP, f_xFld, f_prC, f_xProp, f_gNm, f_gTp, f_gCn, f_gNl, f_gSb, f_xNew, bd_ok, bd_bad, bd_exc, es_ok, es_exc, st_ok, nex_ok, sq_nx, sq_rt, sq_bk, sq_ct, sq_exc, bd_bd, es_bd, st_bd, sq_es, sq_st, sq_sq, a_ev1, a_ev2, f_truB, f_truI, f_toBl, f_add, f_sub, f_mul, f_div, f_mod, f_pow, f_neg, f_lt, f_le, f_gt, f_ge, f_int, f_abs, f_lenT, f_lenL, f_tupT, f_divmod, f_catT, f_catL, f_eqI, f_eqS, f_neS, f_isN, f_isNN, f_ixT, f_ixL, f_ofS, f_seqT, f_seqL, f_seqC, f_enT, f_enL, f_isS, f_lenC, f_sumT, f_sumL, f_sumF, f_allF, f_anyF, f_min, f_max, ho_rt, ho_nx, ho_exc, ho_ok, lp_nx, lp_ct, lp_bk, lp_rt, lp_exc, wipeE, a_pure, a_stuck, f_mkF, f_mkT, l_L, l_C, l_F, l_ap, l_pf, l_mk, l_seqOf, l_seqOfT, l_seqOfL, l_ix, l_seqIt, l_en, l_tup, l_isL, l_app, l_set, l_fld, l_insC, l_putF, l_lst, l_cutT, l_cutL, l_cutR, l_cutC, l_catRR, at_0, at_1, at_2, at_3, at_last, st_0, st_1, st_2, Option.isSome_some, List.map_cons, List.map_nil, List.length_cons, List.length_nil, List.cons_append, List.nil_append, List.getElem?_cons_zero, List.getElem?_cons_succ, List.set_cons_zero, List.set_cons_succ, List.replicate_succ, List.replicate_zero, List.zip_cons_cons, List.zip_nil_left, List.zip_nil_right, List.foldl_cons, List.foldl_nil, Nat.reduceAdd, Nat.reduceSub, Nat.zero_add, if_true, if_false, Bool.false_eq_true, reduceIte, reduceCtorEq, decide_true, decide_false, decide_eq_true_eq, Bool.not_eq_eq_eq_not, Bool.not_true, Bool.not_false, decide_eq_false_iff_not, ite_not, Bool.true_and, Bool.and_true, Bool.false_and, Bool.and_false, Option.bind_some, Option.map_some, and_self, true_and, and_true, line_pos0, line_pos1, line_pos2, line_pos3, Int.reduceEq, Int.reduceLT, Int.reduceLE, Int.reduceAdd, Int.reduceSub, Int.reduceMul, Int.reduceNeg, Int.reduceToNat, Int.reduceNe, Int.reducePow, Nat.reduceLeDiff, Nat.reduceLT, Nat.reduceEqDiff, q1, h', el, k1, Poll.low_ne hs]
  refine es_of (comp_all ss D.int (fun s => .int (2 * s + 1)) rfl rfl (by unfold line; omega) ?_) ?_
  · intro y hy
    try simp -implicitDefEqProofs only [f_bind, f_noX, f_sSeq, f_eS, f_sIf, f_sRet, a_sRetN, f_sSet, f_sPar, f_sAsg, f_sEx, a_sNil, f_sFor, f_sFldP, f_x2, f_x2F, f_x1, f_xIf, f_xAn, f_xOo, f_xNo, f_xTru, f_xBl, f_tNo, f_tAn, f_tOo, f_xCons, f_xNil, f_xTup, f_xMk, f_xP, f_xCall, f_xCallK, f_x3, f_ch3, f_var, f_gv, f_xC, f_xComp, f_itSeq, f_itEnum, f_itR1, f_itR2, f_toInt, f_xBM, f_xCut, f_xPart, f_xNoP, f_xFld, f_prC, f_xProp, f_gNm, f_gTp, f_gCn, f_gNl, f_gSb, f_xNew, bd_ok, bd_bad, bd_exc, es_ok, es_exc, st_ok, nex_ok, sq_nx, sq_rt, sq_bk, sq_ct, sq_exc, bd_bd, es_bd, st_bd, sq_es, sq_st, sq_sq, a_ev1, a_ev2, f_truB, f_truI, f_toBl, f_add, f_sub, f_mul, f_div, f_mod, f_pow, f_neg, f_lt, f_le, f_gt, f_ge, f_int, f_abs, f_lenT, f_lenL, f_tupT, f_divmod, f_catT, f_catL, f_eqI, f_eqS, f_neS, f_isN, f_isNN, f_ixT, f_ixL, f_ofS, f_seqT, f_seqL, f_seqC, f_enT, f_enL, f_isS, f_lenC, f_sumT, f_sumL, f_sumF, f_allF, f_anyF, f_min, f_max, ho_rt, ho_nx, ho_exc, ho_ok, lp_nx, lp_ct, lp_bk, lp_rt, lp_exc, wipeE, a_pure, a_stuck, f_mkF, f_mkT, l_L, l_C, l_F, l_ap, l_pf, l_mk, l_seqOf, l_seqOfT, l_seqOfL, l_ix, l_seqIt, l_en, l_tup, l_isL, l_app, l_set, l_fld, l_insC, l_putF, l_lst, l_cutT, l_cutL, l_cutR, l_cutC, l_catRR, at_0, at_1, at_2, at_3, at_last, st_0, st_1, st_2, Option.isSome_some, List.map_cons, List.map_nil, List.length_cons, List.length_nil, List.cons_append, List.nil_append, List.getElem?_cons_zero, List.getElem?_cons_succ, List.set_cons_zero, List.set_cons_succ, List.replicate_succ, List.replicate_zero, List.zip_cons_cons, List.zip_nil_left, List.zip_nil_right, List.foldl_cons, List.foldl_nil, Nat.reduceAdd, Nat.reduceSub, Nat.zero_add, if_true, if_false, Bool.false_eq_true, reduceIte, reduceCtorEq, decide_true, decide_false, decide_eq_true_eq, Bool.not_eq_eq_eq_not, Bool.not_true, Bool.not_false, decide_eq_false_iff_not, ite_not, Bool.true_and, Bool.and_true, Bool.false_and, Bool.and_false, Option.bind_some, Option.map_some, and_self, true_and, and_true, line_pos0, line_pos1, line_pos2, line_pos3, Int.reduceEq, Int.reduceLT, Int.reduceLE, Int.reduceAdd, Int.reduceSub, Int.reduceMul, Int.reduceNeg, Int.reduceToNat, Int.reduceNe, Int.reducePow, Nat.reduceLeDiff, Nat.reduceLT, Nat.reduceEqDiff, m1]
    exact is_refl
  rintro _ S_ ⟨rfl, h_, q2⟩; have h_ := h_.symm; subst h_
  try simp -implicitDefEqProofs only [f_bind, f_noX, f_sSeq, f_eS, f_sIf, f_sRet, a_sRetN, f_sSet, f_sPar, f_sAsg, f_sEx, a_sNil, f_sFor, f_sFldP, f_x2, f_x2F, f_x1, f_xIf, f_xAn, f_xOo, f_xNo, f_xTru, f_xBl, f_tNo, f_tAn, f_tOo, f_xCons, f_xNil, f_xTup, f_xMk, f_xP, f_xCall, f_xCallK, f_x3, f_ch3, f_var, f_gv, f_xC, f_xComp, f_itSeq, f_itEnum, f_itR1, f_itR2, f_toInt, f_xBM, f_xCut, f_xPart, f_xNoP, f_xFld, f_prC, f_xProp, f_gNm, f_gTp, f_gCn, f_gNl, f_gSb, f_xNew, bd_ok, bd_bad, bd_exc, es_ok, es_exc, st_ok, nex_ok, sq_nx, sq_rt, sq_bk, sq_ct, sq_exc, bd_bd, es_bd, st_bd, sq_es, sq_st, sq_sq, a_ev1, a_ev2, f_truB, f_truI, f_toBl, f_add, f_sub, f_mul, f_div, f_mod, f_pow, f_neg, f_lt, f_le, f_gt, f_ge, f_int, f_abs, f_lenT, f_lenL, f_tupT, f_divmod, f_catT, f_catL, f_eqI, f_eqS, f_neS, f_isN, f_isNN, f_ixT, f_ixL, f_ofS, f_seqT, f_seqL, f_seqC, f_enT, f_enL, f_isS, f_lenC, f_sumT, f_sumL, f_sumF, f_allF, f_anyF, f_min, f_max, ho_rt, ho_nx, ho_exc, ho_ok, lp_nx, lp_ct, lp_bk, lp_rt, lp_exc, wipeE, a_pure, a_stuck, f_mkF, f_mkT, l_L, l_C, l_F, l_ap, l_pf, l_mk, l_seqOf, l_seqOfT, l_seqOfL, l_ix, l_seqIt, l_en, l_tup, l_isL, l_app, l_set, l_fld, l_insC, l_putF, l_lst, l_cutT, l_cutL, l_cutR, l_cutC, l_catRR, at_0, at_1, at_2, at_3, at_last, st_0, st_1, st_2, Option.isSome_some, List.map_cons, List.map_nil, List.length_cons, List.length_nil, List.cons_append, List.nil_append, List.getElem?_cons_zero, List.getElem?_cons_succ, List.set_cons_zero, List.set_cons_succ, List.replicate_succ, List.replicate_zero, List.zip_cons_cons, List.zip_nil_left, List.zip_nil_right, List.foldl_cons, List.foldl_nil, Nat.reduceAdd, Nat.reduceSub, Nat.zero_add, if_true, if_false, Bool.false_eq_true, reduceIte, reduceCtorEq, decide_true, decide_false, decide_eq_true_eq, Bool.not_eq_eq_eq_not, Bool.not_true, Bool.not_false, decide_eq_false_iff_not, ite_not, Bool.true_and, Bool.and_true, Bool.false_and, Bool.and_false, Option.bind_some, Option.map_some, and_self, true_and, and_true, line_pos0, line_pos1, line_pos2, line_pos3, Int.reduceEq, Int.reduceLT, Int.reduceLE, Int.reduceAdd, Int.reduceSub, Int.reduceMul, Int.reduceNeg, Int.reduceToNat, Int.reduceNe, Int.reducePow, Nat.reduceLeDiff, Nat.reduceLT, Nat.reduceEqDiff, q2]
  exact is_refl
theorem last_ok (n : Nat) {S : Sto} {j : Nat} {pl u : Int} {ss : List Int} (hu : PU pl u) (h : IsP S j pl ss) (hs : ∀ z ∈ ss, 0 ≤ z ∧ z ≤ u) (hl : ss.length ≤ 6) (h0 : 0 < 2 * u - Poll.lowS ss) (h1 : 0 < Poll.topS ss - 2 * u) : cal g (n + 3) 20 [.ref j] S = .ok (.int (Poll.far u ss)) S := by
  have hu' := hu.u
  obtain ⟨b1, b2, b3, b4⟩ := Poll.low_b (u := u) (by omega) hs
  have k1 := shares_ok (n + 1) h
  have k2 := unit_ok n hu h
  have k3 := bounds_ok n h (fun z hz => (hs z hz).1) hl
  have h' : S[j]? = some (.ins "Poll" (pollF pl ss)) := h
  have el : List.lookup ("Poll" : Str) [("Poll", 11)] = some 11 := rfl
  have m1 : ∀ z : Int, mulB 2 z = true := fun z => mulB_l (by decide)
  have m2 : ∀ z : Int, mulB (2 * u) z = true := fun z => mulB_l (by omega)
  have b5 : (2 * u + 1) * (ss.length : Int) ≤ 12006 := by rcases hu' with rfl | rfl <;> omega
  have b6 : 2 * u * (ss.length : Int) ≤ 12000 := by rcases hu' with rfl | rfl <;> omega
  have d1 : divB (2 * u - Poll.lowS ss) = true := divB_of (by omega) (by omega)
  have d2 : divB (Poll.topS ss - 2 * u) = true := divB_of (by omega) (by omega)
  refine is_eq ?_
  rw [c_last_doubtful]; refine ho_run ?_; unfold x_last_doubtful; simp -implicitDefEqProofs only [f_bind, f_noX, f_sSeq, f_eS, f_sIf, f_sRet, a_sRetN, f_sSet, f_sPar, f_sAsg, f_sEx, a_sNil, f_sFor, f_sFldP, f_x2, f_x2F, f_x1, f_xIf, f_xAn, f_xOo, f_xNo, f_xTru, f_xBl, f_tNo, f_tAn, f_tOo, f_xCons, f_xNil, f_xTup, f_xMk, f_xP, f_xCall, f_xCallK, f_x3, f_ch3, f_var, f_gv, f_xC, f_xComp, f_itSeq, f_itEnum, f_itR1, f_itR2, f_toInt, f_xBM, f_xCut, f_xPart, f_xNoP, f_xFld, f_prC, f_xProp, f_gNm, f_gTp, f_gCn, f_gNl, f_gSb, f_xNew, bd_ok, bd_bad, bd_exc, es_ok, es_exc, st_ok, nex_ok, sq_nx, sq_rt, sq_bk, sq_ct, sq_exc, bd_bd, es_bd, st_bd, sq_es, sq_st, sq_sq, a_ev1, a_ev2, f_truB, f_truI, f_toBl, f_add, f_sub, f_mul, f_div, f_mod, f_pow, f_neg, f_lt, f_le, f_gt, f_ge, f_int, f_abs, f_lenT, f_lenL, f_tupT, f_divmod, f_catT, f_catL, f_eqI, f_eqS, f_neS, f_isN, f_isNN, f_ixT, f_ixL, f_ofS, f_seqT, f_seqL, f_seqC, f_enT, f_enL, f_isS, f_lenC, f_sumT, f_sumL, f_sumF, f_allF, f_anyF, f_min, f_max, ho_rt, ho_nx, ho_exc, ho_ok, lp_nx, lp_ct, lp_bk, lp_rt, lp_exc, wipeE, a_pure, a_stuck, f_mkF, f_mkT, l_L, l_C, l_F, l_ap, l_pf, l_mk, l_seqOf, l_seqOfT, l_seqOfL, l_ix, l_seqIt, l_en, l_tup, l_isL, l_app, l_set, l_fld, l_insC, l_putF, l_lst, l_cutT, l_cutL, l_cutR, l_cutC, l_catRR, at_0, at_1, at_2, at_3, at_last, st_0, st_1, st_2, Option.isSome_some, List.map_cons, List.map_nil, List.length_cons, List.length_nil, List.cons_append, List.nil_append, List.getElem?_cons_zero, List.getElem?_cons_succ, List.set_cons_zero, List.set_cons_succ, List.replicate_succ, List.replicate_zero, List.zip_cons_cons, List.zip_nil_left, List.zip_nil_right, List.foldl_cons, List.foldl_nil, Nat.reduceAdd, Nat.reduceSub, Nat.zero_add, if_true, if_false, Bool.false_eq_true, reduceIte, reduceCtorEq, decide_true, decide_false, decide_eq_true_eq, Bool.not_eq_eq_eq_not, Bool.not_true, Bool.not_false, decide_eq_false_iff_not, ite_not, Bool.true_and, Bool.and_true, Bool.false_and, Bool.and_false, Option.bind_some, Option.map_some, and_self, true_and, and_true, line_pos0, line_pos1, line_pos2, line_pos3, Int.reduceEq, Int.reduceLT, Int.reduceLE, Int.reduceAdd, Int.reduceSub, Int.reduceMul, Int.reduceNeg, Int.reduceToNat, Int.reduceNe, Int.reducePow, Nat.reduceLeDiff, Nat.reduceLT, Nat.reduceEqDiff]
  try simp -implicitDefEqProofs only [f_bind, f_noX, f_sSeq, f_eS, f_sIf, f_sRet, a_sRetN, f_sSet, f_sPar, f_sAsg, f_sEx, a_sNil, f_sFor, f_sFldP, f_x2, f_x2F, f_x1, f_xIf, f_xAn, f_xOo, f_xNo, f_xTru, f_xBl, f_tNo, f_tAn, f_tOo, f_xCons, f_xNil, f_xTup, f_xMk, f_xP, f_xCall, f_xCallK, f_x3, f_ch3, f_var, f_gv, f_xC, f_xComp, f_itSeq, f_itEnum, f_itR1, f_itR2, f_toInt, f_xBM, f_xCut, f_xPart, f_xNoP, f_xFld, f_prC, f_xProp, f_gNm, f_gTp, f_gCn, f_gNl, f_gSb, f_xNew, bd_ok, bd_bad, bd_exc, es_ok, es_exc, st_ok, nex_ok, sq_nx, sq_rt, sq_bk, sq_ct, sq_exc, bd_bd, es_bd, st_bd, sq_es, sq_st, sq_sq, a_ev1, a_ev2, f_truB, f_truI, f_toBl, f_add, f_sub, f_mul, f_div, f_mod, f_pow, f_neg, f_lt, f_le, f_gt, f_ge, f_int, f_abs, f_lenT, f_lenL, f_tupT, f_divmod, f_catT, f_catL, f_eqI, f_eqS, f_neS, f_isN, f_isNN, f_ixT, f_ixL, f_ofS, f_seqT, f_seqL, f_seqC, f_enT, f_enL, f_isS, f_lenC, f_sumT, f_sumL, f_sumF, f_allF, f_anyF, f_min, f_max, ho_rt, ho_nx, ho_exc, ho_ok, lp_nx, lp_ct, lp_bk, lp_rt, lp_exc, wipeE, a_pure, a_stuck, f_mkF, f_mkT, l_L, l_C, l_F, l_ap, l_pf, l_mk, l_seqOf, l_seqOfT, l_seqOfL, l_ix, l_seqIt, l_en, l_tup, l_isL, l_app, l_set, l_fld, l_insC, l_putF, l_lst, l_cutT, l_cutL, l_cutR, l_cutC, l_catRR, at_0, at_1, at_2, at_3, at_last, st_0, st_1, st_2, Option.isSome_some, List.map_cons, List.map_nil, List.length_cons, List.length_nil, List.cons_append, List.nil_append, List.getElem?_cons_zero, List.getElem?_cons_succ, List.set_cons_zero, List.set_cons_succ, List.replicate_succ, List.replicate_zero, List.zip_cons_cons, List.zip_nil_left, List.zip_nil_right, List.foldl_cons, List.foldl_nil, Nat.reduceAdd, Nat.reduceSub, Nat.zero_add, if_true, if_false, Bool.false_eq_true, reduceIte, reduceCtorEq, decide_true, decide_false, decide_eq_true_eq, Bool.not_eq_eq_eq_not, Bool.not_true, Bool.not_false, decide_eq_false_iff_not, ite_not, Bool.true_and, Bool.and_true, Bool.false_and, Bool.and_false, Option.bind_some, Option.map_some, and_self, true_and, and_true, line_pos0, line_pos1, line_pos2, line_pos3, Int.reduceEq, Int.reduceLT, Int.reduceLE, Int.reduceAdd, Int.reduceSub, Int.reduceMul, Int.reduceNeg, Int.reduceToNat, Int.reduceNe, Int.reducePow, Nat.reduceLeDiff, Nat.reduceLT, Nat.reduceEqDiff, h', el, k1, k2, k3, m1, m2, d1, d2, List.length_map, f_max3]
  exact is_refl
/-- the least number that fits -/
def LeastP (u : Int) (ss : List Int) (d : D) : Prop := (d = .non ∧ (2 * u < Poll.lowS ss ∨ Poll.topS ss ≤ 2 * u)) ∨ ∃ m : Int, d = .int m ∧ 1 ≤ m ∧ m ≤ 20000 ∧ Fit u ss m = true ∧ (∀ i : Int, 1 ≤ i → i < m → Fit u ss i = false) ∧ Poll.lowS ss ≤ 2 * u ∧ 2 * u < Poll.topS ss
/-- the number from which on all fit -/
def FromP (u : Int) (ss : List Int) (d : D) : Prop := (d = .non ∧ (2 * u ≤ Poll.lowS ss ∨ Poll.topS ss ≤ 2 * u)) ∨ ∃ m : Int, d = .int m ∧ 1 ≤ m ∧ m ≤ 20001 ∧ (∀ i : Int, m ≤ i → Fit u ss i = true) ∧ (m = 1 ∨ Fit u ss (m - 1) = false) ∧ Poll.lowS ss < 2 * u ∧ 2 * u < Poll.topS ss
theorem LeastP.eq {u : Int} {ss : List Int} {d d' : D} (h : LeastP u ss d) (k : LeastP u ss d') : d = d' := by
  rcases h with ⟨rfl, h⟩ | ⟨m, rfl, h1, h2, h3, h4, h5, h6⟩ <;> rcases k with ⟨rfl, k⟩ | ⟨m', rfl, k1, k2, k3, k4, k5, k6⟩
  · rfl
  · exfalso; omega
  · exfalso; omega
  · have : ¬ m < m' := fun z => by have := k4 m h1 z; rw [h3] at this; cases this
    have : ¬ m' < m := fun z => by have := h4 m' k1 z; rw [k3] at this; cases this
    congr 1
    omega
theorem FromP.eq {u : Int} {ss : List Int} {d d' : D} (h : FromP u ss d) (k : FromP u ss d') : d = d' := by
  rcases h with ⟨rfl, h⟩ | ⟨m, rfl, h1, h2, h3, h4, h5, h6⟩ <;> rcases k with ⟨rfl, k⟩ | ⟨m', rfl, k1, k2, k3, k4, k5, k6⟩
  · rfl
  · exfalso; omega
  · exfalso; omega
  · have a : ¬ m < m' := fun z => by
      rcases k4 with q | q
      · omega
      · rw [h3 (m' - 1) (by omega)] at q; cases q
    have b : ¬ m' < m := fun z => by
      rcases h4 with q | q
      · omega
      · rw [k3 (m - 1) (by omega)] at q; cases q
    congr 1
    omega
theorem fit_far {u : Int} {ss : List Int} (hu : u = 100 ∨ u = 1000) (hs : ∀ z ∈ ss, 0 ≤ z ∧ z ≤ u) (hl : ss.length ≤ 6) (h0 : 0 < 2 * u - Poll.lowS ss) (h1 : 0 < Poll.topS ss - 2 * u) {p : Int} (hp : Poll.far u ss ≤ p) : Fit u ss p = true := by
  obtain ⟨a, b, c⟩ := Poll.far_b hu hl h0 h1
  obtain ⟨c1, c2⟩ := c p hp
  exact Poll.fit_far (by omega) hs (by omega) c1 c2
theorem fit_two {u : Int} {ss : List Int} (hu : u = 100 ∨ u = 1000) (hs : ∀ z ∈ ss, 0 ≤ z ∧ z ≤ u) (h : Poll.lowS ss = 2 * u) : Fit u ss (2 * u) = true := (Poll.fit_just (by omega) hs (by omega) h).mpr (Poll.Div.unit u ss)
theorem from_on_ok (n : Nat) {S : Sto} {j : Nat} {pl u : Int} {ss : List Int} (hu : PU pl u) (h : IsP S j pl ss) (hs : ∀ z ∈ ss, 0 ≤ z ∧ z ≤ u) (hl : ss.length ≤ 6) : Ho (cal g (n + 5) 21 [.ref j] S) (OkP fun d S' => FromP u ss d ∧ S' = S) := by
  have hu' := hu.u
  have k1 := check_poll_ok (n + 3) j (pollF pl ss) S h
  have k2 := unit_ok (n + 2) hu h
  have k3 := bounds_ok (n + 2) h (fun z hz => (hs z hz).1) hl
  have m1 : ∀ z : Int, mulB 2 z = true := fun z => mulB_l (by decide)
  rw [c_from_on]; refine ho_run ?_; unfold x_from_on; simp -implicitDefEqProofs only [f_bind, f_noX, f_sSeq, f_eS, f_sIf, f_sRet, a_sRetN, f_sSet, f_sPar, f_sAsg, f_sEx, a_sNil, f_sFor, f_sFldP, f_x2, f_x2F, f_x1, f_xIf, f_xAn, f_xOo, f_xNo, f_xTru, f_xBl, f_tNo, f_tAn, f_tOo, f_xCons, f_xNil, f_xTup, f_xMk, f_xP, f_xCall, f_xCallK, f_x3, f_ch3, f_var, f_gv, f_xC, f_xComp, f_itSeq, f_itEnum, f_itR1, f_itR2, f_toInt, f_xBM, f_xCut, f_xPart, f_xNoP, f_xFld, f_prC, f_xProp, f_gNm, f_gTp, f_gCn, f_gNl, f_gSb, f_xNew, bd_ok, bd_bad, bd_exc, es_ok, es_exc, st_ok, nex_ok, sq_nx, sq_rt, sq_bk, sq_ct, sq_exc, bd_bd, es_bd, st_bd, sq_es, sq_st, sq_sq, a_ev1, a_ev2, f_truB, f_truI, f_toBl, f_add, f_sub, f_mul, f_div, f_mod, f_pow, f_neg, f_lt, f_le, f_gt, f_ge, f_int, f_abs, f_lenT, f_lenL, f_tupT, f_divmod, f_catT, f_catL, f_eqI, f_eqS, f_neS, f_isN, f_isNN, f_ixT, f_ixL, f_ofS, f_seqT, f_seqL, f_seqC, f_enT, f_enL, f_isS, f_lenC, f_sumT, f_sumL, f_sumF, f_allF, f_anyF, f_min, f_max, ho_rt, ho_nx, ho_exc, ho_ok, lp_nx, lp_ct, lp_bk, lp_rt, lp_exc, wipeE, a_pure, a_stuck, f_mkF, f_mkT, l_L, l_C, l_F, l_ap, l_pf, l_mk, l_seqOf, l_seqOfT, l_seqOfL, l_ix, l_seqIt, l_en, l_tup, l_isL, l_app, l_set, l_fld, l_insC, l_putF, l_lst, l_cutT, l_cutL, l_cutR, l_cutC, l_catRR, at_0, at_1, at_2, at_3, at_last, st_0, st_1, st_2, Option.isSome_some, List.map_cons, List.map_nil, List.length_cons, List.length_nil, List.cons_append, List.nil_append, List.getElem?_cons_zero, List.getElem?_cons_succ, List.set_cons_zero, List.set_cons_succ, List.replicate_succ, List.replicate_zero, List.zip_cons_cons, List.zip_nil_left, List.zip_nil_right, List.foldl_cons, List.foldl_nil, Nat.reduceAdd, Nat.reduceSub, Nat.zero_add, if_true, if_false, Bool.false_eq_true, reduceIte, reduceCtorEq, decide_true, decide_false, decide_eq_true_eq, Bool.not_eq_eq_eq_not, Bool.not_true, Bool.not_false, decide_eq_false_iff_not, ite_not, Bool.true_and, Bool.and_true, Bool.false_and, Bool.and_false, Option.bind_some, Option.map_some, and_self, true_and, and_true, line_pos0, line_pos1, line_pos2, line_pos3, Int.reduceEq, Int.reduceLT, Int.reduceLE, Int.reduceAdd, Int.reduceSub, Int.reduceMul, Int.reduceNeg, Int.reduceToNat, Int.reduceNe, Int.reducePow, Nat.reduceLeDiff, Nat.reduceLT, Nat.reduceEqDiff]
  try simp -implicitDefEqProofs only [f_bind, f_noX, f_sSeq, f_eS, f_sIf, f_sRet, a_sRetN, f_sSet, f_sPar, f_sAsg, f_sEx, a_sNil, f_sFor, f_sFldP, f_x2, f_x2F, f_x1, f_xIf, f_xAn, f_xOo, f_xNo, f_xTru, f_xBl, f_tNo, f_tAn, f_tOo, f_xCons, f_xNil, f_xTup, f_xMk, f_xP, f_xCall, f_xCallK, f_x3, f_ch3, f_var, f_gv, f_xC, f_xComp, f_itSeq, f_itEnum, f_itR1, f_itR2, f_toInt, f_xBM, f_xCut, f_xPart, f_xNoP, f_xFld, f_prC, f_xProp, f_gNm, f_gTp, f_gCn, f_gNl, f_gSb, f_xNew, bd_ok, bd_bad, bd_exc, es_ok, es_exc, st_ok, nex_ok, sq_nx, sq_rt, sq_bk, sq_ct, sq_exc, bd_bd, es_bd, st_bd, sq_es, sq_st, sq_sq, a_ev1, a_ev2, f_truB, f_truI, f_toBl, f_add, f_sub, f_mul, f_div, f_mod, f_pow, f_neg, f_lt, f_le, f_gt, f_ge, f_int, f_abs, f_lenT, f_lenL, f_tupT, f_divmod, f_catT, f_catL, f_eqI, f_eqS, f_neS, f_isN, f_isNN, f_ixT, f_ixL, f_ofS, f_seqT, f_seqL, f_seqC, f_enT, f_enL, f_isS, f_lenC, f_sumT, f_sumL, f_sumF, f_allF, f_anyF, f_min, f_max, ho_rt, ho_nx, ho_exc, ho_ok, lp_nx, lp_ct, lp_bk, lp_rt, lp_exc, wipeE, a_pure, a_stuck, f_mkF, f_mkT, l_L, l_C, l_F, l_ap, l_pf, l_mk, l_seqOf, l_seqOfT, l_seqOfL, l_ix, l_seqIt, l_en, l_tup, l_isL, l_app, l_set, l_fld, l_insC, l_putF, l_lst, l_cutT, l_cutL, l_cutR, l_cutC, l_catRR, at_0, at_1, at_2, at_3, at_last, st_0, st_1, st_2, Option.isSome_some, List.map_cons, List.map_nil, List.length_cons, List.length_nil, List.cons_append, List.nil_append, List.getElem?_cons_zero, List.getElem?_cons_succ, List.set_cons_zero, List.set_cons_succ, List.replicate_succ, List.replicate_zero, List.zip_cons_cons, List.zip_nil_left, List.zip_nil_right, List.foldl_cons, List.foldl_nil, Nat.reduceAdd, Nat.reduceSub, Nat.zero_add, if_true, if_false, Bool.false_eq_true, reduceIte, reduceCtorEq, decide_true, decide_false, decide_eq_true_eq, Bool.not_eq_eq_eq_not, Bool.not_true, Bool.not_false, decide_eq_false_iff_not, ite_not, Bool.true_and, Bool.and_true, Bool.false_and, Bool.and_false, Option.bind_some, Option.map_some, and_self, true_and, and_true, line_pos0, line_pos1, line_pos2, line_pos3, Int.reduceEq, Int.reduceLT, Int.reduceLE, Int.reduceAdd, Int.reduceSub, Int.reduceMul, Int.reduceNeg, Int.reduceToNat, Int.reduceNe, Int.reducePow, Nat.reduceLeDiff, Nat.reduceLT, Nat.reduceEqDiff, k1, k2, k3, m1]
  by_cases h0 : 2 * u ≤ Poll.lowS ss
  · try simp -implicitDefEqProofs only [f_bind, f_noX, f_sSeq, f_eS, f_sIf, f_sRet, a_sRetN, f_sSet, f_sPar, f_sAsg, f_sEx, a_sNil, f_sFor, f_sFldP, f_x2, f_x2F, f_x1, f_xIf, f_xAn, f_xOo, f_xNo, f_xTru, f_xBl, f_tNo, f_tAn, f_tOo, f_xCons, f_xNil, f_xTup, f_xMk, f_xP, f_xCall, f_xCallK, f_x3, f_ch3, f_var, f_gv, f_xC, f_xComp, f_itSeq, f_itEnum, f_itR1, f_itR2, f_toInt, f_xBM, f_xCut, f_xPart, f_xNoP, f_xFld, f_prC, f_xProp, f_gNm, f_gTp, f_gCn, f_gNl, f_gSb, f_xNew, bd_ok, bd_bad, bd_exc, es_ok, es_exc, st_ok, nex_ok, sq_nx, sq_rt, sq_bk, sq_ct, sq_exc, bd_bd, es_bd, st_bd, sq_es, sq_st, sq_sq, a_ev1, a_ev2, f_truB, f_truI, f_toBl, f_add, f_sub, f_mul, f_div, f_mod, f_pow, f_neg, f_lt, f_le, f_gt, f_ge, f_int, f_abs, f_lenT, f_lenL, f_tupT, f_divmod, f_catT, f_catL, f_eqI, f_eqS, f_neS, f_isN, f_isNN, f_ixT, f_ixL, f_ofS, f_seqT, f_seqL, f_seqC, f_enT, f_enL, f_isS, f_lenC, f_sumT, f_sumL, f_sumF, f_allF, f_anyF, f_min, f_max, ho_rt, ho_nx, ho_exc, ho_ok, lp_nx, lp_ct, lp_bk, lp_rt, lp_exc, wipeE, a_pure, a_stuck, f_mkF, f_mkT, l_L, l_C, l_F, l_ap, l_pf, l_mk, l_seqOf, l_seqOfT, l_seqOfL, l_ix, l_seqIt, l_en, l_tup, l_isL, l_app, l_set, l_fld, l_insC, l_putF, l_lst, l_cutT, l_cutL, l_cutR, l_cutC, l_catRR, at_0, at_1, at_2, at_3, at_last, st_0, st_1, st_2, Option.isSome_some, List.map_cons, List.map_nil, List.length_cons, List.length_nil, List.cons_append, List.nil_append, List.getElem?_cons_zero, List.getElem?_cons_succ, List.set_cons_zero, List.set_cons_succ, List.replicate_succ, List.replicate_zero, List.zip_cons_cons, List.zip_nil_left, List.zip_nil_right, List.foldl_cons, List.foldl_nil, Nat.reduceAdd, Nat.reduceSub, Nat.zero_add, if_true, if_false, Bool.false_eq_true, reduceIte, reduceCtorEq, decide_true, decide_false, decide_eq_true_eq, Bool.not_eq_eq_eq_not, Bool.not_true, Bool.not_false, decide_eq_false_iff_not, ite_not, Bool.true_and, Bool.and_true, Bool.false_and, Bool.and_false, Option.bind_some, Option.map_some, and_self, true_and, and_true, line_pos0, line_pos1, line_pos2, line_pos3, Int.reduceEq, Int.reduceLT, Int.reduceLE, Int.reduceAdd, Int.reduceSub, Int.reduceMul, Int.reduceNeg, Int.reduceToNat, Int.reduceNe, Int.reducePow, Nat.reduceLeDiff, Nat.reduceLT, Nat.reduceEqDiff, h0]
    exact .inl ⟨rfl, .inl h0⟩
  · by_cases h1 : Poll.topS ss ≤ 2 * u
    · try simp -implicitDefEqProofs only [f_bind, f_noX, f_sSeq, f_eS, f_sIf, f_sRet, a_sRetN, f_sSet, f_sPar, f_sAsg, f_sEx, a_sNil, f_sFor, f_sFldP, f_x2, f_x2F, f_x1, f_xIf, f_xAn, f_xOo, f_xNo, f_xTru, f_xBl, f_tNo, f_tAn, f_tOo, f_xCons, f_xNil, f_xTup, f_xMk, f_xP, f_xCall, f_xCallK, f_x3, f_ch3, f_var, f_gv, f_xC, f_xComp, f_itSeq, f_itEnum, f_itR1, f_itR2, f_toInt, f_xBM, f_xCut, f_xPart, f_xNoP, f_xFld, f_prC, f_xProp, f_gNm, f_gTp, f_gCn, f_gNl, f_gSb, f_xNew, bd_ok, bd_bad, bd_exc, es_ok, es_exc, st_ok, nex_ok, sq_nx, sq_rt, sq_bk, sq_ct, sq_exc, bd_bd, es_bd, st_bd, sq_es, sq_st, sq_sq, a_ev1, a_ev2, f_truB, f_truI, f_toBl, f_add, f_sub, f_mul, f_div, f_mod, f_pow, f_neg, f_lt, f_le, f_gt, f_ge, f_int, f_abs, f_lenT, f_lenL, f_tupT, f_divmod, f_catT, f_catL, f_eqI, f_eqS, f_neS, f_isN, f_isNN, f_ixT, f_ixL, f_ofS, f_seqT, f_seqL, f_seqC, f_enT, f_enL, f_isS, f_lenC, f_sumT, f_sumL, f_sumF, f_allF, f_anyF, f_min, f_max, ho_rt, ho_nx, ho_exc, ho_ok, lp_nx, lp_ct, lp_bk, lp_rt, lp_exc, wipeE, a_pure, a_stuck, f_mkF, f_mkT, l_L, l_C, l_F, l_ap, l_pf, l_mk, l_seqOf, l_seqOfT, l_seqOfL, l_ix, l_seqIt, l_en, l_tup, l_isL, l_app, l_set, l_fld, l_insC, l_putF, l_lst, l_cutT, l_cutL, l_cutR, l_cutC, l_catRR, at_0, at_1, at_2, at_3, at_last, st_0, st_1, st_2, Option.isSome_some, List.map_cons, List.map_nil, List.length_cons, List.length_nil, List.cons_append, List.nil_append, List.getElem?_cons_zero, List.getElem?_cons_succ, List.set_cons_zero, List.set_cons_succ, List.replicate_succ, List.replicate_zero, List.zip_cons_cons, List.zip_nil_left, List.zip_nil_right, List.foldl_cons, List.foldl_nil, Nat.reduceAdd, Nat.reduceSub, Nat.zero_add, if_true, if_false, Bool.false_eq_true, reduceIte, reduceCtorEq, decide_true, decide_false, decide_eq_true_eq, Bool.not_eq_eq_eq_not, Bool.not_true, Bool.not_false, decide_eq_false_iff_not, ite_not, Bool.true_and, Bool.and_true, Bool.false_and, Bool.and_false, Option.bind_some, Option.map_some, and_self, true_and, and_true, line_pos0, line_pos1, line_pos2, line_pos3, Int.reduceEq, Int.reduceLT, Int.reduceLE, Int.reduceAdd, Int.reduceSub, Int.reduceMul, Int.reduceNeg, Int.reduceToNat, Int.reduceNe, Int.reducePow, Nat.reduceLeDiff, Nat.reduceLT, Nat.reduceEqDiff, h0, h1]
      exact .inl ⟨rfl, .inr h1⟩
    · have k4 := last_ok (n + 1) hu h hs hl (by omega) (by omega)
      obtain ⟨a, b, c⟩ := Poll.far_b hu' hl (show 0 < 2 * u - Poll.lowS ss by omega) (by omega)
      have hfar := fun {p : Int} => fit_far (p := p) hu' hs hl (show 0 < 2 * u - Poll.lowS ss by omega) (by omega)
      have i1 : i62 (Poll.far u ss) = true := i62_le (by omega)
      have i2 : i62 0 = true := by decide
      try simp -implicitDefEqProofs only [f_bind, f_noX, f_sSeq, f_eS, f_sIf, f_sRet, a_sRetN, f_sSet, f_sPar, f_sAsg, f_sEx, a_sNil, f_sFor, f_sFldP, f_x2, f_x2F, f_x1, f_xIf, f_xAn, f_xOo, f_xNo, f_xTru, f_xBl, f_tNo, f_tAn, f_tOo, f_xCons, f_xNil, f_xTup, f_xMk, f_xP, f_xCall, f_xCallK, f_x3, f_ch3, f_var, f_gv, f_xC, f_xComp, f_itSeq, f_itEnum, f_itR1, f_itR2, f_toInt, f_xBM, f_xCut, f_xPart, f_xNoP, f_xFld, f_prC, f_xProp, f_gNm, f_gTp, f_gCn, f_gNl, f_gSb, f_xNew, bd_ok, bd_bad, bd_exc, es_ok, es_exc, st_ok, nex_ok, sq_nx, sq_rt, sq_bk, sq_ct, sq_exc, bd_bd, es_bd, st_bd, sq_es, sq_st, sq_sq, a_ev1, a_ev2, f_truB, f_truI, f_toBl, f_add, f_sub, f_mul, f_div, f_mod, f_pow, f_neg, f_lt, f_le, f_gt, f_ge, f_int, f_abs, f_lenT, f_lenL, f_tupT, f_divmod, f_catT, f_catL, f_eqI, f_eqS, f_neS, f_isN, f_isNN, f_ixT, f_ixL, f_ofS, f_seqT, f_seqL, f_seqC, f_enT, f_enL, f_isS, f_lenC, f_sumT, f_sumL, f_sumF, f_allF, f_anyF, f_min, f_max, ho_rt, ho_nx, ho_exc, ho_ok, lp_nx, lp_ct, lp_bk, lp_rt, lp_exc, wipeE, a_pure, a_stuck, f_mkF, f_mkT, l_L, l_C, l_F, l_ap, l_pf, l_mk, l_seqOf, l_seqOfT, l_seqOfL, l_ix, l_seqIt, l_en, l_tup, l_isL, l_app, l_set, l_fld, l_insC, l_putF, l_lst, l_cutT, l_cutL, l_cutR, l_cutC, l_catRR, at_0, at_1, at_2, at_3, at_last, st_0, st_1, st_2, Option.isSome_some, List.map_cons, List.map_nil, List.length_cons, List.length_nil, List.cons_append, List.nil_append, List.getElem?_cons_zero, List.getElem?_cons_succ, List.set_cons_zero, List.set_cons_succ, List.replicate_succ, List.replicate_zero, List.zip_cons_cons, List.zip_nil_left, List.zip_nil_right, List.foldl_cons, List.foldl_nil, Nat.reduceAdd, Nat.reduceSub, Nat.zero_add, if_true, if_false, Bool.false_eq_true, reduceIte, reduceCtorEq, decide_true, decide_false, decide_eq_true_eq, Bool.not_eq_eq_eq_not, Bool.not_true, Bool.not_false, decide_eq_false_iff_not, ite_not, Bool.true_and, Bool.and_true, Bool.false_and, Bool.and_false, Option.bind_some, Option.map_some, and_self, true_and, and_true, line_pos0, line_pos1, line_pos2, line_pos3, Int.reduceEq, Int.reduceLT, Int.reduceLE, Int.reduceAdd, Int.reduceSub, Int.reduceMul, Int.reduceNeg, Int.reduceToNat, Int.reduceNe, Int.reducePow, Nat.reduceLeDiff, Nat.reduceLT, Nat.reduceEqDiff, h0, h1, k4, f_itR3, i1, i2, Int.sub_zero]
      refine for_down1 (by omega) (fun i e S' => S' = S ∧ (∃ y3, e = [some (.ref j), some (.int (Poll.lowS ss)), some (.int (Poll.topS ss)), y3]) ∧ ∀ p : Int, (i : Int) < p → Fit u ss p = true) ⟨rfl, ⟨_, rfl⟩, fun p hp => hfar (by omega)⟩ ?_ ?_
      · rintro i e _ hi ⟨rfl, ⟨y3, rfl⟩, hf⟩
        have k5 := does_fit_ok n hu h hs hl (p := (i : Int) + 1) (by omega)
        try simp -implicitDefEqProofs only [f_bind, f_noX, f_sSeq, f_eS, f_sIf, f_sRet, a_sRetN, f_sSet, f_sPar, f_sAsg, f_sEx, a_sNil, f_sFor, f_sFldP, f_x2, f_x2F, f_x1, f_xIf, f_xAn, f_xOo, f_xNo, f_xTru, f_xBl, f_tNo, f_tAn, f_tOo, f_xCons, f_xNil, f_xTup, f_xMk, f_xP, f_xCall, f_xCallK, f_x3, f_ch3, f_var, f_gv, f_xC, f_xComp, f_itSeq, f_itEnum, f_itR1, f_itR2, f_toInt, f_xBM, f_xCut, f_xPart, f_xNoP, f_xFld, f_prC, f_xProp, f_gNm, f_gTp, f_gCn, f_gNl, f_gSb, f_xNew, bd_ok, bd_bad, bd_exc, es_ok, es_exc, st_ok, nex_ok, sq_nx, sq_rt, sq_bk, sq_ct, sq_exc, bd_bd, es_bd, st_bd, sq_es, sq_st, sq_sq, a_ev1, a_ev2, f_truB, f_truI, f_toBl, f_add, f_sub, f_mul, f_div, f_mod, f_pow, f_neg, f_lt, f_le, f_gt, f_ge, f_int, f_abs, f_lenT, f_lenL, f_tupT, f_divmod, f_catT, f_catL, f_eqI, f_eqS, f_neS, f_isN, f_isNN, f_ixT, f_ixL, f_ofS, f_seqT, f_seqL, f_seqC, f_enT, f_enL, f_isS, f_lenC, f_sumT, f_sumL, f_sumF, f_allF, f_anyF, f_min, f_max, ho_rt, ho_nx, ho_exc, ho_ok, lp_nx, lp_ct, lp_bk, lp_rt, lp_exc, wipeE, a_pure, a_stuck, f_mkF, f_mkT, l_L, l_C, l_F, l_ap, l_pf, l_mk, l_seqOf, l_seqOfT, l_seqOfL, l_ix, l_seqIt, l_en, l_tup, l_isL, l_app, l_set, l_fld, l_insC, l_putF, l_lst, l_cutT, l_cutL, l_cutR, l_cutC, l_catRR, at_0, at_1, at_2, at_3, at_last, st_0, st_1, st_2, Option.isSome_some, List.map_cons, List.map_nil, List.length_cons, List.length_nil, List.cons_append, List.nil_append, List.getElem?_cons_zero, List.getElem?_cons_succ, List.set_cons_zero, List.set_cons_succ, List.replicate_succ, List.replicate_zero, List.zip_cons_cons, List.zip_nil_left, List.zip_nil_right, List.foldl_cons, List.foldl_nil, Nat.reduceAdd, Nat.reduceSub, Nat.zero_add, if_true, if_false, Bool.false_eq_true, reduceIte, reduceCtorEq, decide_true, decide_false, decide_eq_true_eq, Bool.not_eq_eq_eq_not, Bool.not_true, Bool.not_false, decide_eq_false_iff_not, ite_not, Bool.true_and, Bool.and_true, Bool.false_and, Bool.and_false, Option.bind_some, Option.map_some, and_self, true_and, and_true, line_pos0, line_pos1, line_pos2, line_pos3, Int.reduceEq, Int.reduceLT, Int.reduceLE, Int.reduceAdd, Int.reduceSub, Int.reduceMul, Int.reduceNeg, Int.reduceToNat, Int.reduceNe, Int.reducePow, Nat.reduceLeDiff, Nat.reduceLT, Nat.reduceEqDiff, k5]
        cases hq : Poll.feas (ends u ((i : Int) + 1) ss) ((i : Int) + 1) with
        | true =>
          try simp -implicitDefEqProofs only [f_bind, f_noX, f_sSeq, f_eS, f_sIf, f_sRet, a_sRetN, f_sSet, f_sPar, f_sAsg, f_sEx, a_sNil, f_sFor, f_sFldP, f_x2, f_x2F, f_x1, f_xIf, f_xAn, f_xOo, f_xNo, f_xTru, f_xBl, f_tNo, f_tAn, f_tOo, f_xCons, f_xNil, f_xTup, f_xMk, f_xP, f_xCall, f_xCallK, f_x3, f_ch3, f_var, f_gv, f_xC, f_xComp, f_itSeq, f_itEnum, f_itR1, f_itR2, f_toInt, f_xBM, f_xCut, f_xPart, f_xNoP, f_xFld, f_prC, f_xProp, f_gNm, f_gTp, f_gCn, f_gNl, f_gSb, f_xNew, bd_ok, bd_bad, bd_exc, es_ok, es_exc, st_ok, nex_ok, sq_nx, sq_rt, sq_bk, sq_ct, sq_exc, bd_bd, es_bd, st_bd, sq_es, sq_st, sq_sq, a_ev1, a_ev2, f_truB, f_truI, f_toBl, f_add, f_sub, f_mul, f_div, f_mod, f_pow, f_neg, f_lt, f_le, f_gt, f_ge, f_int, f_abs, f_lenT, f_lenL, f_tupT, f_divmod, f_catT, f_catL, f_eqI, f_eqS, f_neS, f_isN, f_isNN, f_ixT, f_ixL, f_ofS, f_seqT, f_seqL, f_seqC, f_enT, f_enL, f_isS, f_lenC, f_sumT, f_sumL, f_sumF, f_allF, f_anyF, f_min, f_max, ho_rt, ho_nx, ho_exc, ho_ok, lp_nx, lp_ct, lp_bk, lp_rt, lp_exc, wipeE, a_pure, a_stuck, f_mkF, f_mkT, l_L, l_C, l_F, l_ap, l_pf, l_mk, l_seqOf, l_seqOfT, l_seqOfL, l_ix, l_seqIt, l_en, l_tup, l_isL, l_app, l_set, l_fld, l_insC, l_putF, l_lst, l_cutT, l_cutL, l_cutR, l_cutC, l_catRR, at_0, at_1, at_2, at_3, at_last, st_0, st_1, st_2, Option.isSome_some, List.map_cons, List.map_nil, List.length_cons, List.length_nil, List.cons_append, List.nil_append, List.getElem?_cons_zero, List.getElem?_cons_succ, List.set_cons_zero, List.set_cons_succ, List.replicate_succ, List.replicate_zero, List.zip_cons_cons, List.zip_nil_left, List.zip_nil_right, List.foldl_cons, List.foldl_nil, Nat.reduceAdd, Nat.reduceSub, Nat.zero_add, if_true, if_false, Bool.false_eq_true, reduceIte, reduceCtorEq, decide_true, decide_false, decide_eq_true_eq, Bool.not_eq_eq_eq_not, Bool.not_true, Bool.not_false, decide_eq_false_iff_not, ite_not, Bool.true_and, Bool.and_true, Bool.false_and, Bool.and_false, Option.bind_some, Option.map_some, and_self, true_and, and_true, line_pos0, line_pos1, line_pos2, line_pos3, Int.reduceEq, Int.reduceLT, Int.reduceLE, Int.reduceAdd, Int.reduceSub, Int.reduceMul, Int.reduceNeg, Int.reduceToNat, Int.reduceNe, Int.reducePow, Nat.reduceLeDiff, Nat.reduceLT, Nat.reduceEqDiff]
          refine ⟨⟨_, rfl⟩, fun p hp => ?_⟩
          by_cases e : p = (i : Int) + 1
          · rw [e]; exact hq
          · exact hf p (by push_cast; omega)
        | false =>
          try simp -implicitDefEqProofs only [f_bind, f_noX, f_sSeq, f_eS, f_sIf, f_sRet, a_sRetN, f_sSet, f_sPar, f_sAsg, f_sEx, a_sNil, f_sFor, f_sFldP, f_x2, f_x2F, f_x1, f_xIf, f_xAn, f_xOo, f_xNo, f_xTru, f_xBl, f_tNo, f_tAn, f_tOo, f_xCons, f_xNil, f_xTup, f_xMk, f_xP, f_xCall, f_xCallK, f_x3, f_ch3, f_var, f_gv, f_xC, f_xComp, f_itSeq, f_itEnum, f_itR1, f_itR2, f_toInt, f_xBM, f_xCut, f_xPart, f_xNoP, f_xFld, f_prC, f_xProp, f_gNm, f_gTp, f_gCn, f_gNl, f_gSb, f_xNew, bd_ok, bd_bad, bd_exc, es_ok, es_exc, st_ok, nex_ok, sq_nx, sq_rt, sq_bk, sq_ct, sq_exc, bd_bd, es_bd, st_bd, sq_es, sq_st, sq_sq, a_ev1, a_ev2, f_truB, f_truI, f_toBl, f_add, f_sub, f_mul, f_div, f_mod, f_pow, f_neg, f_lt, f_le, f_gt, f_ge, f_int, f_abs, f_lenT, f_lenL, f_tupT, f_divmod, f_catT, f_catL, f_eqI, f_eqS, f_neS, f_isN, f_isNN, f_ixT, f_ixL, f_ofS, f_seqT, f_seqL, f_seqC, f_enT, f_enL, f_isS, f_lenC, f_sumT, f_sumL, f_sumF, f_allF, f_anyF, f_min, f_max, ho_rt, ho_nx, ho_exc, ho_ok, lp_nx, lp_ct, lp_bk, lp_rt, lp_exc, wipeE, a_pure, a_stuck, f_mkF, f_mkT, l_L, l_C, l_F, l_ap, l_pf, l_mk, l_seqOf, l_seqOfT, l_seqOfL, l_ix, l_seqIt, l_en, l_tup, l_isL, l_app, l_set, l_fld, l_insC, l_putF, l_lst, l_cutT, l_cutL, l_cutR, l_cutC, l_catRR, at_0, at_1, at_2, at_3, at_last, st_0, st_1, st_2, Option.isSome_some, List.map_cons, List.map_nil, List.length_cons, List.length_nil, List.cons_append, List.nil_append, List.getElem?_cons_zero, List.getElem?_cons_succ, List.set_cons_zero, List.set_cons_succ, List.replicate_succ, List.replicate_zero, List.zip_cons_cons, List.zip_nil_left, List.zip_nil_right, List.foldl_cons, List.foldl_nil, Nat.reduceAdd, Nat.reduceSub, Nat.zero_add, if_true, if_false, Bool.false_eq_true, reduceIte, reduceCtorEq, decide_true, decide_false, decide_eq_true_eq, Bool.not_eq_eq_eq_not, Bool.not_true, Bool.not_false, decide_eq_false_iff_not, ite_not, Bool.true_and, Bool.and_true, Bool.false_and, Bool.and_false, Option.bind_some, Option.map_some, and_self, true_and, and_true, line_pos0, line_pos1, line_pos2, line_pos3, Int.reduceEq, Int.reduceLT, Int.reduceLE, Int.reduceAdd, Int.reduceSub, Int.reduceMul, Int.reduceNeg, Int.reduceToNat, Int.reduceNe, Int.reducePow, Nat.reduceLeDiff, Nat.reduceLT, Nat.reduceEqDiff]
          refine .inr ⟨_, rfl, by omega, by omega, fun p hp => hf p (by push_cast; omega), .inr ?_, by omega, by omega⟩
          rw [Int.add_sub_cancel]
          exact hq
      · rintro e _ ⟨rfl, ⟨y3, rfl⟩, hf⟩
        try simp -implicitDefEqProofs only [f_bind, f_noX, f_sSeq, f_eS, f_sIf, f_sRet, a_sRetN, f_sSet, f_sPar, f_sAsg, f_sEx, a_sNil, f_sFor, f_sFldP, f_x2, f_x2F, f_x1, f_xIf, f_xAn, f_xOo, f_xNo, f_xTru, f_xBl, f_tNo, f_tAn, f_tOo, f_xCons, f_xNil, f_xTup, f_xMk, f_xP, f_xCall, f_xCallK, f_x3, f_ch3, f_var, f_gv, f_xC, f_xComp, f_itSeq, f_itEnum, f_itR1, f_itR2, f_toInt, f_xBM, f_xCut, f_xPart, f_xNoP, f_xFld, f_prC, f_xProp, f_gNm, f_gTp, f_gCn, f_gNl, f_gSb, f_xNew, bd_ok, bd_bad, bd_exc, es_ok, es_exc, st_ok, nex_ok, sq_nx, sq_rt, sq_bk, sq_ct, sq_exc, bd_bd, es_bd, st_bd, sq_es, sq_st, sq_sq, a_ev1, a_ev2, f_truB, f_truI, f_toBl, f_add, f_sub, f_mul, f_div, f_mod, f_pow, f_neg, f_lt, f_le, f_gt, f_ge, f_int, f_abs, f_lenT, f_lenL, f_tupT, f_divmod, f_catT, f_catL, f_eqI, f_eqS, f_neS, f_isN, f_isNN, f_ixT, f_ixL, f_ofS, f_seqT, f_seqL, f_seqC, f_enT, f_enL, f_isS, f_lenC, f_sumT, f_sumL, f_sumF, f_allF, f_anyF, f_min, f_max, ho_rt, ho_nx, ho_exc, ho_ok, lp_nx, lp_ct, lp_bk, lp_rt, lp_exc, wipeE, a_pure, a_stuck, f_mkF, f_mkT, l_L, l_C, l_F, l_ap, l_pf, l_mk, l_seqOf, l_seqOfT, l_seqOfL, l_ix, l_seqIt, l_en, l_tup, l_isL, l_app, l_set, l_fld, l_insC, l_putF, l_lst, l_cutT, l_cutL, l_cutR, l_cutC, l_catRR, at_0, at_1, at_2, at_3, at_last, st_0, st_1, st_2, Option.isSome_some, List.map_cons, List.map_nil, List.length_cons, List.length_nil, List.cons_append, List.nil_append, List.getElem?_cons_zero, List.getElem?_cons_succ, List.set_cons_zero, List.set_cons_succ, List.replicate_succ, List.replicate_zero, List.zip_cons_cons, List.zip_nil_left, List.zip_nil_right, List.foldl_cons, List.foldl_nil, Nat.reduceAdd, Nat.reduceSub, Nat.zero_add, if_true, if_false, Bool.false_eq_true, reduceIte, reduceCtorEq, decide_true, decide_false, decide_eq_true_eq, Bool.not_eq_eq_eq_not, Bool.not_true, Bool.not_false, decide_eq_false_iff_not, ite_not, Bool.true_and, Bool.and_true, Bool.false_and, Bool.and_false, Option.bind_some, Option.map_some, and_self, true_and, and_true, line_pos0, line_pos1, line_pos2, line_pos3, Int.reduceEq, Int.reduceLT, Int.reduceLE, Int.reduceAdd, Int.reduceSub, Int.reduceMul, Int.reduceNeg, Int.reduceToNat, Int.reduceNe, Int.reducePow, Nat.reduceLeDiff, Nat.reduceLT, Nat.reduceEqDiff]
        exact .inr ⟨1, rfl, by omega, by omega, fun p hp => hf p (by push_cast; omega), .inl rfl, by omega, by omega⟩
theorem least_ok (n : Nat) {S : Sto} {j : Nat} {pl u : Int} {ss : List Int} (hu : PU pl u) (h : IsP S j pl ss) (hs : ∀ z ∈ ss, 0 ≤ z ∧ z ≤ u) (hl : ss.length ≤ 6) : Ho (cal g (n + 5) 22 [.ref j] S) (OkP fun d S' => LeastP u ss d ∧ S' = S) := by
  have hu' := hu.u
  have k1 := check_poll_ok (n + 3) j (pollF pl ss) S h
  have k2 := unit_ok (n + 2) hu h
  have k3 := bounds_ok (n + 2) h (fun z hz => (hs z hz).1) hl
  have m1 : ∀ z : Int, mulB 2 z = true := fun z => mulB_l (by decide)
  rw [c_least_people]; refine ho_run ?_; unfold x_least_people; simp -implicitDefEqProofs only [f_bind, f_noX, f_sSeq, f_eS, f_sIf, f_sRet, a_sRetN, f_sSet, f_sPar, f_sAsg, f_sEx, a_sNil, f_sFor, f_sFldP, f_x2, f_x2F, f_x1, f_xIf, f_xAn, f_xOo, f_xNo, f_xTru, f_xBl, f_tNo, f_tAn, f_tOo, f_xCons, f_xNil, f_xTup, f_xMk, f_xP, f_xCall, f_xCallK, f_x3, f_ch3, f_var, f_gv, f_xC, f_xComp, f_itSeq, f_itEnum, f_itR1, f_itR2, f_toInt, f_xBM, f_xCut, f_xPart, f_xNoP, f_xFld, f_prC, f_xProp, f_gNm, f_gTp, f_gCn, f_gNl, f_gSb, f_xNew, bd_ok, bd_bad, bd_exc, es_ok, es_exc, st_ok, nex_ok, sq_nx, sq_rt, sq_bk, sq_ct, sq_exc, bd_bd, es_bd, st_bd, sq_es, sq_st, sq_sq, a_ev1, a_ev2, f_truB, f_truI, f_toBl, f_add, f_sub, f_mul, f_div, f_mod, f_pow, f_neg, f_lt, f_le, f_gt, f_ge, f_int, f_abs, f_lenT, f_lenL, f_tupT, f_divmod, f_catT, f_catL, f_eqI, f_eqS, f_neS, f_isN, f_isNN, f_ixT, f_ixL, f_ofS, f_seqT, f_seqL, f_seqC, f_enT, f_enL, f_isS, f_lenC, f_sumT, f_sumL, f_sumF, f_allF, f_anyF, f_min, f_max, ho_rt, ho_nx, ho_exc, ho_ok, lp_nx, lp_ct, lp_bk, lp_rt, lp_exc, wipeE, a_pure, a_stuck, f_mkF, f_mkT, l_L, l_C, l_F, l_ap, l_pf, l_mk, l_seqOf, l_seqOfT, l_seqOfL, l_ix, l_seqIt, l_en, l_tup, l_isL, l_app, l_set, l_fld, l_insC, l_putF, l_lst, l_cutT, l_cutL, l_cutR, l_cutC, l_catRR, at_0, at_1, at_2, at_3, at_last, st_0, st_1, st_2, Option.isSome_some, List.map_cons, List.map_nil, List.length_cons, List.length_nil, List.cons_append, List.nil_append, List.getElem?_cons_zero, List.getElem?_cons_succ, List.set_cons_zero, List.set_cons_succ, List.replicate_succ, List.replicate_zero, List.zip_cons_cons, List.zip_nil_left, List.zip_nil_right, List.foldl_cons, List.foldl_nil, Nat.reduceAdd, Nat.reduceSub, Nat.zero_add, if_true, if_false, Bool.false_eq_true, reduceIte, reduceCtorEq, decide_true, decide_false, decide_eq_true_eq, Bool.not_eq_eq_eq_not, Bool.not_true, Bool.not_false, decide_eq_false_iff_not, ite_not, Bool.true_and, Bool.and_true, Bool.false_and, Bool.and_false, Option.bind_some, Option.map_some, and_self, true_and, and_true, line_pos0, line_pos1, line_pos2, line_pos3, Int.reduceEq, Int.reduceLT, Int.reduceLE, Int.reduceAdd, Int.reduceSub, Int.reduceMul, Int.reduceNeg, Int.reduceToNat, Int.reduceNe, Int.reducePow, Nat.reduceLeDiff, Nat.reduceLT, Nat.reduceEqDiff]
  try simp -implicitDefEqProofs only [f_bind, f_noX, f_sSeq, f_eS, f_sIf, f_sRet, a_sRetN, f_sSet, f_sPar, f_sAsg, f_sEx, a_sNil, f_sFor, f_sFldP, f_x2, f_x2F, f_x1, f_xIf, f_xAn, f_xOo, f_xNo, f_xTru, f_xBl, f_tNo, f_tAn, f_tOo, f_xCons, f_xNil, f_xTup, f_xMk, f_xP, f_xCall, f_xCallK, f_x3, f_ch3, f_var, f_gv, f_xC, f_xComp, f_itSeq, f_itEnum, f_itR1, f_itR2, f_toInt, f_xBM, f_xCut, f_xPart, f_xNoP, f_xFld, f_prC, f_xProp, f_gNm, f_gTp, f_gCn, f_gNl, f_gSb, f_xNew, bd_ok, bd_bad, bd_exc, es_ok, es_exc, st_ok, nex_ok, sq_nx, sq_rt, sq_bk, sq_ct, sq_exc, bd_bd, es_bd, st_bd, sq_es, sq_st, sq_sq, a_ev1, a_ev2, f_truB, f_truI, f_toBl, f_add, f_sub, f_mul, f_div, f_mod, f_pow, f_neg, f_lt, f_le, f_gt, f_ge, f_int, f_abs, f_lenT, f_lenL, f_tupT, f_divmod, f_catT, f_catL, f_eqI, f_eqS, f_neS, f_isN, f_isNN, f_ixT, f_ixL, f_ofS, f_seqT, f_seqL, f_seqC, f_enT, f_enL, f_isS, f_lenC, f_sumT, f_sumL, f_sumF, f_allF, f_anyF, f_min, f_max, ho_rt, ho_nx, ho_exc, ho_ok, lp_nx, lp_ct, lp_bk, lp_rt, lp_exc, wipeE, a_pure, a_stuck, f_mkF, f_mkT, l_L, l_C, l_F, l_ap, l_pf, l_mk, l_seqOf, l_seqOfT, l_seqOfL, l_ix, l_seqIt, l_en, l_tup, l_isL, l_app, l_set, l_fld, l_insC, l_putF, l_lst, l_cutT, l_cutL, l_cutR, l_cutC, l_catRR, at_0, at_1, at_2, at_3, at_last, st_0, st_1, st_2, Option.isSome_some, List.map_cons, List.map_nil, List.length_cons, List.length_nil, List.cons_append, List.nil_append, List.getElem?_cons_zero, List.getElem?_cons_succ, List.set_cons_zero, List.set_cons_succ, List.replicate_succ, List.replicate_zero, List.zip_cons_cons, List.zip_nil_left, List.zip_nil_right, List.foldl_cons, List.foldl_nil, Nat.reduceAdd, Nat.reduceSub, Nat.zero_add, if_true, if_false, Bool.false_eq_true, reduceIte, reduceCtorEq, decide_true, decide_false, decide_eq_true_eq, Bool.not_eq_eq_eq_not, Bool.not_true, Bool.not_false, decide_eq_false_iff_not, ite_not, Bool.true_and, Bool.and_true, Bool.false_and, Bool.and_false, Option.bind_some, Option.map_some, and_self, true_and, and_true, line_pos0, line_pos1, line_pos2, line_pos3, Int.reduceEq, Int.reduceLT, Int.reduceLE, Int.reduceAdd, Int.reduceSub, Int.reduceMul, Int.reduceNeg, Int.reduceToNat, Int.reduceNe, Int.reducePow, Nat.reduceLeDiff, Nat.reduceLT, Nat.reduceEqDiff, k1, k2, k3, m1]
  by_cases h0 : 2 * u < Poll.lowS ss
  · try simp -implicitDefEqProofs only [f_bind, f_noX, f_sSeq, f_eS, f_sIf, f_sRet, a_sRetN, f_sSet, f_sPar, f_sAsg, f_sEx, a_sNil, f_sFor, f_sFldP, f_x2, f_x2F, f_x1, f_xIf, f_xAn, f_xOo, f_xNo, f_xTru, f_xBl, f_tNo, f_tAn, f_tOo, f_xCons, f_xNil, f_xTup, f_xMk, f_xP, f_xCall, f_xCallK, f_x3, f_ch3, f_var, f_gv, f_xC, f_xComp, f_itSeq, f_itEnum, f_itR1, f_itR2, f_toInt, f_xBM, f_xCut, f_xPart, f_xNoP, f_xFld, f_prC, f_xProp, f_gNm, f_gTp, f_gCn, f_gNl, f_gSb, f_xNew, bd_ok, bd_bad, bd_exc, es_ok, es_exc, st_ok, nex_ok, sq_nx, sq_rt, sq_bk, sq_ct, sq_exc, bd_bd, es_bd, st_bd, sq_es, sq_st, sq_sq, a_ev1, a_ev2, f_truB, f_truI, f_toBl, f_add, f_sub, f_mul, f_div, f_mod, f_pow, f_neg, f_lt, f_le, f_gt, f_ge, f_int, f_abs, f_lenT, f_lenL, f_tupT, f_divmod, f_catT, f_catL, f_eqI, f_eqS, f_neS, f_isN, f_isNN, f_ixT, f_ixL, f_ofS, f_seqT, f_seqL, f_seqC, f_enT, f_enL, f_isS, f_lenC, f_sumT, f_sumL, f_sumF, f_allF, f_anyF, f_min, f_max, ho_rt, ho_nx, ho_exc, ho_ok, lp_nx, lp_ct, lp_bk, lp_rt, lp_exc, wipeE, a_pure, a_stuck, f_mkF, f_mkT, l_L, l_C, l_F, l_ap, l_pf, l_mk, l_seqOf, l_seqOfT, l_seqOfL, l_ix, l_seqIt, l_en, l_tup, l_isL, l_app, l_set, l_fld, l_insC, l_putF, l_lst, l_cutT, l_cutL, l_cutR, l_cutC, l_catRR, at_0, at_1, at_2, at_3, at_last, st_0, st_1, st_2, Option.isSome_some, List.map_cons, List.map_nil, List.length_cons, List.length_nil, List.cons_append, List.nil_append, List.getElem?_cons_zero, List.getElem?_cons_succ, List.set_cons_zero, List.set_cons_succ, List.replicate_succ, List.replicate_zero, List.zip_cons_cons, List.zip_nil_left, List.zip_nil_right, List.foldl_cons, List.foldl_nil, Nat.reduceAdd, Nat.reduceSub, Nat.zero_add, if_true, if_false, Bool.false_eq_true, reduceIte, reduceCtorEq, decide_true, decide_false, decide_eq_true_eq, Bool.not_eq_eq_eq_not, Bool.not_true, Bool.not_false, decide_eq_false_iff_not, ite_not, Bool.true_and, Bool.and_true, Bool.false_and, Bool.and_false, Option.bind_some, Option.map_some, and_self, true_and, and_true, line_pos0, line_pos1, line_pos2, line_pos3, Int.reduceEq, Int.reduceLT, Int.reduceLE, Int.reduceAdd, Int.reduceSub, Int.reduceMul, Int.reduceNeg, Int.reduceToNat, Int.reduceNe, Int.reducePow, Nat.reduceLeDiff, Nat.reduceLT, Nat.reduceEqDiff, h0]
    exact .inl ⟨rfl, .inl h0⟩
  · by_cases h1 : Poll.topS ss ≤ 2 * u
    · try simp -implicitDefEqProofs only [f_bind, f_noX, f_sSeq, f_eS, f_sIf, f_sRet, a_sRetN, f_sSet, f_sPar, f_sAsg, f_sEx, a_sNil, f_sFor, f_sFldP, f_x2, f_x2F, f_x1, f_xIf, f_xAn, f_xOo, f_xNo, f_xTru, f_xBl, f_tNo, f_tAn, f_tOo, f_xCons, f_xNil, f_xTup, f_xMk, f_xP, f_xCall, f_xCallK, f_x3, f_ch3, f_var, f_gv, f_xC, f_xComp, f_itSeq, f_itEnum, f_itR1, f_itR2, f_toInt, f_xBM, f_xCut, f_xPart, f_xNoP, f_xFld, f_prC, f_xProp, f_gNm, f_gTp, f_gCn, f_gNl, f_gSb, f_xNew, bd_ok, bd_bad, bd_exc, es_ok, es_exc, st_ok, nex_ok, sq_nx, sq_rt, sq_bk, sq_ct, sq_exc, bd_bd, es_bd, st_bd, sq_es, sq_st, sq_sq, a_ev1, a_ev2, f_truB, f_truI, f_toBl, f_add, f_sub, f_mul, f_div, f_mod, f_pow, f_neg, f_lt, f_le, f_gt, f_ge, f_int, f_abs, f_lenT, f_lenL, f_tupT, f_divmod, f_catT, f_catL, f_eqI, f_eqS, f_neS, f_isN, f_isNN, f_ixT, f_ixL, f_ofS, f_seqT, f_seqL, f_seqC, f_enT, f_enL, f_isS, f_lenC, f_sumT, f_sumL, f_sumF, f_allF, f_anyF, f_min, f_max, ho_rt, ho_nx, ho_exc, ho_ok, lp_nx, lp_ct, lp_bk, lp_rt, lp_exc, wipeE, a_pure, a_stuck, f_mkF, f_mkT, l_L, l_C, l_F, l_ap, l_pf, l_mk, l_seqOf, l_seqOfT, l_seqOfL, l_ix, l_seqIt, l_en, l_tup, l_isL, l_app, l_set, l_fld, l_insC, l_putF, l_lst, l_cutT, l_cutL, l_cutR, l_cutC, l_catRR, at_0, at_1, at_2, at_3, at_last, st_0, st_1, st_2, Option.isSome_some, List.map_cons, List.map_nil, List.length_cons, List.length_nil, List.cons_append, List.nil_append, List.getElem?_cons_zero, List.getElem?_cons_succ, List.set_cons_zero, List.set_cons_succ, List.replicate_succ, List.replicate_zero, List.zip_cons_cons, List.zip_nil_left, List.zip_nil_right, List.foldl_cons, List.foldl_nil, Nat.reduceAdd, Nat.reduceSub, Nat.zero_add, if_true, if_false, Bool.false_eq_true, reduceIte, reduceCtorEq, decide_true, decide_false, decide_eq_true_eq, Bool.not_eq_eq_eq_not, Bool.not_true, Bool.not_false, decide_eq_false_iff_not, ite_not, Bool.true_and, Bool.and_true, Bool.false_and, Bool.and_false, Option.bind_some, Option.map_some, and_self, true_and, and_true, line_pos0, line_pos1, line_pos2, line_pos3, Int.reduceEq, Int.reduceLT, Int.reduceLE, Int.reduceAdd, Int.reduceSub, Int.reduceMul, Int.reduceNeg, Int.reduceToNat, Int.reduceNe, Int.reducePow, Nat.reduceLeDiff, Nat.reduceLT, Nat.reduceEqDiff, h0, h1]
      exact .inl ⟨rfl, .inr h1⟩
    · have search : ∀ last : Int, 1 ≤ last → last ≤ 20000 → Fit u ss last = true → Ho ((loopF (cal g (n + 4)) (sIf (xTru (xCall 16 2 (xCons (xVar 0) (xCons (xVar 4) xNil)))) (sRet (xVar 4)) sNil) (gNm 4) [] (rngL 1 1 (last + 1 - 1).toNat) [some (.ref j), some (.int (Poll.lowS ss)), some (.int (Poll.topS ss)), some (.int last), none] S).sq fun e S => sRet (x2 (evAddA false) (xVar 3) (xC (.int 1))) (cal g (n + 4)) e S) (OutP (OkP fun d S' => LeastP u ss d ∧ S' = S)) := by
        intro last l1 l2 hlast
        refine for_rngA (fun i e S' => S' = S ∧ (∃ y4, e = [some (.ref j), some (.int (Poll.lowS ss)), some (.int (Poll.topS ss)), some (.int last), y4]) ∧ ∀ p : Int, 1 ≤ p → p < 1 + (i : Int) → Fit u ss p = false) ⟨rfl, ⟨_, rfl⟩, fun p a b => by omega⟩ ?_ ?_
        · rintro i e _ hi ⟨rfl, ⟨y3, rfl⟩, hf⟩
          have k5 := does_fit_ok n hu h hs hl (p := 1 + (i : Int)) (by omega)
          try simp -implicitDefEqProofs only [f_bind, f_noX, f_sSeq, f_eS, f_sIf, f_sRet, a_sRetN, f_sSet, f_sPar, f_sAsg, f_sEx, a_sNil, f_sFor, f_sFldP, f_x2, f_x2F, f_x1, f_xIf, f_xAn, f_xOo, f_xNo, f_xTru, f_xBl, f_tNo, f_tAn, f_tOo, f_xCons, f_xNil, f_xTup, f_xMk, f_xP, f_xCall, f_xCallK, f_x3, f_ch3, f_var, f_gv, f_xC, f_xComp, f_itSeq, f_itEnum, f_itR1, f_itR2, f_toInt, f_xBM, f_xCut, f_xPart, f_xNoP, f_xFld, f_prC, f_xProp, f_gNm, f_gTp, f_gCn, f_gNl, f_gSb, f_xNew, bd_ok, bd_bad, bd_exc, es_ok, es_exc, st_ok, nex_ok, sq_nx, sq_rt, sq_bk, sq_ct, sq_exc, bd_bd, es_bd, st_bd, sq_es, sq_st, sq_sq, a_ev1, a_ev2, f_truB, f_truI, f_toBl, f_add, f_sub, f_mul, f_div, f_mod, f_pow, f_neg, f_lt, f_le, f_gt, f_ge, f_int, f_abs, f_lenT, f_lenL, f_tupT, f_divmod, f_catT, f_catL, f_eqI, f_eqS, f_neS, f_isN, f_isNN, f_ixT, f_ixL, f_ofS, f_seqT, f_seqL, f_seqC, f_enT, f_enL, f_isS, f_lenC, f_sumT, f_sumL, f_sumF, f_allF, f_anyF, f_min, f_max, ho_rt, ho_nx, ho_exc, ho_ok, lp_nx, lp_ct, lp_bk, lp_rt, lp_exc, wipeE, a_pure, a_stuck, f_mkF, f_mkT, l_L, l_C, l_F, l_ap, l_pf, l_mk, l_seqOf, l_seqOfT, l_seqOfL, l_ix, l_seqIt, l_en, l_tup, l_isL, l_app, l_set, l_fld, l_insC, l_putF, l_lst, l_cutT, l_cutL, l_cutR, l_cutC, l_catRR, at_0, at_1, at_2, at_3, at_last, st_0, st_1, st_2, Option.isSome_some, List.map_cons, List.map_nil, List.length_cons, List.length_nil, List.cons_append, List.nil_append, List.getElem?_cons_zero, List.getElem?_cons_succ, List.set_cons_zero, List.set_cons_succ, List.replicate_succ, List.replicate_zero, List.zip_cons_cons, List.zip_nil_left, List.zip_nil_right, List.foldl_cons, List.foldl_nil, Nat.reduceAdd, Nat.reduceSub, Nat.zero_add, if_true, if_false, Bool.false_eq_true, reduceIte, reduceCtorEq, decide_true, decide_false, decide_eq_true_eq, Bool.not_eq_eq_eq_not, Bool.not_true, Bool.not_false, decide_eq_false_iff_not, ite_not, Bool.true_and, Bool.and_true, Bool.false_and, Bool.and_false, Option.bind_some, Option.map_some, and_self, true_and, and_true, line_pos0, line_pos1, line_pos2, line_pos3, Int.reduceEq, Int.reduceLT, Int.reduceLE, Int.reduceAdd, Int.reduceSub, Int.reduceMul, Int.reduceNeg, Int.reduceToNat, Int.reduceNe, Int.reducePow, Nat.reduceLeDiff, Nat.reduceLT, Nat.reduceEqDiff, k5]
          cases hq : Poll.feas (ends u (1 + (i : Int)) ss) (1 + (i : Int)) with
          | true =>
            try simp -implicitDefEqProofs only [f_bind, f_noX, f_sSeq, f_eS, f_sIf, f_sRet, a_sRetN, f_sSet, f_sPar, f_sAsg, f_sEx, a_sNil, f_sFor, f_sFldP, f_x2, f_x2F, f_x1, f_xIf, f_xAn, f_xOo, f_xNo, f_xTru, f_xBl, f_tNo, f_tAn, f_tOo, f_xCons, f_xNil, f_xTup, f_xMk, f_xP, f_xCall, f_xCallK, f_x3, f_ch3, f_var, f_gv, f_xC, f_xComp, f_itSeq, f_itEnum, f_itR1, f_itR2, f_toInt, f_xBM, f_xCut, f_xPart, f_xNoP, f_xFld, f_prC, f_xProp, f_gNm, f_gTp, f_gCn, f_gNl, f_gSb, f_xNew, bd_ok, bd_bad, bd_exc, es_ok, es_exc, st_ok, nex_ok, sq_nx, sq_rt, sq_bk, sq_ct, sq_exc, bd_bd, es_bd, st_bd, sq_es, sq_st, sq_sq, a_ev1, a_ev2, f_truB, f_truI, f_toBl, f_add, f_sub, f_mul, f_div, f_mod, f_pow, f_neg, f_lt, f_le, f_gt, f_ge, f_int, f_abs, f_lenT, f_lenL, f_tupT, f_divmod, f_catT, f_catL, f_eqI, f_eqS, f_neS, f_isN, f_isNN, f_ixT, f_ixL, f_ofS, f_seqT, f_seqL, f_seqC, f_enT, f_enL, f_isS, f_lenC, f_sumT, f_sumL, f_sumF, f_allF, f_anyF, f_min, f_max, ho_rt, ho_nx, ho_exc, ho_ok, lp_nx, lp_ct, lp_bk, lp_rt, lp_exc, wipeE, a_pure, a_stuck, f_mkF, f_mkT, l_L, l_C, l_F, l_ap, l_pf, l_mk, l_seqOf, l_seqOfT, l_seqOfL, l_ix, l_seqIt, l_en, l_tup, l_isL, l_app, l_set, l_fld, l_insC, l_putF, l_lst, l_cutT, l_cutL, l_cutR, l_cutC, l_catRR, at_0, at_1, at_2, at_3, at_last, st_0, st_1, st_2, Option.isSome_some, List.map_cons, List.map_nil, List.length_cons, List.length_nil, List.cons_append, List.nil_append, List.getElem?_cons_zero, List.getElem?_cons_succ, List.set_cons_zero, List.set_cons_succ, List.replicate_succ, List.replicate_zero, List.zip_cons_cons, List.zip_nil_left, List.zip_nil_right, List.foldl_cons, List.foldl_nil, Nat.reduceAdd, Nat.reduceSub, Nat.zero_add, if_true, if_false, Bool.false_eq_true, reduceIte, reduceCtorEq, decide_true, decide_false, decide_eq_true_eq, Bool.not_eq_eq_eq_not, Bool.not_true, Bool.not_false, decide_eq_false_iff_not, ite_not, Bool.true_and, Bool.and_true, Bool.false_and, Bool.and_false, Option.bind_some, Option.map_some, and_self, true_and, and_true, line_pos0, line_pos1, line_pos2, line_pos3, Int.reduceEq, Int.reduceLT, Int.reduceLE, Int.reduceAdd, Int.reduceSub, Int.reduceMul, Int.reduceNeg, Int.reduceToNat, Int.reduceNe, Int.reducePow, Nat.reduceLeDiff, Nat.reduceLT, Nat.reduceEqDiff]
            exact .inr ⟨_, rfl, by omega, by omega, hq, hf, by omega, by omega⟩
          | false =>
            try simp -implicitDefEqProofs only [f_bind, f_noX, f_sSeq, f_eS, f_sIf, f_sRet, a_sRetN, f_sSet, f_sPar, f_sAsg, f_sEx, a_sNil, f_sFor, f_sFldP, f_x2, f_x2F, f_x1, f_xIf, f_xAn, f_xOo, f_xNo, f_xTru, f_xBl, f_tNo, f_tAn, f_tOo, f_xCons, f_xNil, f_xTup, f_xMk, f_xP, f_xCall, f_xCallK, f_x3, f_ch3, f_var, f_gv, f_xC, f_xComp, f_itSeq, f_itEnum, f_itR1, f_itR2, f_toInt, f_xBM, f_xCut, f_xPart, f_xNoP, f_xFld, f_prC, f_xProp, f_gNm, f_gTp, f_gCn, f_gNl, f_gSb, f_xNew, bd_ok, bd_bad, bd_exc, es_ok, es_exc, st_ok, nex_ok, sq_nx, sq_rt, sq_bk, sq_ct, sq_exc, bd_bd, es_bd, st_bd, sq_es, sq_st, sq_sq, a_ev1, a_ev2, f_truB, f_truI, f_toBl, f_add, f_sub, f_mul, f_div, f_mod, f_pow, f_neg, f_lt, f_le, f_gt, f_ge, f_int, f_abs, f_lenT, f_lenL, f_tupT, f_divmod, f_catT, f_catL, f_eqI, f_eqS, f_neS, f_isN, f_isNN, f_ixT, f_ixL, f_ofS, f_seqT, f_seqL, f_seqC, f_enT, f_enL, f_isS, f_lenC, f_sumT, f_sumL, f_sumF, f_allF, f_anyF, f_min, f_max, ho_rt, ho_nx, ho_exc, ho_ok, lp_nx, lp_ct, lp_bk, lp_rt, lp_exc, wipeE, a_pure, a_stuck, f_mkF, f_mkT, l_L, l_C, l_F, l_ap, l_pf, l_mk, l_seqOf, l_seqOfT, l_seqOfL, l_ix, l_seqIt, l_en, l_tup, l_isL, l_app, l_set, l_fld, l_insC, l_putF, l_lst, l_cutT, l_cutL, l_cutR, l_cutC, l_catRR, at_0, at_1, at_2, at_3, at_last, st_0, st_1, st_2, Option.isSome_some, List.map_cons, List.map_nil, List.length_cons, List.length_nil, List.cons_append, List.nil_append, List.getElem?_cons_zero, List.getElem?_cons_succ, List.set_cons_zero, List.set_cons_succ, List.replicate_succ, List.replicate_zero, List.zip_cons_cons, List.zip_nil_left, List.zip_nil_right, List.foldl_cons, List.foldl_nil, Nat.reduceAdd, Nat.reduceSub, Nat.zero_add, if_true, if_false, Bool.false_eq_true, reduceIte, reduceCtorEq, decide_true, decide_false, decide_eq_true_eq, Bool.not_eq_eq_eq_not, Bool.not_true, Bool.not_false, decide_eq_false_iff_not, ite_not, Bool.true_and, Bool.and_true, Bool.false_and, Bool.and_false, Option.bind_some, Option.map_some, and_self, true_and, and_true, line_pos0, line_pos1, line_pos2, line_pos3, Int.reduceEq, Int.reduceLT, Int.reduceLE, Int.reduceAdd, Int.reduceSub, Int.reduceMul, Int.reduceNeg, Int.reduceToNat, Int.reduceNe, Int.reducePow, Nat.reduceLeDiff, Nat.reduceLT, Nat.reduceEqDiff]
            refine ⟨⟨_, rfl⟩, fun p a b => ?_⟩
            by_cases e : p = 1 + (i : Int)
            · rw [e]; exact hq
            · exact hf p a (by push_cast at b; omega)
        · rintro e _ ⟨rfl, ⟨y3, rfl⟩, hf⟩
          have := hf last l1 (by omega)
          rw [hlast] at this
          cases this
      by_cases h2 : Poll.lowS ss = 2 * u
      · have i1 : i62 (2 * u + 1) = true := i62_le (by omega)
        have i2 : i62 1 = true := by decide
        try simp -implicitDefEqProofs only [f_bind, f_noX, f_sSeq, f_eS, f_sIf, f_sRet, a_sRetN, f_sSet, f_sPar, f_sAsg, f_sEx, a_sNil, f_sFor, f_sFldP, f_x2, f_x2F, f_x1, f_xIf, f_xAn, f_xOo, f_xNo, f_xTru, f_xBl, f_tNo, f_tAn, f_tOo, f_xCons, f_xNil, f_xTup, f_xMk, f_xP, f_xCall, f_xCallK, f_x3, f_ch3, f_var, f_gv, f_xC, f_xComp, f_itSeq, f_itEnum, f_itR1, f_itR2, f_toInt, f_xBM, f_xCut, f_xPart, f_xNoP, f_xFld, f_prC, f_xProp, f_gNm, f_gTp, f_gCn, f_gNl, f_gSb, f_xNew, bd_ok, bd_bad, bd_exc, es_ok, es_exc, st_ok, nex_ok, sq_nx, sq_rt, sq_bk, sq_ct, sq_exc, bd_bd, es_bd, st_bd, sq_es, sq_st, sq_sq, a_ev1, a_ev2, f_truB, f_truI, f_toBl, f_add, f_sub, f_mul, f_div, f_mod, f_pow, f_neg, f_lt, f_le, f_gt, f_ge, f_int, f_abs, f_lenT, f_lenL, f_tupT, f_divmod, f_catT, f_catL, f_eqI, f_eqS, f_neS, f_isN, f_isNN, f_ixT, f_ixL, f_ofS, f_seqT, f_seqL, f_seqC, f_enT, f_enL, f_isS, f_lenC, f_sumT, f_sumL, f_sumF, f_allF, f_anyF, f_min, f_max, ho_rt, ho_nx, ho_exc, ho_ok, lp_nx, lp_ct, lp_bk, lp_rt, lp_exc, wipeE, a_pure, a_stuck, f_mkF, f_mkT, l_L, l_C, l_F, l_ap, l_pf, l_mk, l_seqOf, l_seqOfT, l_seqOfL, l_ix, l_seqIt, l_en, l_tup, l_isL, l_app, l_set, l_fld, l_insC, l_putF, l_lst, l_cutT, l_cutL, l_cutR, l_cutC, l_catRR, at_0, at_1, at_2, at_3, at_last, st_0, st_1, st_2, Option.isSome_some, List.map_cons, List.map_nil, List.length_cons, List.length_nil, List.cons_append, List.nil_append, List.getElem?_cons_zero, List.getElem?_cons_succ, List.set_cons_zero, List.set_cons_succ, List.replicate_succ, List.replicate_zero, List.zip_cons_cons, List.zip_nil_left, List.zip_nil_right, List.foldl_cons, List.foldl_nil, Nat.reduceAdd, Nat.reduceSub, Nat.zero_add, if_true, if_false, Bool.false_eq_true, reduceIte, reduceCtorEq, decide_true, decide_false, decide_eq_true_eq, Bool.not_eq_eq_eq_not, Bool.not_true, Bool.not_false, decide_eq_false_iff_not, ite_not, Bool.true_and, Bool.and_true, Bool.false_and, Bool.and_false, Option.bind_some, Option.map_some, and_self, true_and, and_true, line_pos0, line_pos1, line_pos2, line_pos3, Int.reduceEq, Int.reduceLT, Int.reduceLE, Int.reduceAdd, Int.reduceSub, Int.reduceMul, Int.reduceNeg, Int.reduceToNat, Int.reduceNe, Int.reducePow, Nat.reduceLeDiff, Nat.reduceLT, Nat.reduceEqDiff, h0, h1, k2, m1, if_pos h2, i1, i2]
        exact search (2 * u) (by omega) (by omega) (fit_two hu' hs h2)
      · have k4 := last_ok (n + 1) hu h hs hl (by omega) (by omega)
        obtain ⟨a, b, c⟩ := Poll.far_b hu' hl (show 0 < 2 * u - Poll.lowS ss by omega) (by omega)
        have i1 : i62 (Poll.far u ss + 1) = true := i62_le (by omega)
        have i2 : i62 1 = true := by decide
        try simp -implicitDefEqProofs only [f_bind, f_noX, f_sSeq, f_eS, f_sIf, f_sRet, a_sRetN, f_sSet, f_sPar, f_sAsg, f_sEx, a_sNil, f_sFor, f_sFldP, f_x2, f_x2F, f_x1, f_xIf, f_xAn, f_xOo, f_xNo, f_xTru, f_xBl, f_tNo, f_tAn, f_tOo, f_xCons, f_xNil, f_xTup, f_xMk, f_xP, f_xCall, f_xCallK, f_x3, f_ch3, f_var, f_gv, f_xC, f_xComp, f_itSeq, f_itEnum, f_itR1, f_itR2, f_toInt, f_xBM, f_xCut, f_xPart, f_xNoP, f_xFld, f_prC, f_xProp, f_gNm, f_gTp, f_gCn, f_gNl, f_gSb, f_xNew, bd_ok, bd_bad, bd_exc, es_ok, es_exc, st_ok, nex_ok, sq_nx, sq_rt, sq_bk, sq_ct, sq_exc, bd_bd, es_bd, st_bd, sq_es, sq_st, sq_sq, a_ev1, a_ev2, f_truB, f_truI, f_toBl, f_add, f_sub, f_mul, f_div, f_mod, f_pow, f_neg, f_lt, f_le, f_gt, f_ge, f_int, f_abs, f_lenT, f_lenL, f_tupT, f_divmod, f_catT, f_catL, f_eqI, f_eqS, f_neS, f_isN, f_isNN, f_ixT, f_ixL, f_ofS, f_seqT, f_seqL, f_seqC, f_enT, f_enL, f_isS, f_lenC, f_sumT, f_sumL, f_sumF, f_allF, f_anyF, f_min, f_max, ho_rt, ho_nx, ho_exc, ho_ok, lp_nx, lp_ct, lp_bk, lp_rt, lp_exc, wipeE, a_pure, a_stuck, f_mkF, f_mkT, l_L, l_C, l_F, l_ap, l_pf, l_mk, l_seqOf, l_seqOfT, l_seqOfL, l_ix, l_seqIt, l_en, l_tup, l_isL, l_app, l_set, l_fld, l_insC, l_putF, l_lst, l_cutT, l_cutL, l_cutR, l_cutC, l_catRR, at_0, at_1, at_2, at_3, at_last, st_0, st_1, st_2, Option.isSome_some, List.map_cons, List.map_nil, List.length_cons, List.length_nil, List.cons_append, List.nil_append, List.getElem?_cons_zero, List.getElem?_cons_succ, List.set_cons_zero, List.set_cons_succ, List.replicate_succ, List.replicate_zero, List.zip_cons_cons, List.zip_nil_left, List.zip_nil_right, List.foldl_cons, List.foldl_nil, Nat.reduceAdd, Nat.reduceSub, Nat.zero_add, if_true, if_false, Bool.false_eq_true, reduceIte, reduceCtorEq, decide_true, decide_false, decide_eq_true_eq, Bool.not_eq_eq_eq_not, Bool.not_true, Bool.not_false, decide_eq_false_iff_not, ite_not, Bool.true_and, Bool.and_true, Bool.false_and, Bool.and_false, Option.bind_some, Option.map_some, and_self, true_and, and_true, line_pos0, line_pos1, line_pos2, line_pos3, Int.reduceEq, Int.reduceLT, Int.reduceLE, Int.reduceAdd, Int.reduceSub, Int.reduceMul, Int.reduceNeg, Int.reduceToNat, Int.reduceNe, Int.reducePow, Nat.reduceLeDiff, Nat.reduceLT, Nat.reduceEqDiff, h0, h1, k2, m1, if_neg h2, k4, i1, i2]
        exact search (Poll.far u ss) (by omega) (by omega) (fit_far hu' hs hl (by omega) (by omega) (Int.le_refl _))
/-- the numbers that fit -/
def nums (u : Int) (ss : List Int) (m : Nat) : List Int := ((List.range m).map fun (i : Nat) => (1 : Int) + i).filter fun p => Fit u ss p
theorem nums_eq (u : Int) (ss : List Int) (m : Nat) : ((List.range m).filter fun (i : Nat) => Fit u ss (1 + (i : Int))).map (fun (i : Nat) => D.int (1 + (i : Int))) = (nums u ss m).map D.int := by
  unfold nums
  rw [List.filter_map, List.map_map]
  rfl
theorem people_for_ok (n : Nat) {S : Sto} {j : Nat} {pl u : Int} {ss : List Int} {m : Int} (hu : PU pl u) (h : IsP S j pl ss) (hs : ∀ z ∈ ss, 0 ≤ z ∧ z ≤ u) (hl : ss.length ≤ 6) (hm : 1 ≤ m ∧ m ≤ 3000) : cal g (n + 5) 18 [.ref j, .int m] S = .ok (.tup ((nums u ss m.toNat).map D.int)) S := by
  have k1 := check_poll_ok (n + 3) j (pollF pl ss) S h
  have k2 := check_most_ok (n + 1) m hm S
  have i1 : i62 (m + 1) = true := i62_le (by omega)
  have i2 : i62 1 = true := by decide
  have e1 : m + 1 - 1 = m := by omega
  refine is_eq ?_
  rw [c_people_for]; refine ho_run ?_; unfold x_people_for; simp -implicitDefEqProofs only [f_bind, f_noX, f_sSeq, f_eS, f_sIf, f_sRet, a_sRetN, f_sSet, f_sPar, f_sAsg, f_sEx, a_sNil, f_sFor, f_sFldP, f_x2, f_x2F, f_x1, f_xIf, f_xAn, f_xOo, f_xNo, f_xTru, f_xBl, f_tNo, f_tAn, f_tOo, f_xCons, f_xNil, f_xTup, f_xMk, f_xP, f_xCall, f_xCallK, f_x3, f_ch3, f_var, f_gv, f_xC, f_xComp, f_itSeq, f_itEnum, f_itR1, f_itR2, f_toInt, f_xBM, f_xCut, f_xPart, f_xNoP, f_xFld, f_prC, f_xProp, f_gNm, f_gTp, f_gCn, f_gNl, f_gSb, f_xNew, bd_ok, bd_bad, bd_exc, es_ok, es_exc, st_ok, nex_ok, sq_nx, sq_rt, sq_bk, sq_ct, sq_exc, bd_bd, es_bd, st_bd, sq_es, sq_st, sq_sq, a_ev1, a_ev2, f_truB, f_truI, f_toBl, f_add, f_sub, f_mul, f_div, f_mod, f_pow, f_neg, f_lt, f_le, f_gt, f_ge, f_int, f_abs, f_lenT, f_lenL, f_tupT, f_divmod, f_catT, f_catL, f_eqI, f_eqS, f_neS, f_isN, f_isNN, f_ixT, f_ixL, f_ofS, f_seqT, f_seqL, f_seqC, f_enT, f_enL, f_isS, f_lenC, f_sumT, f_sumL, f_sumF, f_allF, f_anyF, f_min, f_max, ho_rt, ho_nx, ho_exc, ho_ok, lp_nx, lp_ct, lp_bk, lp_rt, lp_exc, wipeE, a_pure, a_stuck, f_mkF, f_mkT, l_L, l_C, l_F, l_ap, l_pf, l_mk, l_seqOf, l_seqOfT, l_seqOfL, l_ix, l_seqIt, l_en, l_tup, l_isL, l_app, l_set, l_fld, l_insC, l_putF, l_lst, l_cutT, l_cutL, l_cutR, l_cutC, l_catRR, at_0, at_1, at_2, at_3, at_last, st_0, st_1, st_2, Option.isSome_some, List.map_cons, List.map_nil, List.length_cons, List.length_nil, List.cons_append, List.nil_append, List.getElem?_cons_zero, List.getElem?_cons_succ, List.set_cons_zero, List.set_cons_succ, List.replicate_succ, List.replicate_zero, List.zip_cons_cons, List.zip_nil_left, List.zip_nil_right, List.foldl_cons, List.foldl_nil, Nat.reduceAdd, Nat.reduceSub, Nat.zero_add, if_true, if_false, Bool.false_eq_true, reduceIte, reduceCtorEq, decide_true, decide_false, decide_eq_true_eq, Bool.not_eq_eq_eq_not, Bool.not_true, Bool.not_false, decide_eq_false_iff_not, ite_not, Bool.true_and, Bool.and_true, Bool.false_and, Bool.and_false, Option.bind_some, Option.map_some, and_self, true_and, and_true, line_pos0, line_pos1, line_pos2, line_pos3, Int.reduceEq, Int.reduceLT, Int.reduceLE, Int.reduceAdd, Int.reduceSub, Int.reduceMul, Int.reduceNeg, Int.reduceToNat, Int.reduceNe, Int.reducePow, Nat.reduceLeDiff, Nat.reduceLT, Nat.reduceEqDiff]
  try simp -implicitDefEqProofs only [f_bind, f_noX, f_sSeq, f_eS, f_sIf, f_sRet, a_sRetN, f_sSet, f_sPar, f_sAsg, f_sEx, a_sNil, f_sFor, f_sFldP, f_x2, f_x2F, f_x1, f_xIf, f_xAn, f_xOo, f_xNo, f_xTru, f_xBl, f_tNo, f_tAn, f_tOo, f_xCons, f_xNil, f_xTup, f_xMk, f_xP, f_xCall, f_xCallK, f_x3, f_ch3, f_var, f_gv, f_xC, f_xComp, f_itSeq, f_itEnum, f_itR1, f_itR2, f_toInt, f_xBM, f_xCut, f_xPart, f_xNoP, f_xFld, f_prC, f_xProp, f_gNm, f_gTp, f_gCn, f_gNl, f_gSb, f_xNew, bd_ok, bd_bad, bd_exc, es_ok, es_exc, st_ok, nex_ok, sq_nx, sq_rt, sq_bk, sq_ct, sq_exc, bd_bd, es_bd, st_bd, sq_es, sq_st, sq_sq, a_ev1, a_ev2, f_truB, f_truI, f_toBl, f_add, f_sub, f_mul, f_div, f_mod, f_pow, f_neg, f_lt, f_le, f_gt, f_ge, f_int, f_abs, f_lenT, f_lenL, f_tupT, f_divmod, f_catT, f_catL, f_eqI, f_eqS, f_neS, f_isN, f_isNN, f_ixT, f_ixL, f_ofS, f_seqT, f_seqL, f_seqC, f_enT, f_enL, f_isS, f_lenC, f_sumT, f_sumL, f_sumF, f_allF, f_anyF, f_min, f_max, ho_rt, ho_nx, ho_exc, ho_ok, lp_nx, lp_ct, lp_bk, lp_rt, lp_exc, wipeE, a_pure, a_stuck, f_mkF, f_mkT, l_L, l_C, l_F, l_ap, l_pf, l_mk, l_seqOf, l_seqOfT, l_seqOfL, l_ix, l_seqIt, l_en, l_tup, l_isL, l_app, l_set, l_fld, l_insC, l_putF, l_lst, l_cutT, l_cutL, l_cutR, l_cutC, l_catRR, at_0, at_1, at_2, at_3, at_last, st_0, st_1, st_2, Option.isSome_some, List.map_cons, List.map_nil, List.length_cons, List.length_nil, List.cons_append, List.nil_append, List.getElem?_cons_zero, List.getElem?_cons_succ, List.set_cons_zero, List.set_cons_succ, List.replicate_succ, List.replicate_zero, List.zip_cons_cons, List.zip_nil_left, List.zip_nil_right, List.foldl_cons, List.foldl_nil, Nat.reduceAdd, Nat.reduceSub, Nat.zero_add, if_true, if_false, Bool.false_eq_true, reduceIte, reduceCtorEq, decide_true, decide_false, decide_eq_true_eq, Bool.not_eq_eq_eq_not, Bool.not_true, Bool.not_false, decide_eq_false_iff_not, ite_not, Bool.true_and, Bool.and_true, Bool.false_and, Bool.and_false, Option.bind_some, Option.map_some, and_self, true_and, and_true, line_pos0, line_pos1, line_pos2, line_pos3, Int.reduceEq, Int.reduceLT, Int.reduceLE, Int.reduceAdd, Int.reduceSub, Int.reduceMul, Int.reduceNeg, Int.reduceToNat, Int.reduceNe, Int.reducePow, Nat.reduceLeDiff, Nat.reduceLT, Nat.reduceEqDiff, k1, k2, i1, i2, e1]
  refine es_of (comp_flt (List.range m.toNat) (fun (i : Nat) => D.int (1 + (i : Int))) (fun i => Fit u ss (1 + (i : Int))) (fun (i : Nat) => D.int (1 + (i : Int))) (rngL_1 1 _) rfl (by rw [List.length_range]; unfold line; omega) ?_) ?_
  · intro y hy
    have hy := List.mem_range.mp hy
    have k3 := does_fit_ok n hu h hs hl (p := 1 + (y : Int)) (by omega)
    try simp -implicitDefEqProofs only [f_bind, f_noX, f_sSeq, f_eS, f_sIf, f_sRet, a_sRetN, f_sSet, f_sPar, f_sAsg, f_sEx, a_sNil, f_sFor, f_sFldP, f_x2, f_x2F, f_x1, f_xIf, f_xAn, f_xOo, f_xNo, f_xTru, f_xBl, f_tNo, f_tAn, f_tOo, f_xCons, f_xNil, f_xTup, f_xMk, f_xP, f_xCall, f_xCallK, f_x3, f_ch3, f_var, f_gv, f_xC, f_xComp, f_itSeq, f_itEnum, f_itR1, f_itR2, f_toInt, f_xBM, f_xCut, f_xPart, f_xNoP, f_xFld, f_prC, f_xProp, f_gNm, f_gTp, f_gCn, f_gNl, f_gSb, f_xNew, bd_ok, bd_bad, bd_exc, es_ok, es_exc, st_ok, nex_ok, sq_nx, sq_rt, sq_bk, sq_ct, sq_exc, bd_bd, es_bd, st_bd, sq_es, sq_st, sq_sq, a_ev1, a_ev2, f_truB, f_truI, f_toBl, f_add, f_sub, f_mul, f_div, f_mod, f_pow, f_neg, f_lt, f_le, f_gt, f_ge, f_int, f_abs, f_lenT, f_lenL, f_tupT, f_divmod, f_catT, f_catL, f_eqI, f_eqS, f_neS, f_isN, f_isNN, f_ixT, f_ixL, f_ofS, f_seqT, f_seqL, f_seqC, f_enT, f_enL, f_isS, f_lenC, f_sumT, f_sumL, f_sumF, f_allF, f_anyF, f_min, f_max, ho_rt, ho_nx, ho_exc, ho_ok, lp_nx, lp_ct, lp_bk, lp_rt, lp_exc, wipeE, a_pure, a_stuck, f_mkF, f_mkT, l_L, l_C, l_F, l_ap, l_pf, l_mk, l_seqOf, l_seqOfT, l_seqOfL, l_ix, l_seqIt, l_en, l_tup, l_isL, l_app, l_set, l_fld, l_insC, l_putF, l_lst, l_cutT, l_cutL, l_cutR, l_cutC, l_catRR, at_0, at_1, at_2, at_3, at_last, st_0, st_1, st_2, Option.isSome_some, List.map_cons, List.map_nil, List.length_cons, List.length_nil, List.cons_append, List.nil_append, List.getElem?_cons_zero, List.getElem?_cons_succ, List.set_cons_zero, List.set_cons_succ, List.replicate_succ, List.replicate_zero, List.zip_cons_cons, List.zip_nil_left, List.zip_nil_right, List.foldl_cons, List.foldl_nil, Nat.reduceAdd, Nat.reduceSub, Nat.zero_add, if_true, if_false, Bool.false_eq_true, reduceIte, reduceCtorEq, decide_true, decide_false, decide_eq_true_eq, Bool.not_eq_eq_eq_not, Bool.not_true, Bool.not_false, decide_eq_false_iff_not, ite_not, Bool.true_and, Bool.and_true, Bool.false_and, Bool.and_false, Option.bind_some, Option.map_some, and_self, true_and, and_true, line_pos0, line_pos1, line_pos2, line_pos3, Int.reduceEq, Int.reduceLT, Int.reduceLE, Int.reduceAdd, Int.reduceSub, Int.reduceMul, Int.reduceNeg, Int.reduceToNat, Int.reduceNe, Int.reducePow, Nat.reduceLeDiff, Nat.reduceLT, Nat.reduceEqDiff, k3]
    exact ⟨is_refl, fun _ => is_refl⟩
  rintro _ S_ ⟨rfl, h_, q⟩; have h_ := h_.symm; subst h_
  rw [nums_eq] at q ⊢
  try simp -implicitDefEqProofs only [f_bind, f_noX, f_sSeq, f_eS, f_sIf, f_sRet, a_sRetN, f_sSet, f_sPar, f_sAsg, f_sEx, a_sNil, f_sFor, f_sFldP, f_x2, f_x2F, f_x1, f_xIf, f_xAn, f_xOo, f_xNo, f_xTru, f_xBl, f_tNo, f_tAn, f_tOo, f_xCons, f_xNil, f_xTup, f_xMk, f_xP, f_xCall, f_xCallK, f_x3, f_ch3, f_var, f_gv, f_xC, f_xComp, f_itSeq, f_itEnum, f_itR1, f_itR2, f_toInt, f_xBM, f_xCut, f_xPart, f_xNoP, f_xFld, f_prC, f_xProp, f_gNm, f_gTp, f_gCn, f_gNl, f_gSb, f_xNew, bd_ok, bd_bad, bd_exc, es_ok, es_exc, st_ok, nex_ok, sq_nx, sq_rt, sq_bk, sq_ct, sq_exc, bd_bd, es_bd, st_bd, sq_es, sq_st, sq_sq, a_ev1, a_ev2, f_truB, f_truI, f_toBl, f_add, f_sub, f_mul, f_div, f_mod, f_pow, f_neg, f_lt, f_le, f_gt, f_ge, f_int, f_abs, f_lenT, f_lenL, f_tupT, f_divmod, f_catT, f_catL, f_eqI, f_eqS, f_neS, f_isN, f_isNN, f_ixT, f_ixL, f_ofS, f_seqT, f_seqL, f_seqC, f_enT, f_enL, f_isS, f_lenC, f_sumT, f_sumL, f_sumF, f_allF, f_anyF, f_min, f_max, ho_rt, ho_nx, ho_exc, ho_ok, lp_nx, lp_ct, lp_bk, lp_rt, lp_exc, wipeE, a_pure, a_stuck, f_mkF, f_mkT, l_L, l_C, l_F, l_ap, l_pf, l_mk, l_seqOf, l_seqOfT, l_seqOfL, l_ix, l_seqIt, l_en, l_tup, l_isL, l_app, l_set, l_fld, l_insC, l_putF, l_lst, l_cutT, l_cutL, l_cutR, l_cutC, l_catRR, at_0, at_1, at_2, at_3, at_last, st_0, st_1, st_2, Option.isSome_some, List.map_cons, List.map_nil, List.length_cons, List.length_nil, List.cons_append, List.nil_append, List.getElem?_cons_zero, List.getElem?_cons_succ, List.set_cons_zero, List.set_cons_succ, List.replicate_succ, List.replicate_zero, List.zip_cons_cons, List.zip_nil_left, List.zip_nil_right, List.foldl_cons, List.foldl_nil, Nat.reduceAdd, Nat.reduceSub, Nat.zero_add, if_true, if_false, Bool.false_eq_true, reduceIte, reduceCtorEq, decide_true, decide_false, decide_eq_true_eq, Bool.not_eq_eq_eq_not, Bool.not_true, Bool.not_false, decide_eq_false_iff_not, ite_not, Bool.true_and, Bool.and_true, Bool.false_and, Bool.and_false, Option.bind_some, Option.map_some, and_self, true_and, and_true, line_pos0, line_pos1, line_pos2, line_pos3, Int.reduceEq, Int.reduceLT, Int.reduceLE, Int.reduceAdd, Int.reduceSub, Int.reduceMul, Int.reduceNeg, Int.reduceToNat, Int.reduceNe, Int.reducePow, Nat.reduceLeDiff, Nat.reduceLT, Nat.reduceEqDiff, q]
  exact is_refl
end K69

set_option Elab.async false
set_option linter.all false
set_option maxRecDepth 100000
set_option maxHeartbeats 1000000
namespace Dn
open PySem PySem.Spec PyProof.Rows L2
theorem eqv_int (a b : Int) : PyData.eqv (.int a) (.int b) = (a == b) := by simp [PyData.eqv]
theorem plain_ints : ∀ l : List Int, PyData.plainAll (l.map .int) = true
  | [] => by simp [PyData.plainAll]
  | a :: l => by simp [PyData.plainAll, PyData.plain, plain_ints l]
theorem dat_tmp (S : Sto) (n : Nat) (l : List Int) : dat S (n + 2) (.tmp (l.map .int)) = some (.list (l.map .int)) := by
  show (optAll (dat S (n + 1)) (l.map D.int)).map PyData.list = _
  rw [optAll_map (f := dat S (n + 1)) (k := D.int) (h := PyData.int) (l := l) fun a _ => rfl]
  rfl
theorem find_ints {S : Sto} {l : List Int} {s : Int} {k : List PyData → PyData → Option D} {r : D} (h : k (l.map .int) (.int s) = some r) : ev1M false k (.tmp (l.map .int)) [.int s] S = .ok r S := by
  show evFind false k (.tmp (l.map .int)) (.int s) S = _
  have e1 : itsT false (.tmp (l.map .int)) S = some (l.map .int) := by
    unfold itsT
    rw [dat_tmp S 58]
    rfl
  have e2 : findB (l.map .int) (.int s) = true := by
    unfold findB
    rw [plain_ints]
    simp [PyData.plain, PyData.depth]
  unfold evFind
  rw [e1, show dat S 60 (.int s) = some (.int s) from rfl]
  dsimp only
  rw [if_pos e2, h]
theorem f_cntI {S : Sto} {l : List Int} {s : Int} : ev1M false cntD (.tmp (l.map .int)) [.int s] S = .ok (.int (l.count s : Nat)) S := by
  refine find_ints ?_
  unfold cntD
  rw [List.countP_map, List.count_eq_countP]
  congr 4
theorem f_idxI {S : Sto} {l : List Int} {s : Int} {j : Nat} (h : l.idxOf? s = some j) (hl : l.length ≤ line) : ev1M false idxD (.tmp (l.map .int)) [.int s] S = .ok (.int (j : Nat)) S := by
  refine find_ints ?_
  unfold idxD SeqAt.dataPlace
  rw [if_pos (by rw [List.length_map]; exact hl), List.findIdx?_map]
  have : ((fun y => PyData.eqv y (.int s)) ∘ PyData.int) = fun a => a == s := by
    funext a
    exact eqv_int a s
  rw [this]
  have h : l.findIdx? (fun a => a == s) = some j := h
  rw [h]
  rfl
theorem f_isLT {S : Sto} {l : List D} : isLstB (.tmp l) S = true := rfl
end Dn
namespace Poll
theorem hi_min (u s p : Int) : min p (((2 * s + 1) * p - 1).fdiv (2 * u)) = hi u s p := by
  unfold hi
  split <;> omega
theorem allOk_bad {es : List (Int × Int)} {e : Int × Int} (h : e ∈ es) (hb : e.2 < e.1) : allOk es = false := by
  induction es with
  | nil => cases h
  | cons f r ih =>
    show (decide (f.1 ≤ f.2) && allOk r) = false
    rcases List.mem_cons.mp h with q | q
    · rw [← q, decide_eq_false (by omega)]; rfl
    · rw [ih q, Bool.and_false]
end Poll
namespace K69
open PySem PySem.Spec PyProof.Rows L2 Dn
theorem sumL_snoc (u p : Int) (a : List Int) (s : Int) : Poll.sumL (ends u p (a ++ [s])) = Poll.sumL (ends u p a) + Poll.lo u s p := by simp [Poll.sumL, ends]
theorem sumH_snoc (u p : Int) (a : List Int) (s : Int) : Poll.sumH (ends u p (a ++ [s])) = Poll.sumH (ends u p a) + Poll.hi u s p := by simp [Poll.sumH, ends]
theorem ends_mem {u p : Int} {ss : List Int} {s : Int} (h : s ∈ ss) : (Poll.lo u s p, Poll.hi u s p) ∈ ends u p ss := List.mem_map.mpr ⟨s, h, rfl⟩
/-- the end of both judgements -/
theorem fit_end {u p : Int} {ss : List Int} (h : ∀ s ∈ ss, Poll.lo u s p ≤ Poll.hi u s p) : Fit u ss p = (decide (Poll.sumL (ends u p ss) ≤ p) && decide (p ≤ Poll.sumH (ends u p ss))) := by
  show Poll.feas _ _ = _
  unfold Poll.feas
  rw [Poll.allOk_of, Bool.true_and]
  intro e he
  obtain ⟨s, hs, rfl⟩ := List.mem_map.mp he
  exact h s hs
theorem fit_bad {u p : Int} {ss : List Int} {s : Int} (h : s ∈ ss) (hb : Poll.hi u s p < Poll.lo u s p) : Fit u ss p = false := by
  show Poll.feas _ _ = _
  unfold Poll.feas
  rw [Poll.allOk_bad (ends_mem h) hb]
  rfl
theorem tried_ok (n : Nat) {S : Sto} {u p : Int} {ss : List Int} (hu : u = 100 ∨ u = 1000) (hs : ∀ z ∈ ss, 0 ≤ z ∧ z ≤ u) (hl : ss.length ≤ 6) (hp : 1 ≤ p ∧ p ≤ 3000) : cal g (n + 2) 28 [.int u, .tup (ss.map D.int), .int p] S = .ok (.bl (Fit u ss p)) S := by
  obtain ⟨P, hP⟩ : ∃ P : Nat, p = (P : Int) := ⟨p.toNat, by omega⟩
  have i1 : i62 (p + 1) = true := i62_le (by omega)
  have e1 : (p + 1).toNat = P + 1 := by omega
  refine is_eq ?_
  rw [c_law_tried]; refine ho_run ?_; unfold x_law_tried; simp -implicitDefEqProofs only [f_bind, f_noX, f_sSeq, f_eS, f_sIf, f_sRet, a_sRetN, f_sSet, f_sPar, f_sAsg, f_sEx, a_sNil, f_sFor, f_sFldP, f_x2, f_x2F, f_x1, f_xIf, f_xAn, f_xOo, f_xNo, f_xTru, f_xBl, f_tNo, f_tAn, f_tOo, f_xCons, f_xNil, f_xTup, f_xMk, f_xP, f_xCall, f_xCallK, f_x3, f_ch3, f_var, f_gv, f_xC, f_xComp, f_itSeq, f_itEnum, f_itR1, f_itR2, f_toInt, f_xBM, f_xCut, f_xPart, f_xNoP, f_xFld, f_prC, f_xProp, f_gNm, f_gTp, f_gCn, f_gNl, f_gSb, f_xNew, bd_ok, bd_bad, bd_exc, es_ok, es_exc, st_ok, nex_ok, sq_nx, sq_rt, sq_bk, sq_ct, sq_exc, bd_bd, es_bd, st_bd, sq_es, sq_st, sq_sq, a_ev1, a_ev2, f_truB, f_truI, f_toBl, f_add, f_sub, f_mul, f_div, f_mod, f_pow, f_neg, f_lt, f_le, f_gt, f_ge, f_int, f_abs, f_lenT, f_lenL, f_tupT, f_divmod, f_catT, f_catL, f_eqI, f_eqS, f_neS, f_isN, f_isNN, f_ixT, f_ixL, f_ofS, f_seqT, f_seqL, f_seqC, f_enT, f_enL, f_isS, f_lenC, f_sumT, f_sumL, f_sumF, f_allF, f_anyF, f_min, f_max, ho_rt, ho_nx, ho_exc, ho_ok, lp_nx, lp_ct, lp_bk, lp_rt, lp_exc, wipeE, a_pure, a_stuck, f_mkF, f_mkT, l_L, l_C, l_F, l_ap, l_pf, l_mk, l_seqOf, l_seqOfT, l_seqOfL, l_ix, l_seqIt, l_en, l_tup, l_isL, l_app, l_set, l_fld, l_insC, l_putF, l_lst, l_cutT, l_cutL, l_cutR, l_cutC, l_catRR, at_0, at_1, at_2, at_3, at_last, st_0, st_1, st_2, Option.isSome_some, List.map_cons, List.map_nil, List.length_cons, List.length_nil, List.cons_append, List.nil_append, List.getElem?_cons_zero, List.getElem?_cons_succ, List.set_cons_zero, List.set_cons_succ, List.replicate_succ, List.replicate_zero, List.zip_cons_cons, List.zip_nil_left, List.zip_nil_right, List.foldl_cons, List.foldl_nil, Nat.reduceAdd, Nat.reduceSub, Nat.zero_add, if_true, if_false, Bool.false_eq_true, reduceIte, reduceCtorEq, decide_true, decide_false, decide_eq_true_eq, Bool.not_eq_eq_eq_not, Bool.not_true, Bool.not_false, decide_eq_false_iff_not, ite_not, Bool.true_and, Bool.and_true, Bool.false_and, Bool.and_false, Option.bind_some, Option.map_some, and_self, true_and, and_true, line_pos0, line_pos1, line_pos2, line_pos3, Int.reduceEq, Int.reduceLT, Int.reduceLE, Int.reduceAdd, Int.reduceSub, Int.reduceMul, Int.reduceNeg, Int.reduceToNat, Int.reduceNe, Int.reducePow, Nat.reduceLeDiff, Nat.reduceLT, Nat.reduceEqDiff]
  try simp -implicitDefEqProofs only [f_bind, f_noX, f_sSeq, f_eS, f_sIf, f_sRet, a_sRetN, f_sSet, f_sPar, f_sAsg, f_sEx, a_sNil, f_sFor, f_sFldP, f_x2, f_x2F, f_x1, f_xIf, f_xAn, f_xOo, f_xNo, f_xTru, f_xBl, f_tNo, f_tAn, f_tOo, f_xCons, f_xNil, f_xTup, f_xMk, f_xP, f_xCall, f_xCallK, f_x3, f_ch3, f_var, f_gv, f_xC, f_xComp, f_itSeq, f_itEnum, f_itR1, f_itR2, f_toInt, f_xBM, f_xCut, f_xPart, f_xNoP, f_xFld, f_prC, f_xProp, f_gNm, f_gTp, f_gCn, f_gNl, f_gSb, f_xNew, bd_ok, bd_bad, bd_exc, es_ok, es_exc, st_ok, nex_ok, sq_nx, sq_rt, sq_bk, sq_ct, sq_exc, bd_bd, es_bd, st_bd, sq_es, sq_st, sq_sq, a_ev1, a_ev2, f_truB, f_truI, f_toBl, f_add, f_sub, f_mul, f_div, f_mod, f_pow, f_neg, f_lt, f_le, f_gt, f_ge, f_int, f_abs, f_lenT, f_lenL, f_tupT, f_divmod, f_catT, f_catL, f_eqI, f_eqS, f_neS, f_isN, f_isNN, f_ixT, f_ixL, f_ofS, f_seqT, f_seqL, f_seqC, f_enT, f_enL, f_isS, f_lenC, f_sumT, f_sumL, f_sumF, f_allF, f_anyF, f_min, f_max, ho_rt, ho_nx, ho_exc, ho_ok, lp_nx, lp_ct, lp_bk, lp_rt, lp_exc, wipeE, a_pure, a_stuck, f_mkF, f_mkT, l_L, l_C, l_F, l_ap, l_pf, l_mk, l_seqOf, l_seqOfT, l_seqOfL, l_ix, l_seqIt, l_en, l_tup, l_isL, l_app, l_set, l_fld, l_insC, l_putF, l_lst, l_cutT, l_cutL, l_cutR, l_cutC, l_catRR, at_0, at_1, at_2, at_3, at_last, st_0, st_1, st_2, Option.isSome_some, List.map_cons, List.map_nil, List.length_cons, List.length_nil, List.cons_append, List.nil_append, List.getElem?_cons_zero, List.getElem?_cons_succ, List.set_cons_zero, List.set_cons_succ, List.replicate_succ, List.replicate_zero, List.zip_cons_cons, List.zip_nil_left, List.zip_nil_right, List.foldl_cons, List.foldl_nil, Nat.reduceAdd, Nat.reduceSub, Nat.zero_add, if_true, if_false, Bool.false_eq_true, reduceIte, reduceCtorEq, decide_true, decide_false, decide_eq_true_eq, Bool.not_eq_eq_eq_not, Bool.not_true, Bool.not_false, decide_eq_false_iff_not, ite_not, Bool.true_and, Bool.and_true, Bool.false_and, Bool.and_false, Option.bind_some, Option.map_some, and_self, true_and, and_true, line_pos0, line_pos1, line_pos2, line_pos3, Int.reduceEq, Int.reduceLT, Int.reduceLE, Int.reduceAdd, Int.reduceSub, Int.reduceMul, Int.reduceNeg, Int.reduceToNat, Int.reduceNe, Int.reducePow, Nat.reduceLeDiff, Nat.reduceLT, Nat.reduceEqDiff, i1, e1]
  refine es_of (comp_all (List.range (P + 1)) (fun (i : Nat) => D.int (i : Int)) (fun (i : Nat) => D.int (Poll.near u (i : Int) p)) (rngL_0 _) rfl (by rw [List.length_range]; unfold line; omega) ?_) ?_
  · intro y hy
    have ne := near_ok n (u := u) (c := (y : Int)) (p := p) hu hp.1 (by omega) S
    try simp -implicitDefEqProofs only [f_bind, f_noX, f_sSeq, f_eS, f_sIf, f_sRet, a_sRetN, f_sSet, f_sPar, f_sAsg, f_sEx, a_sNil, f_sFor, f_sFldP, f_x2, f_x2F, f_x1, f_xIf, f_xAn, f_xOo, f_xNo, f_xTru, f_xBl, f_tNo, f_tAn, f_tOo, f_xCons, f_xNil, f_xTup, f_xMk, f_xP, f_xCall, f_xCallK, f_x3, f_ch3, f_var, f_gv, f_xC, f_xComp, f_itSeq, f_itEnum, f_itR1, f_itR2, f_toInt, f_xBM, f_xCut, f_xPart, f_xNoP, f_xFld, f_prC, f_xProp, f_gNm, f_gTp, f_gCn, f_gNl, f_gSb, f_xNew, bd_ok, bd_bad, bd_exc, es_ok, es_exc, st_ok, nex_ok, sq_nx, sq_rt, sq_bk, sq_ct, sq_exc, bd_bd, es_bd, st_bd, sq_es, sq_st, sq_sq, a_ev1, a_ev2, f_truB, f_truI, f_toBl, f_add, f_sub, f_mul, f_div, f_mod, f_pow, f_neg, f_lt, f_le, f_gt, f_ge, f_int, f_abs, f_lenT, f_lenL, f_tupT, f_divmod, f_catT, f_catL, f_eqI, f_eqS, f_neS, f_isN, f_isNN, f_ixT, f_ixL, f_ofS, f_seqT, f_seqL, f_seqC, f_enT, f_enL, f_isS, f_lenC, f_sumT, f_sumL, f_sumF, f_allF, f_anyF, f_min, f_max, ho_rt, ho_nx, ho_exc, ho_ok, lp_nx, lp_ct, lp_bk, lp_rt, lp_exc, wipeE, a_pure, a_stuck, f_mkF, f_mkT, l_L, l_C, l_F, l_ap, l_pf, l_mk, l_seqOf, l_seqOfT, l_seqOfL, l_ix, l_seqIt, l_en, l_tup, l_isL, l_app, l_set, l_fld, l_insC, l_putF, l_lst, l_cutT, l_cutL, l_cutR, l_cutC, l_catRR, at_0, at_1, at_2, at_3, at_last, st_0, st_1, st_2, Option.isSome_some, List.map_cons, List.map_nil, List.length_cons, List.length_nil, List.cons_append, List.nil_append, List.getElem?_cons_zero, List.getElem?_cons_succ, List.set_cons_zero, List.set_cons_succ, List.replicate_succ, List.replicate_zero, List.zip_cons_cons, List.zip_nil_left, List.zip_nil_right, List.foldl_cons, List.foldl_nil, Nat.reduceAdd, Nat.reduceSub, Nat.zero_add, if_true, if_false, Bool.false_eq_true, reduceIte, reduceCtorEq, decide_true, decide_false, decide_eq_true_eq, Bool.not_eq_eq_eq_not, Bool.not_true, Bool.not_false, decide_eq_false_iff_not, ite_not, Bool.true_and, Bool.and_true, Bool.false_and, Bool.and_false, Option.bind_some, Option.map_some, and_self, true_and, and_true, line_pos0, line_pos1, line_pos2, line_pos3, Int.reduceEq, Int.reduceLT, Int.reduceLE, Int.reduceAdd, Int.reduceSub, Int.reduceMul, Int.reduceNeg, Int.reduceToNat, Int.reduceNe, Int.reducePow, Nat.reduceLeDiff, Nat.reduceLT, Nat.reduceEqDiff, ne]
    exact is_refl
  rintro _ S_ ⟨rfl, h_, q⟩; have h_ := h_.symm; subst h_
  have em : (List.range (P + 1)).map (fun (i : Nat) => D.int (Poll.near u (i : Int) p)) = ((List.range (P + 1)).map fun (i : Nat) => Poll.near u (i : Int) p).map D.int := by rw [List.map_map]; rfl
  rw [em] at q ⊢
  have hcn := fun s (h0 : 0 ≤ s) => Poll.count_near (u := u) (p := p) (s := s) hu hP hp.1 h0
  have hll : ((List.range (P + 1)).map fun (i : Nat) => Poll.near u (i : Int) p).length ≤ line := by rw [List.length_map, List.length_range]; unfold line; omega
  generalize ((List.range (P + 1)).map fun (i : Nat) => Poll.near u (i : Int) p) = L at *
  try simp -implicitDefEqProofs only [f_bind, f_noX, f_sSeq, f_eS, f_sIf, f_sRet, a_sRetN, f_sSet, f_sPar, f_sAsg, f_sEx, a_sNil, f_sFor, f_sFldP, f_x2, f_x2F, f_x1, f_xIf, f_xAn, f_xOo, f_xNo, f_xTru, f_xBl, f_tNo, f_tAn, f_tOo, f_xCons, f_xNil, f_xTup, f_xMk, f_xP, f_xCall, f_xCallK, f_x3, f_ch3, f_var, f_gv, f_xC, f_xComp, f_itSeq, f_itEnum, f_itR1, f_itR2, f_toInt, f_xBM, f_xCut, f_xPart, f_xNoP, f_xFld, f_prC, f_xProp, f_gNm, f_gTp, f_gCn, f_gNl, f_gSb, f_xNew, bd_ok, bd_bad, bd_exc, es_ok, es_exc, st_ok, nex_ok, sq_nx, sq_rt, sq_bk, sq_ct, sq_exc, bd_bd, es_bd, st_bd, sq_es, sq_st, sq_sq, a_ev1, a_ev2, f_truB, f_truI, f_toBl, f_add, f_sub, f_mul, f_div, f_mod, f_pow, f_neg, f_lt, f_le, f_gt, f_ge, f_int, f_abs, f_lenT, f_lenL, f_tupT, f_divmod, f_catT, f_catL, f_eqI, f_eqS, f_neS, f_isN, f_isNN, f_ixT, f_ixL, f_ofS, f_seqT, f_seqL, f_seqC, f_enT, f_enL, f_isS, f_lenC, f_sumT, f_sumL, f_sumF, f_allF, f_anyF, f_min, f_max, ho_rt, ho_nx, ho_exc, ho_ok, lp_nx, lp_ct, lp_bk, lp_rt, lp_exc, wipeE, a_pure, a_stuck, f_mkF, f_mkT, l_L, l_C, l_F, l_ap, l_pf, l_mk, l_seqOf, l_seqOfT, l_seqOfL, l_ix, l_seqIt, l_en, l_tup, l_isL, l_app, l_set, l_fld, l_insC, l_putF, l_lst, l_cutT, l_cutL, l_cutR, l_cutC, l_catRR, at_0, at_1, at_2, at_3, at_last, st_0, st_1, st_2, Option.isSome_some, List.map_cons, List.map_nil, List.length_cons, List.length_nil, List.cons_append, List.nil_append, List.getElem?_cons_zero, List.getElem?_cons_succ, List.set_cons_zero, List.set_cons_succ, List.replicate_succ, List.replicate_zero, List.zip_cons_cons, List.zip_nil_left, List.zip_nil_right, List.foldl_cons, List.foldl_nil, Nat.reduceAdd, Nat.reduceSub, Nat.zero_add, if_true, if_false, Bool.false_eq_true, reduceIte, reduceCtorEq, decide_true, decide_false, decide_eq_true_eq, Bool.not_eq_eq_eq_not, Bool.not_true, Bool.not_false, decide_eq_false_iff_not, ite_not, Bool.true_and, Bool.and_true, Bool.false_and, Bool.and_false, Option.bind_some, Option.map_some, and_self, true_and, and_true, line_pos0, line_pos1, line_pos2, line_pos3, Int.reduceEq, Int.reduceLT, Int.reduceLE, Int.reduceAdd, Int.reduceSub, Int.reduceMul, Int.reduceNeg, Int.reduceToNat, Int.reduceNe, Int.reducePow, Nat.reduceLeDiff, Nat.reduceLT, Nat.reduceEqDiff, q]
  refine for_done ss D.int (fun done e S' => S' = S ∧ (∃ y6 y7 y8 y9, e = [some (.int u), some (.tup (ss.map D.int)), some (.int p), some (.tmp (L.map D.int)), some (.int (Poll.sumL (ends u p done))), some (.int (Poll.sumH (ends u p done))), y6, y7, y8, y9]) ∧ ∀ s ∈ done, Poll.lo u s p ≤ Poll.hi u s p) rfl (fun _ _ _ _ => rfl)
    ⟨rfl, ⟨_, _, _, _, rfl⟩, fun s h => (List.not_mem_nil h).elim⟩ ?_ ?_
  · rintro done s left e _ hd ⟨rfl, ⟨y6, y7, y8, y9, rfl⟩, hok⟩
    have hm : s ∈ ss := by rw [hd]; simp
    obtain ⟨h1, h2⟩ := hcn s (hs s hm).1
    try simp -implicitDefEqProofs only [f_bind, f_noX, f_sSeq, f_eS, f_sIf, f_sRet, a_sRetN, f_sSet, f_sPar, f_sAsg, f_sEx, a_sNil, f_sFor, f_sFldP, f_x2, f_x2F, f_x1, f_xIf, f_xAn, f_xOo, f_xNo, f_xTru, f_xBl, f_tNo, f_tAn, f_tOo, f_xCons, f_xNil, f_xTup, f_xMk, f_xP, f_xCall, f_xCallK, f_x3, f_ch3, f_var, f_gv, f_xC, f_xComp, f_itSeq, f_itEnum, f_itR1, f_itR2, f_toInt, f_xBM, f_xCut, f_xPart, f_xNoP, f_xFld, f_prC, f_xProp, f_gNm, f_gTp, f_gCn, f_gNl, f_gSb, f_xNew, bd_ok, bd_bad, bd_exc, es_ok, es_exc, st_ok, nex_ok, sq_nx, sq_rt, sq_bk, sq_ct, sq_exc, bd_bd, es_bd, st_bd, sq_es, sq_st, sq_sq, a_ev1, a_ev2, f_truB, f_truI, f_toBl, f_add, f_sub, f_mul, f_div, f_mod, f_pow, f_neg, f_lt, f_le, f_gt, f_ge, f_int, f_abs, f_lenT, f_lenL, f_tupT, f_divmod, f_catT, f_catL, f_eqI, f_eqS, f_neS, f_isN, f_isNN, f_ixT, f_ixL, f_ofS, f_seqT, f_seqL, f_seqC, f_enT, f_enL, f_isS, f_lenC, f_sumT, f_sumL, f_sumF, f_allF, f_anyF, f_min, f_max, ho_rt, ho_nx, ho_exc, ho_ok, lp_nx, lp_ct, lp_bk, lp_rt, lp_exc, wipeE, a_pure, a_stuck, f_mkF, f_mkT, l_L, l_C, l_F, l_ap, l_pf, l_mk, l_seqOf, l_seqOfT, l_seqOfL, l_ix, l_seqIt, l_en, l_tup, l_isL, l_app, l_set, l_fld, l_insC, l_putF, l_lst, l_cutT, l_cutL, l_cutR, l_cutC, l_catRR, at_0, at_1, at_2, at_3, at_last, st_0, st_1, st_2, Option.isSome_some, List.map_cons, List.map_nil, List.length_cons, List.length_nil, List.cons_append, List.nil_append, List.getElem?_cons_zero, List.getElem?_cons_succ, List.set_cons_zero, List.set_cons_succ, List.replicate_succ, List.replicate_zero, List.zip_cons_cons, List.zip_nil_left, List.zip_nil_right, List.foldl_cons, List.foldl_nil, Nat.reduceAdd, Nat.reduceSub, Nat.zero_add, if_true, if_false, Bool.false_eq_true, reduceIte, reduceCtorEq, decide_true, decide_false, decide_eq_true_eq, Bool.not_eq_eq_eq_not, Bool.not_true, Bool.not_false, decide_eq_false_iff_not, ite_not, Bool.true_and, Bool.and_true, Bool.false_and, Bool.and_false, Option.bind_some, Option.map_some, and_self, true_and, and_true, line_pos0, line_pos1, line_pos2, line_pos3, Int.reduceEq, Int.reduceLT, Int.reduceLE, Int.reduceAdd, Int.reduceSub, Int.reduceMul, Int.reduceNeg, Int.reduceToNat, Int.reduceNe, Int.reducePow, Nat.reduceLeDiff, Nat.reduceLT, Nat.reduceEqDiff, f_isLT, f_cntI, h1]
    by_cases hb : Poll.lo u s p ≤ Poll.hi u s p
    · have hz : ¬ ((Poll.hi u s p - Poll.lo u s p + 1).toNat : Int) = 0 := by omega
      have hlo := Poll.lo_nonneg hu hp.1 (hs s hm).1
      try simp -implicitDefEqProofs only [f_bind, f_noX, f_sSeq, f_eS, f_sIf, f_sRet, a_sRetN, f_sSet, f_sPar, f_sAsg, f_sEx, a_sNil, f_sFor, f_sFldP, f_x2, f_x2F, f_x1, f_xIf, f_xAn, f_xOo, f_xNo, f_xTru, f_xBl, f_tNo, f_tAn, f_tOo, f_xCons, f_xNil, f_xTup, f_xMk, f_xP, f_xCall, f_xCallK, f_x3, f_ch3, f_var, f_gv, f_xC, f_xComp, f_itSeq, f_itEnum, f_itR1, f_itR2, f_toInt, f_xBM, f_xCut, f_xPart, f_xNoP, f_xFld, f_prC, f_xProp, f_gNm, f_gTp, f_gCn, f_gNl, f_gSb, f_xNew, bd_ok, bd_bad, bd_exc, es_ok, es_exc, st_ok, nex_ok, sq_nx, sq_rt, sq_bk, sq_ct, sq_exc, bd_bd, es_bd, st_bd, sq_es, sq_st, sq_sq, a_ev1, a_ev2, f_truB, f_truI, f_toBl, f_add, f_sub, f_mul, f_div, f_mod, f_pow, f_neg, f_lt, f_le, f_gt, f_ge, f_int, f_abs, f_lenT, f_lenL, f_tupT, f_divmod, f_catT, f_catL, f_eqI, f_eqS, f_neS, f_isN, f_isNN, f_ixT, f_ixL, f_ofS, f_seqT, f_seqL, f_seqC, f_enT, f_enL, f_isS, f_lenC, f_sumT, f_sumL, f_sumF, f_allF, f_anyF, f_min, f_max, ho_rt, ho_nx, ho_exc, ho_ok, lp_nx, lp_ct, lp_bk, lp_rt, lp_exc, wipeE, a_pure, a_stuck, f_mkF, f_mkT, l_L, l_C, l_F, l_ap, l_pf, l_mk, l_seqOf, l_seqOfT, l_seqOfL, l_ix, l_seqIt, l_en, l_tup, l_isL, l_app, l_set, l_fld, l_insC, l_putF, l_lst, l_cutT, l_cutL, l_cutR, l_cutC, l_catRR, at_0, at_1, at_2, at_3, at_last, st_0, st_1, st_2, Option.isSome_some, List.map_cons, List.map_nil, List.length_cons, List.length_nil, List.cons_append, List.nil_append, List.getElem?_cons_zero, List.getElem?_cons_succ, List.set_cons_zero, List.set_cons_succ, List.replicate_succ, List.replicate_zero, List.zip_cons_cons, List.zip_nil_left, List.zip_nil_right, List.foldl_cons, List.foldl_nil, Nat.reduceAdd, Nat.reduceSub, Nat.zero_add, if_true, if_false, Bool.false_eq_true, reduceIte, reduceCtorEq, decide_true, decide_false, decide_eq_true_eq, Bool.not_eq_eq_eq_not, Bool.not_true, Bool.not_false, decide_eq_false_iff_not, ite_not, Bool.true_and, Bool.and_true, Bool.false_and, Bool.and_false, Option.bind_some, Option.map_some, and_self, true_and, and_true, line_pos0, line_pos1, line_pos2, line_pos3, Int.reduceEq, Int.reduceLT, Int.reduceLE, Int.reduceAdd, Int.reduceSub, Int.reduceMul, Int.reduceNeg, Int.reduceToNat, Int.reduceNe, Int.reducePow, Nat.reduceLeDiff, Nat.reduceLT, Nat.reduceEqDiff, f_isLT, hz, f_idxI (h2 hb) hll]
      have a1 : (((Poll.lo u s p).toNat : Nat) : Int) = Poll.lo u s p := by omega
      have a2 : (((Poll.hi u s p - Poll.lo u s p + 1).toNat : Nat) : Int) = Poll.hi u s p - Poll.lo u s p + 1 := by omega
      have a3 : Poll.sumH (ends u p done) + Poll.lo u s p + (Poll.hi u s p - Poll.lo u s p + 1) - 1 = Poll.sumH (ends u p done) + Poll.hi u s p := by omega
      rw [sumL_snoc, sumH_snoc, a1, a2, a3]
      refine ⟨⟨_, _, _, _, rfl⟩, ?_⟩
      · intro x hx
        rcases List.mem_append.mp hx with z | z
        · exact hok x z
        · rw [show x = s by simpa using z]; exact hb
    · have hz : ((Poll.hi u s p - Poll.lo u s p + 1).toNat : Int) = 0 := by omega
      try simp -implicitDefEqProofs only [f_bind, f_noX, f_sSeq, f_eS, f_sIf, f_sRet, a_sRetN, f_sSet, f_sPar, f_sAsg, f_sEx, a_sNil, f_sFor, f_sFldP, f_x2, f_x2F, f_x1, f_xIf, f_xAn, f_xOo, f_xNo, f_xTru, f_xBl, f_tNo, f_tAn, f_tOo, f_xCons, f_xNil, f_xTup, f_xMk, f_xP, f_xCall, f_xCallK, f_x3, f_ch3, f_var, f_gv, f_xC, f_xComp, f_itSeq, f_itEnum, f_itR1, f_itR2, f_toInt, f_xBM, f_xCut, f_xPart, f_xNoP, f_xFld, f_prC, f_xProp, f_gNm, f_gTp, f_gCn, f_gNl, f_gSb, f_xNew, bd_ok, bd_bad, bd_exc, es_ok, es_exc, st_ok, nex_ok, sq_nx, sq_rt, sq_bk, sq_ct, sq_exc, bd_bd, es_bd, st_bd, sq_es, sq_st, sq_sq, a_ev1, a_ev2, f_truB, f_truI, f_toBl, f_add, f_sub, f_mul, f_div, f_mod, f_pow, f_neg, f_lt, f_le, f_gt, f_ge, f_int, f_abs, f_lenT, f_lenL, f_tupT, f_divmod, f_catT, f_catL, f_eqI, f_eqS, f_neS, f_isN, f_isNN, f_ixT, f_ixL, f_ofS, f_seqT, f_seqL, f_seqC, f_enT, f_enL, f_isS, f_lenC, f_sumT, f_sumL, f_sumF, f_allF, f_anyF, f_min, f_max, ho_rt, ho_nx, ho_exc, ho_ok, lp_nx, lp_ct, lp_bk, lp_rt, lp_exc, wipeE, a_pure, a_stuck, f_mkF, f_mkT, l_L, l_C, l_F, l_ap, l_pf, l_mk, l_seqOf, l_seqOfT, l_seqOfL, l_ix, l_seqIt, l_en, l_tup, l_isL, l_app, l_set, l_fld, l_insC, l_putF, l_lst, l_cutT, l_cutL, l_cutR, l_cutC, l_catRR, at_0, at_1, at_2, at_3, at_last, st_0, st_1, st_2, Option.isSome_some, List.map_cons, List.map_nil, List.length_cons, List.length_nil, List.cons_append, List.nil_append, List.getElem?_cons_zero, List.getElem?_cons_succ, List.set_cons_zero, List.set_cons_succ, List.replicate_succ, List.replicate_zero, List.zip_cons_cons, List.zip_nil_left, List.zip_nil_right, List.foldl_cons, List.foldl_nil, Nat.reduceAdd, Nat.reduceSub, Nat.zero_add, if_true, if_false, Bool.false_eq_true, reduceIte, reduceCtorEq, decide_true, decide_false, decide_eq_true_eq, Bool.not_eq_eq_eq_not, Bool.not_true, Bool.not_false, decide_eq_false_iff_not, ite_not, Bool.true_and, Bool.and_true, Bool.false_and, Bool.and_false, Option.bind_some, Option.map_some, and_self, true_and, and_true, line_pos0, line_pos1, line_pos2, line_pos3, Int.reduceEq, Int.reduceLT, Int.reduceLE, Int.reduceAdd, Int.reduceSub, Int.reduceMul, Int.reduceNeg, Int.reduceToNat, Int.reduceNe, Int.reducePow, Nat.reduceLeDiff, Nat.reduceLT, Nat.reduceEqDiff, hz]
      rw [fit_bad hm (by omega)]
      exact is_refl
  · rintro e _ ⟨rfl, ⟨y6, y7, y8, y9, rfl⟩, hok⟩
    rw [fit_end hok]
    by_cases hq : Poll.sumL (ends u p ss) ≤ p
    · try simp -implicitDefEqProofs only [f_bind, f_noX, f_sSeq, f_eS, f_sIf, f_sRet, a_sRetN, f_sSet, f_sPar, f_sAsg, f_sEx, a_sNil, f_sFor, f_sFldP, f_x2, f_x2F, f_x1, f_xIf, f_xAn, f_xOo, f_xNo, f_xTru, f_xBl, f_tNo, f_tAn, f_tOo, f_xCons, f_xNil, f_xTup, f_xMk, f_xP, f_xCall, f_xCallK, f_x3, f_ch3, f_var, f_gv, f_xC, f_xComp, f_itSeq, f_itEnum, f_itR1, f_itR2, f_toInt, f_xBM, f_xCut, f_xPart, f_xNoP, f_xFld, f_prC, f_xProp, f_gNm, f_gTp, f_gCn, f_gNl, f_gSb, f_xNew, bd_ok, bd_bad, bd_exc, es_ok, es_exc, st_ok, nex_ok, sq_nx, sq_rt, sq_bk, sq_ct, sq_exc, bd_bd, es_bd, st_bd, sq_es, sq_st, sq_sq, a_ev1, a_ev2, f_truB, f_truI, f_toBl, f_add, f_sub, f_mul, f_div, f_mod, f_pow, f_neg, f_lt, f_le, f_gt, f_ge, f_int, f_abs, f_lenT, f_lenL, f_tupT, f_divmod, f_catT, f_catL, f_eqI, f_eqS, f_neS, f_isN, f_isNN, f_ixT, f_ixL, f_ofS, f_seqT, f_seqL, f_seqC, f_enT, f_enL, f_isS, f_lenC, f_sumT, f_sumL, f_sumF, f_allF, f_anyF, f_min, f_max, ho_rt, ho_nx, ho_exc, ho_ok, lp_nx, lp_ct, lp_bk, lp_rt, lp_exc, wipeE, a_pure, a_stuck, f_mkF, f_mkT, l_L, l_C, l_F, l_ap, l_pf, l_mk, l_seqOf, l_seqOfT, l_seqOfL, l_ix, l_seqIt, l_en, l_tup, l_isL, l_app, l_set, l_fld, l_insC, l_putF, l_lst, l_cutT, l_cutL, l_cutR, l_cutC, l_catRR, at_0, at_1, at_2, at_3, at_last, st_0, st_1, st_2, Option.isSome_some, List.map_cons, List.map_nil, List.length_cons, List.length_nil, List.cons_append, List.nil_append, List.getElem?_cons_zero, List.getElem?_cons_succ, List.set_cons_zero, List.set_cons_succ, List.replicate_succ, List.replicate_zero, List.zip_cons_cons, List.zip_nil_left, List.zip_nil_right, List.foldl_cons, List.foldl_nil, Nat.reduceAdd, Nat.reduceSub, Nat.zero_add, if_true, if_false, Bool.false_eq_true, reduceIte, reduceCtorEq, decide_true, decide_false, decide_eq_true_eq, Bool.not_eq_eq_eq_not, Bool.not_true, Bool.not_false, decide_eq_false_iff_not, ite_not, Bool.true_and, Bool.and_true, Bool.false_and, Bool.and_false, Option.bind_some, Option.map_some, and_self, true_and, and_true, line_pos0, line_pos1, line_pos2, line_pos3, Int.reduceEq, Int.reduceLT, Int.reduceLE, Int.reduceAdd, Int.reduceSub, Int.reduceMul, Int.reduceNeg, Int.reduceToNat, Int.reduceNe, Int.reducePow, Nat.reduceLeDiff, Nat.reduceLT, Nat.reduceEqDiff, hq]
      exact is_refl
    · try simp -implicitDefEqProofs only [f_bind, f_noX, f_sSeq, f_eS, f_sIf, f_sRet, a_sRetN, f_sSet, f_sPar, f_sAsg, f_sEx, a_sNil, f_sFor, f_sFldP, f_x2, f_x2F, f_x1, f_xIf, f_xAn, f_xOo, f_xNo, f_xTru, f_xBl, f_tNo, f_tAn, f_tOo, f_xCons, f_xNil, f_xTup, f_xMk, f_xP, f_xCall, f_xCallK, f_x3, f_ch3, f_var, f_gv, f_xC, f_xComp, f_itSeq, f_itEnum, f_itR1, f_itR2, f_toInt, f_xBM, f_xCut, f_xPart, f_xNoP, f_xFld, f_prC, f_xProp, f_gNm, f_gTp, f_gCn, f_gNl, f_gSb, f_xNew, bd_ok, bd_bad, bd_exc, es_ok, es_exc, st_ok, nex_ok, sq_nx, sq_rt, sq_bk, sq_ct, sq_exc, bd_bd, es_bd, st_bd, sq_es, sq_st, sq_sq, a_ev1, a_ev2, f_truB, f_truI, f_toBl, f_add, f_sub, f_mul, f_div, f_mod, f_pow, f_neg, f_lt, f_le, f_gt, f_ge, f_int, f_abs, f_lenT, f_lenL, f_tupT, f_divmod, f_catT, f_catL, f_eqI, f_eqS, f_neS, f_isN, f_isNN, f_ixT, f_ixL, f_ofS, f_seqT, f_seqL, f_seqC, f_enT, f_enL, f_isS, f_lenC, f_sumT, f_sumL, f_sumF, f_allF, f_anyF, f_min, f_max, ho_rt, ho_nx, ho_exc, ho_ok, lp_nx, lp_ct, lp_bk, lp_rt, lp_exc, wipeE, a_pure, a_stuck, f_mkF, f_mkT, l_L, l_C, l_F, l_ap, l_pf, l_mk, l_seqOf, l_seqOfT, l_seqOfL, l_ix, l_seqIt, l_en, l_tup, l_isL, l_app, l_set, l_fld, l_insC, l_putF, l_lst, l_cutT, l_cutL, l_cutR, l_cutC, l_catRR, at_0, at_1, at_2, at_3, at_last, st_0, st_1, st_2, Option.isSome_some, List.map_cons, List.map_nil, List.length_cons, List.length_nil, List.cons_append, List.nil_append, List.getElem?_cons_zero, List.getElem?_cons_succ, List.set_cons_zero, List.set_cons_succ, List.replicate_succ, List.replicate_zero, List.zip_cons_cons, List.zip_nil_left, List.zip_nil_right, List.foldl_cons, List.foldl_nil, Nat.reduceAdd, Nat.reduceSub, Nat.zero_add, if_true, if_false, Bool.false_eq_true, reduceIte, reduceCtorEq, decide_true, decide_false, decide_eq_true_eq, Bool.not_eq_eq_eq_not, Bool.not_true, Bool.not_false, decide_eq_false_iff_not, ite_not, Bool.true_and, Bool.and_true, Bool.false_and, Bool.and_false, Option.bind_some, Option.map_some, and_self, true_and, and_true, line_pos0, line_pos1, line_pos2, line_pos3, Int.reduceEq, Int.reduceLT, Int.reduceLE, Int.reduceAdd, Int.reduceSub, Int.reduceMul, Int.reduceNeg, Int.reduceToNat, Int.reduceNe, Int.reducePow, Nat.reduceLeDiff, Nat.reduceLT, Nat.reduceEqDiff, hq]
      exact is_refl
theorem fits_ok (n : Nat) {S : Sto} {u p : Int} {ss : List Int} (hu : u = 100 ∨ u = 1000) (hs : ∀ z ∈ ss, 0 ≤ z ∧ z ≤ u) (hp : 1 ≤ p ∧ p ≤ 100000) : cal g (n + 1) 29 [.int u, .tup (ss.map D.int), .int p] S = .ok (.bl (Fit u ss p)) S := by
  have m1 : ∀ z : Int, mulB 2 z = true := fun z => mulB_l (by decide)
  have m2 : ∀ z : Int, mulB z p = true := fun z => mulB_r (by omega)
  have d1 : divB (2 * u) = true := divB_of (by omega) (by omega)
  refine is_eq ?_
  rw [c_law_fits]; refine ho_run ?_; unfold x_law_fits; simp -implicitDefEqProofs only [f_bind, f_noX, f_sSeq, f_eS, f_sIf, f_sRet, a_sRetN, f_sSet, f_sPar, f_sAsg, f_sEx, a_sNil, f_sFor, f_sFldP, f_x2, f_x2F, f_x1, f_xIf, f_xAn, f_xOo, f_xNo, f_xTru, f_xBl, f_tNo, f_tAn, f_tOo, f_xCons, f_xNil, f_xTup, f_xMk, f_xP, f_xCall, f_xCallK, f_x3, f_ch3, f_var, f_gv, f_xC, f_xComp, f_itSeq, f_itEnum, f_itR1, f_itR2, f_toInt, f_xBM, f_xCut, f_xPart, f_xNoP, f_xFld, f_prC, f_xProp, f_gNm, f_gTp, f_gCn, f_gNl, f_gSb, f_xNew, bd_ok, bd_bad, bd_exc, es_ok, es_exc, st_ok, nex_ok, sq_nx, sq_rt, sq_bk, sq_ct, sq_exc, bd_bd, es_bd, st_bd, sq_es, sq_st, sq_sq, a_ev1, a_ev2, f_truB, f_truI, f_toBl, f_add, f_sub, f_mul, f_div, f_mod, f_pow, f_neg, f_lt, f_le, f_gt, f_ge, f_int, f_abs, f_lenT, f_lenL, f_tupT, f_divmod, f_catT, f_catL, f_eqI, f_eqS, f_neS, f_isN, f_isNN, f_ixT, f_ixL, f_ofS, f_seqT, f_seqL, f_seqC, f_enT, f_enL, f_isS, f_lenC, f_sumT, f_sumL, f_sumF, f_allF, f_anyF, f_min, f_max, ho_rt, ho_nx, ho_exc, ho_ok, lp_nx, lp_ct, lp_bk, lp_rt, lp_exc, wipeE, a_pure, a_stuck, f_mkF, f_mkT, l_L, l_C, l_F, l_ap, l_pf, l_mk, l_seqOf, l_seqOfT, l_seqOfL, l_ix, l_seqIt, l_en, l_tup, l_isL, l_app, l_set, l_fld, l_insC, l_putF, l_lst, l_cutT, l_cutL, l_cutR, l_cutC, l_catRR, at_0, at_1, at_2, at_3, at_last, st_0, st_1, st_2, Option.isSome_some, List.map_cons, List.map_nil, List.length_cons, List.length_nil, List.cons_append, List.nil_append, List.getElem?_cons_zero, List.getElem?_cons_succ, List.set_cons_zero, List.set_cons_succ, List.replicate_succ, List.replicate_zero, List.zip_cons_cons, List.zip_nil_left, List.zip_nil_right, List.foldl_cons, List.foldl_nil, Nat.reduceAdd, Nat.reduceSub, Nat.zero_add, if_true, if_false, Bool.false_eq_true, reduceIte, reduceCtorEq, decide_true, decide_false, decide_eq_true_eq, Bool.not_eq_eq_eq_not, Bool.not_true, Bool.not_false, decide_eq_false_iff_not, ite_not, Bool.true_and, Bool.and_true, Bool.false_and, Bool.and_false, Option.bind_some, Option.map_some, and_self, true_and, and_true, line_pos0, line_pos1, line_pos2, line_pos3, Int.reduceEq, Int.reduceLT, Int.reduceLE, Int.reduceAdd, Int.reduceSub, Int.reduceMul, Int.reduceNeg, Int.reduceToNat, Int.reduceNe, Int.reducePow, Nat.reduceLeDiff, Nat.reduceLT, Nat.reduceEqDiff]
  refine for_done ss D.int (fun done e S' => S' = S ∧ (∃ y5 y6 y7, e = [some (.int u), some (.tup (ss.map D.int)), some (.int p), some (.int (Poll.sumL (ends u p done))), some (.int (Poll.sumH (ends u p done))), y5, y6, y7]) ∧ ∀ s ∈ done, Poll.lo u s p ≤ Poll.hi u s p) rfl (fun _ _ _ _ => rfl)
    ⟨rfl, ⟨_, _, _, rfl⟩, fun s h => (List.not_mem_nil h).elim⟩ ?_ ?_
  · rintro done s left e _ hd ⟨rfl, ⟨y5, y6, y7, rfl⟩, hok⟩
    have hm : s ∈ ss := by rw [hd]; simp
    have hh := Poll.hi_min u s p
    have hlo : ∀ (e : Dn.Env) (S : Sto) (k : D → Sto → RS), (if 0 < s then Res.ok (D.int (-((1 - 2 * s) * p).fdiv (2 * u))) S else Res.ok (D.int 0) S).es e k = k (D.int (Poll.lo u s p)) S := by
      intro e S k
      unfold Poll.lo
      by_cases q : 0 < s
      · rw [if_pos q, if_pos q]; rfl
      · rw [if_neg q, if_neg q]; rfl
    try simp -implicitDefEqProofs only [f_bind, f_noX, f_sSeq, f_eS, f_sIf, f_sRet, a_sRetN, f_sSet, f_sPar, f_sAsg, f_sEx, a_sNil, f_sFor, f_sFldP, f_x2, f_x2F, f_x1, f_xIf, f_xAn, f_xOo, f_xNo, f_xTru, f_xBl, f_tNo, f_tAn, f_tOo, f_xCons, f_xNil, f_xTup, f_xMk, f_xP, f_xCall, f_xCallK, f_x3, f_ch3, f_var, f_gv, f_xC, f_xComp, f_itSeq, f_itEnum, f_itR1, f_itR2, f_toInt, f_xBM, f_xCut, f_xPart, f_xNoP, f_xFld, f_prC, f_xProp, f_gNm, f_gTp, f_gCn, f_gNl, f_gSb, f_xNew, bd_ok, bd_bad, bd_exc, es_ok, es_exc, st_ok, nex_ok, sq_nx, sq_rt, sq_bk, sq_ct, sq_exc, bd_bd, es_bd, st_bd, sq_es, sq_st, sq_sq, a_ev1, a_ev2, f_truB, f_truI, f_toBl, f_add, f_sub, f_mul, f_div, f_mod, f_pow, f_neg, f_lt, f_le, f_gt, f_ge, f_int, f_abs, f_lenT, f_lenL, f_tupT, f_divmod, f_catT, f_catL, f_eqI, f_eqS, f_neS, f_isN, f_isNN, f_ixT, f_ixL, f_ofS, f_seqT, f_seqL, f_seqC, f_enT, f_enL, f_isS, f_lenC, f_sumT, f_sumL, f_sumF, f_allF, f_anyF, f_min, f_max, ho_rt, ho_nx, ho_exc, ho_ok, lp_nx, lp_ct, lp_bk, lp_rt, lp_exc, wipeE, a_pure, a_stuck, f_mkF, f_mkT, l_L, l_C, l_F, l_ap, l_pf, l_mk, l_seqOf, l_seqOfT, l_seqOfL, l_ix, l_seqIt, l_en, l_tup, l_isL, l_app, l_set, l_fld, l_insC, l_putF, l_lst, l_cutT, l_cutL, l_cutR, l_cutC, l_catRR, at_0, at_1, at_2, at_3, at_last, st_0, st_1, st_2, Option.isSome_some, List.map_cons, List.map_nil, List.length_cons, List.length_nil, List.cons_append, List.nil_append, List.getElem?_cons_zero, List.getElem?_cons_succ, List.set_cons_zero, List.set_cons_succ, List.replicate_succ, List.replicate_zero, List.zip_cons_cons, List.zip_nil_left, List.zip_nil_right, List.foldl_cons, List.foldl_nil, Nat.reduceAdd, Nat.reduceSub, Nat.zero_add, if_true, if_false, Bool.false_eq_true, reduceIte, reduceCtorEq, decide_true, decide_false, decide_eq_true_eq, Bool.not_eq_eq_eq_not, Bool.not_true, Bool.not_false, decide_eq_false_iff_not, ite_not, Bool.true_and, Bool.and_true, Bool.false_and, Bool.and_false, Option.bind_some, Option.map_some, and_self, true_and, and_true, line_pos0, line_pos1, line_pos2, line_pos3, Int.reduceEq, Int.reduceLT, Int.reduceLE, Int.reduceAdd, Int.reduceSub, Int.reduceMul, Int.reduceNeg, Int.reduceToNat, Int.reduceNe, Int.reducePow, Nat.reduceLeDiff, Nat.reduceLT, Nat.reduceEqDiff, m1, m2, d1, hlo, hh]
    by_cases hb : Poll.hi u s p < Poll.lo u s p
    · try simp -implicitDefEqProofs only [f_bind, f_noX, f_sSeq, f_eS, f_sIf, f_sRet, a_sRetN, f_sSet, f_sPar, f_sAsg, f_sEx, a_sNil, f_sFor, f_sFldP, f_x2, f_x2F, f_x1, f_xIf, f_xAn, f_xOo, f_xNo, f_xTru, f_xBl, f_tNo, f_tAn, f_tOo, f_xCons, f_xNil, f_xTup, f_xMk, f_xP, f_xCall, f_xCallK, f_x3, f_ch3, f_var, f_gv, f_xC, f_xComp, f_itSeq, f_itEnum, f_itR1, f_itR2, f_toInt, f_xBM, f_xCut, f_xPart, f_xNoP, f_xFld, f_prC, f_xProp, f_gNm, f_gTp, f_gCn, f_gNl, f_gSb, f_xNew, bd_ok, bd_bad, bd_exc, es_ok, es_exc, st_ok, nex_ok, sq_nx, sq_rt, sq_bk, sq_ct, sq_exc, bd_bd, es_bd, st_bd, sq_es, sq_st, sq_sq, a_ev1, a_ev2, f_truB, f_truI, f_toBl, f_add, f_sub, f_mul, f_div, f_mod, f_pow, f_neg, f_lt, f_le, f_gt, f_ge, f_int, f_abs, f_lenT, f_lenL, f_tupT, f_divmod, f_catT, f_catL, f_eqI, f_eqS, f_neS, f_isN, f_isNN, f_ixT, f_ixL, f_ofS, f_seqT, f_seqL, f_seqC, f_enT, f_enL, f_isS, f_lenC, f_sumT, f_sumL, f_sumF, f_allF, f_anyF, f_min, f_max, ho_rt, ho_nx, ho_exc, ho_ok, lp_nx, lp_ct, lp_bk, lp_rt, lp_exc, wipeE, a_pure, a_stuck, f_mkF, f_mkT, l_L, l_C, l_F, l_ap, l_pf, l_mk, l_seqOf, l_seqOfT, l_seqOfL, l_ix, l_seqIt, l_en, l_tup, l_isL, l_app, l_set, l_fld, l_insC, l_putF, l_lst, l_cutT, l_cutL, l_cutR, l_cutC, l_catRR, at_0, at_1, at_2, at_3, at_last, st_0, st_1, st_2, Option.isSome_some, List.map_cons, List.map_nil, List.length_cons, List.length_nil, List.cons_append, List.nil_append, List.getElem?_cons_zero, List.getElem?_cons_succ, List.set_cons_zero, List.set_cons_succ, List.replicate_succ, List.replicate_zero, List.zip_cons_cons, List.zip_nil_left, List.zip_nil_right, List.foldl_cons, List.foldl_nil, Nat.reduceAdd, Nat.reduceSub, Nat.zero_add, if_true, if_false, Bool.false_eq_true, reduceIte, reduceCtorEq, decide_true, decide_false, decide_eq_true_eq, Bool.not_eq_eq_eq_not, Bool.not_true, Bool.not_false, decide_eq_false_iff_not, ite_not, Bool.true_and, Bool.and_true, Bool.false_and, Bool.and_false, Option.bind_some, Option.map_some, and_self, true_and, and_true, line_pos0, line_pos1, line_pos2, line_pos3, Int.reduceEq, Int.reduceLT, Int.reduceLE, Int.reduceAdd, Int.reduceSub, Int.reduceMul, Int.reduceNeg, Int.reduceToNat, Int.reduceNe, Int.reducePow, Nat.reduceLeDiff, Nat.reduceLT, Nat.reduceEqDiff, hb]
      rw [fit_bad hm hb]
      exact is_refl
    · try simp -implicitDefEqProofs only [f_bind, f_noX, f_sSeq, f_eS, f_sIf, f_sRet, a_sRetN, f_sSet, f_sPar, f_sAsg, f_sEx, a_sNil, f_sFor, f_sFldP, f_x2, f_x2F, f_x1, f_xIf, f_xAn, f_xOo, f_xNo, f_xTru, f_xBl, f_tNo, f_tAn, f_tOo, f_xCons, f_xNil, f_xTup, f_xMk, f_xP, f_xCall, f_xCallK, f_x3, f_ch3, f_var, f_gv, f_xC, f_xComp, f_itSeq, f_itEnum, f_itR1, f_itR2, f_toInt, f_xBM, f_xCut, f_xPart, f_xNoP, f_xFld, f_prC, f_xProp, f_gNm, f_gTp, f_gCn, f_gNl, f_gSb, f_xNew, bd_ok, bd_bad, bd_exc, es_ok, es_exc, st_ok, nex_ok, sq_nx, sq_rt, sq_bk, sq_ct, sq_exc, bd_bd, es_bd, st_bd, sq_es, sq_st, sq_sq, a_ev1, a_ev2, f_truB, f_truI, f_toBl, f_add, f_sub, f_mul, f_div, f_mod, f_pow, f_neg, f_lt, f_le, f_gt, f_ge, f_int, f_abs, f_lenT, f_lenL, f_tupT, f_divmod, f_catT, f_catL, f_eqI, f_eqS, f_neS, f_isN, f_isNN, f_ixT, f_ixL, f_ofS, f_seqT, f_seqL, f_seqC, f_enT, f_enL, f_isS, f_lenC, f_sumT, f_sumL, f_sumF, f_allF, f_anyF, f_min, f_max, ho_rt, ho_nx, ho_exc, ho_ok, lp_nx, lp_ct, lp_bk, lp_rt, lp_exc, wipeE, a_pure, a_stuck, f_mkF, f_mkT, l_L, l_C, l_F, l_ap, l_pf, l_mk, l_seqOf, l_seqOfT, l_seqOfL, l_ix, l_seqIt, l_en, l_tup, l_isL, l_app, l_set, l_fld, l_insC, l_putF, l_lst, l_cutT, l_cutL, l_cutR, l_cutC, l_catRR, at_0, at_1, at_2, at_3, at_last, st_0, st_1, st_2, Option.isSome_some, List.map_cons, List.map_nil, List.length_cons, List.length_nil, List.cons_append, List.nil_append, List.getElem?_cons_zero, List.getElem?_cons_succ, List.set_cons_zero, List.set_cons_succ, List.replicate_succ, List.replicate_zero, List.zip_cons_cons, List.zip_nil_left, List.zip_nil_right, List.foldl_cons, List.foldl_nil, Nat.reduceAdd, Nat.reduceSub, Nat.zero_add, if_true, if_false, Bool.false_eq_true, reduceIte, reduceCtorEq, decide_true, decide_false, decide_eq_true_eq, Bool.not_eq_eq_eq_not, Bool.not_true, Bool.not_false, decide_eq_false_iff_not, ite_not, Bool.true_and, Bool.and_true, Bool.false_and, Bool.and_false, Option.bind_some, Option.map_some, and_self, true_and, and_true, line_pos0, line_pos1, line_pos2, line_pos3, Int.reduceEq, Int.reduceLT, Int.reduceLE, Int.reduceAdd, Int.reduceSub, Int.reduceMul, Int.reduceNeg, Int.reduceToNat, Int.reduceNe, Int.reducePow, Nat.reduceLeDiff, Nat.reduceLT, Nat.reduceEqDiff, hb]
      rw [sumL_snoc, sumH_snoc]
      refine ⟨⟨_, _, _, rfl⟩, ?_⟩
      · intro x hx
        rcases List.mem_append.mp hx with z | z
        · exact hok x z
        · rw [show x = s by simpa using z]; omega
  · rintro e _ ⟨rfl, ⟨y5, y6, y7, rfl⟩, hok⟩
    rw [fit_end hok]
    by_cases hq : Poll.sumL (ends u p ss) ≤ p
    · try simp -implicitDefEqProofs only [f_bind, f_noX, f_sSeq, f_eS, f_sIf, f_sRet, a_sRetN, f_sSet, f_sPar, f_sAsg, f_sEx, a_sNil, f_sFor, f_sFldP, f_x2, f_x2F, f_x1, f_xIf, f_xAn, f_xOo, f_xNo, f_xTru, f_xBl, f_tNo, f_tAn, f_tOo, f_xCons, f_xNil, f_xTup, f_xMk, f_xP, f_xCall, f_xCallK, f_x3, f_ch3, f_var, f_gv, f_xC, f_xComp, f_itSeq, f_itEnum, f_itR1, f_itR2, f_toInt, f_xBM, f_xCut, f_xPart, f_xNoP, f_xFld, f_prC, f_xProp, f_gNm, f_gTp, f_gCn, f_gNl, f_gSb, f_xNew, bd_ok, bd_bad, bd_exc, es_ok, es_exc, st_ok, nex_ok, sq_nx, sq_rt, sq_bk, sq_ct, sq_exc, bd_bd, es_bd, st_bd, sq_es, sq_st, sq_sq, a_ev1, a_ev2, f_truB, f_truI, f_toBl, f_add, f_sub, f_mul, f_div, f_mod, f_pow, f_neg, f_lt, f_le, f_gt, f_ge, f_int, f_abs, f_lenT, f_lenL, f_tupT, f_divmod, f_catT, f_catL, f_eqI, f_eqS, f_neS, f_isN, f_isNN, f_ixT, f_ixL, f_ofS, f_seqT, f_seqL, f_seqC, f_enT, f_enL, f_isS, f_lenC, f_sumT, f_sumL, f_sumF, f_allF, f_anyF, f_min, f_max, ho_rt, ho_nx, ho_exc, ho_ok, lp_nx, lp_ct, lp_bk, lp_rt, lp_exc, wipeE, a_pure, a_stuck, f_mkF, f_mkT, l_L, l_C, l_F, l_ap, l_pf, l_mk, l_seqOf, l_seqOfT, l_seqOfL, l_ix, l_seqIt, l_en, l_tup, l_isL, l_app, l_set, l_fld, l_insC, l_putF, l_lst, l_cutT, l_cutL, l_cutR, l_cutC, l_catRR, at_0, at_1, at_2, at_3, at_last, st_0, st_1, st_2, Option.isSome_some, List.map_cons, List.map_nil, List.length_cons, List.length_nil, List.cons_append, List.nil_append, List.getElem?_cons_zero, List.getElem?_cons_succ, List.set_cons_zero, List.set_cons_succ, List.replicate_succ, List.replicate_zero, List.zip_cons_cons, List.zip_nil_left, List.zip_nil_right, List.foldl_cons, List.foldl_nil, Nat.reduceAdd, Nat.reduceSub, Nat.zero_add, if_true, if_false, Bool.false_eq_true, reduceIte, reduceCtorEq, decide_true, decide_false, decide_eq_true_eq, Bool.not_eq_eq_eq_not, Bool.not_true, Bool.not_false, decide_eq_false_iff_not, ite_not, Bool.true_and, Bool.and_true, Bool.false_and, Bool.and_false, Option.bind_some, Option.map_some, and_self, true_and, and_true, line_pos0, line_pos1, line_pos2, line_pos3, Int.reduceEq, Int.reduceLT, Int.reduceLE, Int.reduceAdd, Int.reduceSub, Int.reduceMul, Int.reduceNeg, Int.reduceToNat, Int.reduceNe, Int.reducePow, Nat.reduceLeDiff, Nat.reduceLT, Nat.reduceEqDiff, hq]
      exact is_refl
    · try simp -implicitDefEqProofs only [f_bind, f_noX, f_sSeq, f_eS, f_sIf, f_sRet, a_sRetN, f_sSet, f_sPar, f_sAsg, f_sEx, a_sNil, f_sFor, f_sFldP, f_x2, f_x2F, f_x1, f_xIf, f_xAn, f_xOo, f_xNo, f_xTru, f_xBl, f_tNo, f_tAn, f_tOo, f_xCons, f_xNil, f_xTup, f_xMk, f_xP, f_xCall, f_xCallK, f_x3, f_ch3, f_var, f_gv, f_xC, f_xComp, f_itSeq, f_itEnum, f_itR1, f_itR2, f_toInt, f_xBM, f_xCut, f_xPart, f_xNoP, f_xFld, f_prC, f_xProp, f_gNm, f_gTp, f_gCn, f_gNl, f_gSb, f_xNew, bd_ok, bd_bad, bd_exc, es_ok, es_exc, st_ok, nex_ok, sq_nx, sq_rt, sq_bk, sq_ct, sq_exc, bd_bd, es_bd, st_bd, sq_es, sq_st, sq_sq, a_ev1, a_ev2, f_truB, f_truI, f_toBl, f_add, f_sub, f_mul, f_div, f_mod, f_pow, f_neg, f_lt, f_le, f_gt, f_ge, f_int, f_abs, f_lenT, f_lenL, f_tupT, f_divmod, f_catT, f_catL, f_eqI, f_eqS, f_neS, f_isN, f_isNN, f_ixT, f_ixL, f_ofS, f_seqT, f_seqL, f_seqC, f_enT, f_enL, f_isS, f_lenC, f_sumT, f_sumL, f_sumF, f_allF, f_anyF, f_min, f_max, ho_rt, ho_nx, ho_exc, ho_ok, lp_nx, lp_ct, lp_bk, lp_rt, lp_exc, wipeE, a_pure, a_stuck, f_mkF, f_mkT, l_L, l_C, l_F, l_ap, l_pf, l_mk, l_seqOf, l_seqOfT, l_seqOfL, l_ix, l_seqIt, l_en, l_tup, l_isL, l_app, l_set, l_fld, l_insC, l_putF, l_lst, l_cutT, l_cutL, l_cutR, l_cutC, l_catRR, at_0, at_1, at_2, at_3, at_last, st_0, st_1, st_2, Option.isSome_some, List.map_cons, List.map_nil, List.length_cons, List.length_nil, List.cons_append, List.nil_append, List.getElem?_cons_zero, List.getElem?_cons_succ, List.set_cons_zero, List.set_cons_succ, List.replicate_succ, List.replicate_zero, List.zip_cons_cons, List.zip_nil_left, List.zip_nil_right, List.foldl_cons, List.foldl_nil, Nat.reduceAdd, Nat.reduceSub, Nat.zero_add, if_true, if_false, Bool.false_eq_true, reduceIte, reduceCtorEq, decide_true, decide_false, decide_eq_true_eq, Bool.not_eq_eq_eq_not, Bool.not_true, Bool.not_false, decide_eq_false_iff_not, ite_not, Bool.true_and, Bool.and_true, Bool.false_and, Bool.and_false, Option.bind_some, Option.map_some, and_self, true_and, and_true, line_pos0, line_pos1, line_pos2, line_pos3, Int.reduceEq, Int.reduceLT, Int.reduceLE, Int.reduceAdd, Int.reduceSub, Int.reduceMul, Int.reduceNeg, Int.reduceToNat, Int.reduceNe, Int.reducePow, Nat.reduceLeDiff, Nat.reduceLT, Nat.reduceEqDiff, hq]
      exact is_refl
theorem sums_ok (n : Nat) {S : Sto} {u : Int} {ss : List Int} (hl : ss.length ≤ 6) : cal g (n + 1) 30 [.int u, .tup (ss.map D.int)] S = .ok (.tmp [.int (2 * u - Poll.lowS ss), .int (Poll.topS ss - 2 * u)]) S := by
  have m1 : ∀ z : Int, mulB 2 z = true := fun z => mulB_l (by decide)
  refine is_eq ?_
  rw [c_law_sums]; refine ho_run ?_; unfold x_law_sums; simp -implicitDefEqProofs only [f_bind, f_noX, f_sSeq, f_eS, f_sIf, f_sRet, a_sRetN, f_sSet, f_sPar, f_sAsg, f_sEx, a_sNil, f_sFor, f_sFldP, f_x2, f_x2F, f_x1, f_xIf, f_xAn, f_xOo, f_xNo, f_xTru, f_xBl, f_tNo, f_tAn, f_tOo, f_xCons, f_xNil, f_xTup, f_xMk, f_xP, f_xCall, f_xCallK, f_x3, f_ch3, f_var, f_gv, f_xC, f_xComp, f_itSeq, f_itEnum, f_itR1, f_itR2, f_toInt, f_xBM, f_xCut, f_xPart, f_xNoP, f_xFld, f_prC, f_xProp, f_gNm, f_gTp, f_gCn, f_gNl, f_gSb, f_xNew, bd_ok, bd_bad, bd_exc, es_ok, es_exc, st_ok, nex_ok, sq_nx, sq_rt, sq_bk, sq_ct, sq_exc, bd_bd, es_bd, st_bd, sq_es, sq_st, sq_sq, a_ev1, a_ev2, f_truB, f_truI, f_toBl, f_add, f_sub, f_mul, f_div, f_mod, f_pow, f_neg, f_lt, f_le, f_gt, f_ge, f_int, f_abs, f_lenT, f_lenL, f_tupT, f_divmod, f_catT, f_catL, f_eqI, f_eqS, f_neS, f_isN, f_isNN, f_ixT, f_ixL, f_ofS, f_seqT, f_seqL, f_seqC, f_enT, f_enL, f_isS, f_lenC, f_sumT, f_sumL, f_sumF, f_allF, f_anyF, f_min, f_max, ho_rt, ho_nx, ho_exc, ho_ok, lp_nx, lp_ct, lp_bk, lp_rt, lp_exc, wipeE, a_pure, a_stuck, f_mkF, f_mkT, l_L, l_C, l_F, l_ap, l_pf, l_mk, l_seqOf, l_seqOfT, l_seqOfL, l_ix, l_seqIt, l_en, l_tup, l_isL, l_app, l_set, l_fld, l_insC, l_putF, l_lst, l_cutT, l_cutL, l_cutR, l_cutC, l_catRR, at_0, at_1, at_2, at_3, at_last, st_0, st_1, st_2, Option.isSome_some, List.map_cons, List.map_nil, List.length_cons, List.length_nil, List.cons_append, List.nil_append, List.getElem?_cons_zero, List.getElem?_cons_succ, List.set_cons_zero, List.set_cons_succ, List.replicate_succ, List.replicate_zero, List.zip_cons_cons, List.zip_nil_left, List.zip_nil_right, List.foldl_cons, List.foldl_nil, Nat.reduceAdd, Nat.reduceSub, Nat.zero_add, if_true, if_false, Bool.false_eq_true, reduceIte, reduceCtorEq, decide_true, decide_false, decide_eq_true_eq, Bool.not_eq_eq_eq_not, Bool.not_true, Bool.not_false, decide_eq_false_iff_not, ite_not, Bool.true_and, Bool.and_true, Bool.false_and, Bool.and_false, Option.bind_some, Option.map_some, and_self, true_and, and_true, line_pos0, line_pos1, line_pos2, line_pos3, Int.reduceEq, Int.reduceLT, Int.reduceLE, Int.reduceAdd, Int.reduceSub, Int.reduceMul, Int.reduceNeg, Int.reduceToNat, Int.reduceNe, Int.reducePow, Nat.reduceLeDiff, Nat.reduceLT, Nat.reduceEqDiff]
  refine es_of (comp_flt ss D.int (fun s => decide (0 < s)) (fun s => .int (2 * s - 1)) rfl rfl (by unfold line; omega) ?_) ?_
  · intro y hy
    try simp -implicitDefEqProofs only [f_bind, f_noX, f_sSeq, f_eS, f_sIf, f_sRet, a_sRetN, f_sSet, f_sPar, f_sAsg, f_sEx, a_sNil, f_sFor, f_sFldP, f_x2, f_x2F, f_x1, f_xIf, f_xAn, f_xOo, f_xNo, f_xTru, f_xBl, f_tNo, f_tAn, f_tOo, f_xCons, f_xNil, f_xTup, f_xMk, f_xP, f_xCall, f_xCallK, f_x3, f_ch3, f_var, f_gv, f_xC, f_xComp, f_itSeq, f_itEnum, f_itR1, f_itR2, f_toInt, f_xBM, f_xCut, f_xPart, f_xNoP, f_xFld, f_prC, f_xProp, f_gNm, f_gTp, f_gCn, f_gNl, f_gSb, f_xNew, bd_ok, bd_bad, bd_exc, es_ok, es_exc, st_ok, nex_ok, sq_nx, sq_rt, sq_bk, sq_ct, sq_exc, bd_bd, es_bd, st_bd, sq_es, sq_st, sq_sq, a_ev1, a_ev2, f_truB, f_truI, f_toBl, f_add, f_sub, f_mul, f_div, f_mod, f_pow, f_neg, f_lt, f_le, f_gt, f_ge, f_int, f_abs, f_lenT, f_lenL, f_tupT, f_divmod, f_catT, f_catL, f_eqI, f_eqS, f_neS, f_isN, f_isNN, f_ixT, f_ixL, f_ofS, f_seqT, f_seqL, f_seqC, f_enT, f_enL, f_isS, f_lenC, f_sumT, f_sumL, f_sumF, f_allF, f_anyF, f_min, f_max, ho_rt, ho_nx, ho_exc, ho_ok, lp_nx, lp_ct, lp_bk, lp_rt, lp_exc, wipeE, a_pure, a_stuck, f_mkF, f_mkT, l_L, l_C, l_F, l_ap, l_pf, l_mk, l_seqOf, l_seqOfT, l_seqOfL, l_ix, l_seqIt, l_en, l_tup, l_isL, l_app, l_set, l_fld, l_insC, l_putF, l_lst, l_cutT, l_cutL, l_cutR, l_cutC, l_catRR, at_0, at_1, at_2, at_3, at_last, st_0, st_1, st_2, Option.isSome_some, List.map_cons, List.map_nil, List.length_cons, List.length_nil, List.cons_append, List.nil_append, List.getElem?_cons_zero, List.getElem?_cons_succ, List.set_cons_zero, List.set_cons_succ, List.replicate_succ, List.replicate_zero, List.zip_cons_cons, List.zip_nil_left, List.zip_nil_right, List.foldl_cons, List.foldl_nil, Nat.reduceAdd, Nat.reduceSub, Nat.zero_add, if_true, if_false, Bool.false_eq_true, reduceIte, reduceCtorEq, decide_true, decide_false, decide_eq_true_eq, Bool.not_eq_eq_eq_not, Bool.not_true, Bool.not_false, decide_eq_false_iff_not, ite_not, Bool.true_and, Bool.and_true, Bool.false_and, Bool.and_false, Option.bind_some, Option.map_some, and_self, true_and, and_true, line_pos0, line_pos1, line_pos2, line_pos3, Int.reduceEq, Int.reduceLT, Int.reduceLE, Int.reduceAdd, Int.reduceSub, Int.reduceMul, Int.reduceNeg, Int.reduceToNat, Int.reduceNe, Int.reducePow, Nat.reduceLeDiff, Nat.reduceLT, Nat.reduceEqDiff, m1]
    exact ⟨is_refl, fun _ => is_refl⟩
  rintro _ S_ ⟨rfl, h_, q1⟩; have h_ := h_.symm; subst h_
  try simp -implicitDefEqProofs only [f_bind, f_noX, f_sSeq, f_eS, f_sIf, f_sRet, a_sRetN, f_sSet, f_sPar, f_sAsg, f_sEx, a_sNil, f_sFor, f_sFldP, f_x2, f_x2F, f_x1, f_xIf, f_xAn, f_xOo, f_xNo, f_xTru, f_xBl, f_tNo, f_tAn, f_tOo, f_xCons, f_xNil, f_xTup, f_xMk, f_xP, f_xCall, f_xCallK, f_x3, f_ch3, f_var, f_gv, f_xC, f_xComp, f_itSeq, f_itEnum, f_itR1, f_itR2, f_toInt, f_xBM, f_xCut, f_xPart, f_xNoP, f_xFld, f_prC, f_xProp, f_gNm, f_gTp, f_gCn, f_gNl, f_gSb, f_xNew, bd_ok, bd_bad, bd_exc, es_ok, es_exc, st_ok, nex_ok, sq_nx, sq_rt, sq_bk, sq_ct, sq_exc, bd_bd, es_bd, st_bd, sq_es, sq_st, sq_sq, a_ev1, a_ev2, f_truB, f_truI, f_toBl, f_add, f_sub, f_mul, f_div, f_mod, f_pow, f_neg, f_lt, f_le, f_gt, f_ge, f_int, f_abs, f_lenT, f_lenL, f_tupT, f_divmod, f_catT, f_catL, f_eqI, f_eqS, f_neS, f_isN, f_isNN, f_ixT, f_ixL, f_ofS, f_seqT, f_seqL, f_seqC, f_enT, f_enL, f_isS, f_lenC, f_sumT, f_sumL, f_sumF, f_allF, f_anyF, f_min, f_max, ho_rt, ho_nx, ho_exc, ho_ok, lp_nx, lp_ct, lp_bk, lp_rt, lp_exc, wipeE, a_pure, a_stuck, f_mkF, f_mkT, l_L, l_C, l_F, l_ap, l_pf, l_mk, l_seqOf, l_seqOfT, l_seqOfL, l_ix, l_seqIt, l_en, l_tup, l_isL, l_app, l_set, l_fld, l_insC, l_putF, l_lst, l_cutT, l_cutL, l_cutR, l_cutC, l_catRR, at_0, at_1, at_2, at_3, at_last, st_0, st_1, st_2, Option.isSome_some, List.map_cons, List.map_nil, List.length_cons, List.length_nil, List.cons_append, List.nil_append, List.getElem?_cons_zero, List.getElem?_cons_succ, List.set_cons_zero, List.set_cons_succ, List.replicate_succ, List.replicate_zero, List.zip_cons_cons, List.zip_nil_left, List.zip_nil_right, List.foldl_cons, List.foldl_nil, Nat.reduceAdd, Nat.reduceSub, Nat.zero_add, if_true, if_false, Bool.false_eq_true, reduceIte, reduceCtorEq, decide_true, decide_false, decide_eq_true_eq, Bool.not_eq_eq_eq_not, Bool.not_true, Bool.not_false, decide_eq_false_iff_not, ite_not, Bool.true_and, Bool.and_true, Bool.false_and, Bool.and_false, Option.bind_some, Option.map_some, and_self, true_and, and_true, line_pos0, line_pos1, line_pos2, line_pos3, Int.reduceEq, Int.reduceLT, Int.reduceLE, Int.reduceAdd, Int.reduceSub, Int.reduceMul, Int.reduceNeg, Int.reduceToNat, Int.reduceNe, Int.reducePow, Nat.reduceLeDiff, Nat.reduceLT, Nat.reduceEqDiff, q1, m1, Poll.low_gt]
  refine es_of (comp_all ss D.int (fun s => .int (2 * s + 1)) rfl rfl (by unfold line; omega) ?_) ?_
  · intro y hy
    try simp -implicitDefEqProofs only [f_bind, f_noX, f_sSeq, f_eS, f_sIf, f_sRet, a_sRetN, f_sSet, f_sPar, f_sAsg, f_sEx, a_sNil, f_sFor, f_sFldP, f_x2, f_x2F, f_x1, f_xIf, f_xAn, f_xOo, f_xNo, f_xTru, f_xBl, f_tNo, f_tAn, f_tOo, f_xCons, f_xNil, f_xTup, f_xMk, f_xP, f_xCall, f_xCallK, f_x3, f_ch3, f_var, f_gv, f_xC, f_xComp, f_itSeq, f_itEnum, f_itR1, f_itR2, f_toInt, f_xBM, f_xCut, f_xPart, f_xNoP, f_xFld, f_prC, f_xProp, f_gNm, f_gTp, f_gCn, f_gNl, f_gSb, f_xNew, bd_ok, bd_bad, bd_exc, es_ok, es_exc, st_ok, nex_ok, sq_nx, sq_rt, sq_bk, sq_ct, sq_exc, bd_bd, es_bd, st_bd, sq_es, sq_st, sq_sq, a_ev1, a_ev2, f_truB, f_truI, f_toBl, f_add, f_sub, f_mul, f_div, f_mod, f_pow, f_neg, f_lt, f_le, f_gt, f_ge, f_int, f_abs, f_lenT, f_lenL, f_tupT, f_divmod, f_catT, f_catL, f_eqI, f_eqS, f_neS, f_isN, f_isNN, f_ixT, f_ixL, f_ofS, f_seqT, f_seqL, f_seqC, f_enT, f_enL, f_isS, f_lenC, f_sumT, f_sumL, f_sumF, f_allF, f_anyF, f_min, f_max, ho_rt, ho_nx, ho_exc, ho_ok, lp_nx, lp_ct, lp_bk, lp_rt, lp_exc, wipeE, a_pure, a_stuck, f_mkF, f_mkT, l_L, l_C, l_F, l_ap, l_pf, l_mk, l_seqOf, l_seqOfT, l_seqOfL, l_ix, l_seqIt, l_en, l_tup, l_isL, l_app, l_set, l_fld, l_insC, l_putF, l_lst, l_cutT, l_cutL, l_cutR, l_cutC, l_catRR, at_0, at_1, at_2, at_3, at_last, st_0, st_1, st_2, Option.isSome_some, List.map_cons, List.map_nil, List.length_cons, List.length_nil, List.cons_append, List.nil_append, List.getElem?_cons_zero, List.getElem?_cons_succ, List.set_cons_zero, List.set_cons_succ, List.replicate_succ, List.replicate_zero, List.zip_cons_cons, List.zip_nil_left, List.zip_nil_right, List.foldl_cons, List.foldl_nil, Nat.reduceAdd, Nat.reduceSub, Nat.zero_add, if_true, if_false, Bool.false_eq_true, reduceIte, reduceCtorEq, decide_true, decide_false, decide_eq_true_eq, Bool.not_eq_eq_eq_not, Bool.not_true, Bool.not_false, decide_eq_false_iff_not, ite_not, Bool.true_and, Bool.and_true, Bool.false_and, Bool.and_false, Option.bind_some, Option.map_some, and_self, true_and, and_true, line_pos0, line_pos1, line_pos2, line_pos3, Int.reduceEq, Int.reduceLT, Int.reduceLE, Int.reduceAdd, Int.reduceSub, Int.reduceMul, Int.reduceNeg, Int.reduceToNat, Int.reduceNe, Int.reducePow, Nat.reduceLeDiff, Nat.reduceLT, Nat.reduceEqDiff, m1]
    exact is_refl
  rintro _ S_ ⟨rfl, h_, q2⟩; have h_ := h_.symm; subst h_
  try simp -implicitDefEqProofs only [f_bind, f_noX, f_sSeq, f_eS, f_sIf, f_sRet, a_sRetN, f_sSet, f_sPar, f_sAsg, f_sEx, a_sNil, f_sFor, f_sFldP, f_x2, f_x2F, f_x1, f_xIf, f_xAn, f_xOo, f_xNo, f_xTru, f_xBl, f_tNo, f_tAn, f_tOo, f_xCons, f_xNil, f_xTup, f_xMk, f_xP, f_xCall, f_xCallK, f_x3, f_ch3, f_var, f_gv, f_xC, f_xComp, f_itSeq, f_itEnum, f_itR1, f_itR2, f_toInt, f_xBM, f_xCut, f_xPart, f_xNoP, f_xFld, f_prC, f_xProp, f_gNm, f_gTp, f_gCn, f_gNl, f_gSb, f_xNew, bd_ok, bd_bad, bd_exc, es_ok, es_exc, st_ok, nex_ok, sq_nx, sq_rt, sq_bk, sq_ct, sq_exc, bd_bd, es_bd, st_bd, sq_es, sq_st, sq_sq, a_ev1, a_ev2, f_truB, f_truI, f_toBl, f_add, f_sub, f_mul, f_div, f_mod, f_pow, f_neg, f_lt, f_le, f_gt, f_ge, f_int, f_abs, f_lenT, f_lenL, f_tupT, f_divmod, f_catT, f_catL, f_eqI, f_eqS, f_neS, f_isN, f_isNN, f_ixT, f_ixL, f_ofS, f_seqT, f_seqL, f_seqC, f_enT, f_enL, f_isS, f_lenC, f_sumT, f_sumL, f_sumF, f_allF, f_anyF, f_min, f_max, ho_rt, ho_nx, ho_exc, ho_ok, lp_nx, lp_ct, lp_bk, lp_rt, lp_exc, wipeE, a_pure, a_stuck, f_mkF, f_mkT, l_L, l_C, l_F, l_ap, l_pf, l_mk, l_seqOf, l_seqOfT, l_seqOfL, l_ix, l_seqIt, l_en, l_tup, l_isL, l_app, l_set, l_fld, l_insC, l_putF, l_lst, l_cutT, l_cutL, l_cutR, l_cutC, l_catRR, at_0, at_1, at_2, at_3, at_last, st_0, st_1, st_2, Option.isSome_some, List.map_cons, List.map_nil, List.length_cons, List.length_nil, List.cons_append, List.nil_append, List.getElem?_cons_zero, List.getElem?_cons_succ, List.set_cons_zero, List.set_cons_succ, List.replicate_succ, List.replicate_zero, List.zip_cons_cons, List.zip_nil_left, List.zip_nil_right, List.foldl_cons, List.foldl_nil, Nat.reduceAdd, Nat.reduceSub, Nat.zero_add, if_true, if_false, Bool.false_eq_true, reduceIte, reduceCtorEq, decide_true, decide_false, decide_eq_true_eq, Bool.not_eq_eq_eq_not, Bool.not_true, Bool.not_false, decide_eq_false_iff_not, ite_not, Bool.true_and, Bool.and_true, Bool.false_and, Bool.and_false, Option.bind_some, Option.map_some, and_self, true_and, and_true, line_pos0, line_pos1, line_pos2, line_pos3, Int.reduceEq, Int.reduceLT, Int.reduceLE, Int.reduceAdd, Int.reduceSub, Int.reduceMul, Int.reduceNeg, Int.reduceToNat, Int.reduceNe, Int.reducePow, Nat.reduceLeDiff, Nat.reduceLT, Nat.reduceEqDiff, q2, m1]
  exact is_refl
theorem law_far_ok (n : Nat) {S : Sto} {u : Int} {ss : List Int} (hu : u = 100 ∨ u = 1000) (hs : ∀ z ∈ ss, 0 ≤ z ∧ z ≤ u) (hl : ss.length ≤ 6) (h0 : 0 ≤ 2 * u - Poll.lowS ss) (h1 : 0 < Poll.topS ss - 2 * u) :
    ∃ m : Int, cal g (n + 2) 31 [.int u, .tup (ss.map D.int)] S = .ok (.int m) S ∧ u ≤ m ∧ m ≤ 20000 ∧ (0 < 2 * u - Poll.lowS ss → m = Poll.far u ss) := by
  obtain ⟨b1, b2, b3, b4⟩ := Poll.low_b (u := u) (by omega) hs
  have k1 := sums_ok n (S := S) (u := u) (ss := ss) hl
  have m1 : ∀ z : Int, mulB 2 z = true := fun z => mulB_l (by decide)
  have m2 : ∀ z : Int, mulB (2 * u) z = true := fun z => mulB_l (by omega)
  have b5 : (2 * u + 1) * (ss.length : Int) ≤ 12006 := by rcases hu with rfl | rfl <;> omega
  have b6 : 0 ≤ 2 * u * (ss.length : Int) ∧ 2 * u * (ss.length : Int) ≤ 12000 := by rcases hu with rfl | rfl <;> omega
  have d2 : divB (Poll.topS ss - 2 * u) = true := divB_of (by omega) (by omega)
  have up : ∀ W r : Int, 0 ≤ W → 0 < r → 0 ≤ W.fdiv r ∧ W.fdiv r ≤ W := fun W r hW hr => by
    rw [Int.fdiv_eq_ediv_of_nonneg _ (by omega)]
    exact ⟨Int.ediv_nonneg hW (by omega), Int.ediv_le_self _ hW⟩
  have u1 := up _ _ b6.1 h1
  have key : ∀ (rs : List Int) (m : Int), (∀ r ∈ rs, 0 < r → divB r = true) → maxL (u :: (rs.filter fun r => decide (0 < r)).map fun r => (2 * u * (ss.length : Int)).fdiv r + 1) = some m → [2 * u - Poll.lowS ss, Poll.topS ss - 2 * u] = rs →
      cal g (n + 2) 31 [.int u, .tup (ss.map D.int)] S = .ok (.int m) S := by
    intro rs m hd hm hrs
    rw [show (D.tmp [.int (2 * u - Poll.lowS ss), .int (Poll.topS ss - 2 * u)]) = .tmp (rs.map D.int) by rw [← hrs]; rfl] at k1
    have hrl : rs.length = 2 := by rw [← hrs]; rfl
    refine is_eq ?_
    rw [c_law_far]; refine ho_run ?_; unfold x_law_far; simp -implicitDefEqProofs only [f_bind, f_noX, f_sSeq, f_eS, f_sIf, f_sRet, a_sRetN, f_sSet, f_sPar, f_sAsg, f_sEx, a_sNil, f_sFor, f_sFldP, f_x2, f_x2F, f_x1, f_xIf, f_xAn, f_xOo, f_xNo, f_xTru, f_xBl, f_tNo, f_tAn, f_tOo, f_xCons, f_xNil, f_xTup, f_xMk, f_xP, f_xCall, f_xCallK, f_x3, f_ch3, f_var, f_gv, f_xC, f_xComp, f_itSeq, f_itEnum, f_itR1, f_itR2, f_toInt, f_xBM, f_xCut, f_xPart, f_xNoP, f_xFld, f_prC, f_xProp, f_gNm, f_gTp, f_gCn, f_gNl, f_gSb, f_xNew, bd_ok, bd_bad, bd_exc, es_ok, es_exc, st_ok, nex_ok, sq_nx, sq_rt, sq_bk, sq_ct, sq_exc, bd_bd, es_bd, st_bd, sq_es, sq_st, sq_sq, a_ev1, a_ev2, f_truB, f_truI, f_toBl, f_add, f_sub, f_mul, f_div, f_mod, f_pow, f_neg, f_lt, f_le, f_gt, f_ge, f_int, f_abs, f_lenT, f_lenL, f_tupT, f_divmod, f_catT, f_catL, f_eqI, f_eqS, f_neS, f_isN, f_isNN, f_ixT, f_ixL, f_ofS, f_seqT, f_seqL, f_seqC, f_enT, f_enL, f_isS, f_lenC, f_sumT, f_sumL, f_sumF, f_allF, f_anyF, f_min, f_max, ho_rt, ho_nx, ho_exc, ho_ok, lp_nx, lp_ct, lp_bk, lp_rt, lp_exc, wipeE, a_pure, a_stuck, f_mkF, f_mkT, l_L, l_C, l_F, l_ap, l_pf, l_mk, l_seqOf, l_seqOfT, l_seqOfL, l_ix, l_seqIt, l_en, l_tup, l_isL, l_app, l_set, l_fld, l_insC, l_putF, l_lst, l_cutT, l_cutL, l_cutR, l_cutC, l_catRR, at_0, at_1, at_2, at_3, at_last, st_0, st_1, st_2, Option.isSome_some, List.map_cons, List.map_nil, List.length_cons, List.length_nil, List.cons_append, List.nil_append, List.getElem?_cons_zero, List.getElem?_cons_succ, List.set_cons_zero, List.set_cons_succ, List.replicate_succ, List.replicate_zero, List.zip_cons_cons, List.zip_nil_left, List.zip_nil_right, List.foldl_cons, List.foldl_nil, Nat.reduceAdd, Nat.reduceSub, Nat.zero_add, if_true, if_false, Bool.false_eq_true, reduceIte, reduceCtorEq, decide_true, decide_false, decide_eq_true_eq, Bool.not_eq_eq_eq_not, Bool.not_true, Bool.not_false, decide_eq_false_iff_not, ite_not, Bool.true_and, Bool.and_true, Bool.false_and, Bool.and_false, Option.bind_some, Option.map_some, and_self, true_and, and_true, line_pos0, line_pos1, line_pos2, line_pos3, Int.reduceEq, Int.reduceLT, Int.reduceLE, Int.reduceAdd, Int.reduceSub, Int.reduceMul, Int.reduceNeg, Int.reduceToNat, Int.reduceNe, Int.reducePow, Nat.reduceLeDiff, Nat.reduceLT, Nat.reduceEqDiff]
    try simp -implicitDefEqProofs only [f_bind, f_noX, f_sSeq, f_eS, f_sIf, f_sRet, a_sRetN, f_sSet, f_sPar, f_sAsg, f_sEx, a_sNil, f_sFor, f_sFldP, f_x2, f_x2F, f_x1, f_xIf, f_xAn, f_xOo, f_xNo, f_xTru, f_xBl, f_tNo, f_tAn, f_tOo, f_xCons, f_xNil, f_xTup, f_xMk, f_xP, f_xCall, f_xCallK, f_x3, f_ch3, f_var, f_gv, f_xC, f_xComp, f_itSeq, f_itEnum, f_itR1, f_itR2, f_toInt, f_xBM, f_xCut, f_xPart, f_xNoP, f_xFld, f_prC, f_xProp, f_gNm, f_gTp, f_gCn, f_gNl, f_gSb, f_xNew, bd_ok, bd_bad, bd_exc, es_ok, es_exc, st_ok, nex_ok, sq_nx, sq_rt, sq_bk, sq_ct, sq_exc, bd_bd, es_bd, st_bd, sq_es, sq_st, sq_sq, a_ev1, a_ev2, f_truB, f_truI, f_toBl, f_add, f_sub, f_mul, f_div, f_mod, f_pow, f_neg, f_lt, f_le, f_gt, f_ge, f_int, f_abs, f_lenT, f_lenL, f_tupT, f_divmod, f_catT, f_catL, f_eqI, f_eqS, f_neS, f_isN, f_isNN, f_ixT, f_ixL, f_ofS, f_seqT, f_seqL, f_seqC, f_enT, f_enL, f_isS, f_lenC, f_sumT, f_sumL, f_sumF, f_allF, f_anyF, f_min, f_max, ho_rt, ho_nx, ho_exc, ho_ok, lp_nx, lp_ct, lp_bk, lp_rt, lp_exc, wipeE, a_pure, a_stuck, f_mkF, f_mkT, l_L, l_C, l_F, l_ap, l_pf, l_mk, l_seqOf, l_seqOfT, l_seqOfL, l_ix, l_seqIt, l_en, l_tup, l_isL, l_app, l_set, l_fld, l_insC, l_putF, l_lst, l_cutT, l_cutL, l_cutR, l_cutC, l_catRR, at_0, at_1, at_2, at_3, at_last, st_0, st_1, st_2, Option.isSome_some, List.map_cons, List.map_nil, List.length_cons, List.length_nil, List.cons_append, List.nil_append, List.getElem?_cons_zero, List.getElem?_cons_succ, List.set_cons_zero, List.set_cons_succ, List.replicate_succ, List.replicate_zero, List.zip_cons_cons, List.zip_nil_left, List.zip_nil_right, List.foldl_cons, List.foldl_nil, Nat.reduceAdd, Nat.reduceSub, Nat.zero_add, if_true, if_false, Bool.false_eq_true, reduceIte, reduceCtorEq, decide_true, decide_false, decide_eq_true_eq, Bool.not_eq_eq_eq_not, Bool.not_true, Bool.not_false, decide_eq_false_iff_not, ite_not, Bool.true_and, Bool.and_true, Bool.false_and, Bool.and_false, Option.bind_some, Option.map_some, and_self, true_and, and_true, line_pos0, line_pos1, line_pos2, line_pos3, Int.reduceEq, Int.reduceLT, Int.reduceLE, Int.reduceAdd, Int.reduceSub, Int.reduceMul, Int.reduceNeg, Int.reduceToNat, Int.reduceNe, Int.reducePow, Nat.reduceLeDiff, Nat.reduceLT, Nat.reduceEqDiff, k1, m1, m2, List.length_map]
    refine es_of (comp_flt rs D.int (fun r => decide (0 < r)) (fun r => .int ((2 * u * (ss.length : Int)).fdiv r + 1)) rfl rfl (by unfold line; omega) ?_) ?_
    · intro y hy
      refine ⟨rfl, ?_, fun hq => ?_⟩
      · try simp -implicitDefEqProofs only [f_bind, f_noX, f_sSeq, f_eS, f_sIf, f_sRet, a_sRetN, f_sSet, f_sPar, f_sAsg, f_sEx, a_sNil, f_sFor, f_sFldP, f_x2, f_x2F, f_x1, f_xIf, f_xAn, f_xOo, f_xNo, f_xTru, f_xBl, f_tNo, f_tAn, f_tOo, f_xCons, f_xNil, f_xTup, f_xMk, f_xP, f_xCall, f_xCallK, f_x3, f_ch3, f_var, f_gv, f_xC, f_xComp, f_itSeq, f_itEnum, f_itR1, f_itR2, f_toInt, f_xBM, f_xCut, f_xPart, f_xNoP, f_xFld, f_prC, f_xProp, f_gNm, f_gTp, f_gCn, f_gNl, f_gSb, f_xNew, bd_ok, bd_bad, bd_exc, es_ok, es_exc, st_ok, nex_ok, sq_nx, sq_rt, sq_bk, sq_ct, sq_exc, bd_bd, es_bd, st_bd, sq_es, sq_st, sq_sq, a_ev1, a_ev2, f_truB, f_truI, f_toBl, f_add, f_sub, f_mul, f_div, f_mod, f_pow, f_neg, f_lt, f_le, f_gt, f_ge, f_int, f_abs, f_lenT, f_lenL, f_tupT, f_divmod, f_catT, f_catL, f_eqI, f_eqS, f_neS, f_isN, f_isNN, f_ixT, f_ixL, f_ofS, f_seqT, f_seqL, f_seqC, f_enT, f_enL, f_isS, f_lenC, f_sumT, f_sumL, f_sumF, f_allF, f_anyF, f_min, f_max, ho_rt, ho_nx, ho_exc, ho_ok, lp_nx, lp_ct, lp_bk, lp_rt, lp_exc, wipeE, a_pure, a_stuck, f_mkF, f_mkT, l_L, l_C, l_F, l_ap, l_pf, l_mk, l_seqOf, l_seqOfT, l_seqOfL, l_ix, l_seqIt, l_en, l_tup, l_isL, l_app, l_set, l_fld, l_insC, l_putF, l_lst, l_cutT, l_cutL, l_cutR, l_cutC, l_catRR, at_0, at_1, at_2, at_3, at_last, st_0, st_1, st_2, Option.isSome_some, List.map_cons, List.map_nil, List.length_cons, List.length_nil, List.cons_append, List.nil_append, List.getElem?_cons_zero, List.getElem?_cons_succ, List.set_cons_zero, List.set_cons_succ, List.replicate_succ, List.replicate_zero, List.zip_cons_cons, List.zip_nil_left, List.zip_nil_right, List.foldl_cons, List.foldl_nil, Nat.reduceAdd, Nat.reduceSub, Nat.zero_add, if_true, if_false, Bool.false_eq_true, reduceIte, reduceCtorEq, decide_true, decide_false, decide_eq_true_eq, Bool.not_eq_eq_eq_not, Bool.not_true, Bool.not_false, decide_eq_false_iff_not, ite_not, Bool.true_and, Bool.and_true, Bool.false_and, Bool.and_false, Option.bind_some, Option.map_some, and_self, true_and, and_true, line_pos0, line_pos1, line_pos2, line_pos3, Int.reduceEq, Int.reduceLT, Int.reduceLE, Int.reduceAdd, Int.reduceSub, Int.reduceMul, Int.reduceNeg, Int.reduceToNat, Int.reduceNe, Int.reducePow, Nat.reduceLeDiff, Nat.reduceLT, Nat.reduceEqDiff]
        exact is_refl
      · have := hd y hy (by simpa using hq)
        try simp -implicitDefEqProofs only [f_bind, f_noX, f_sSeq, f_eS, f_sIf, f_sRet, a_sRetN, f_sSet, f_sPar, f_sAsg, f_sEx, a_sNil, f_sFor, f_sFldP, f_x2, f_x2F, f_x1, f_xIf, f_xAn, f_xOo, f_xNo, f_xTru, f_xBl, f_tNo, f_tAn, f_tOo, f_xCons, f_xNil, f_xTup, f_xMk, f_xP, f_xCall, f_xCallK, f_x3, f_ch3, f_var, f_gv, f_xC, f_xComp, f_itSeq, f_itEnum, f_itR1, f_itR2, f_toInt, f_xBM, f_xCut, f_xPart, f_xNoP, f_xFld, f_prC, f_xProp, f_gNm, f_gTp, f_gCn, f_gNl, f_gSb, f_xNew, bd_ok, bd_bad, bd_exc, es_ok, es_exc, st_ok, nex_ok, sq_nx, sq_rt, sq_bk, sq_ct, sq_exc, bd_bd, es_bd, st_bd, sq_es, sq_st, sq_sq, a_ev1, a_ev2, f_truB, f_truI, f_toBl, f_add, f_sub, f_mul, f_div, f_mod, f_pow, f_neg, f_lt, f_le, f_gt, f_ge, f_int, f_abs, f_lenT, f_lenL, f_tupT, f_divmod, f_catT, f_catL, f_eqI, f_eqS, f_neS, f_isN, f_isNN, f_ixT, f_ixL, f_ofS, f_seqT, f_seqL, f_seqC, f_enT, f_enL, f_isS, f_lenC, f_sumT, f_sumL, f_sumF, f_allF, f_anyF, f_min, f_max, ho_rt, ho_nx, ho_exc, ho_ok, lp_nx, lp_ct, lp_bk, lp_rt, lp_exc, wipeE, a_pure, a_stuck, f_mkF, f_mkT, l_L, l_C, l_F, l_ap, l_pf, l_mk, l_seqOf, l_seqOfT, l_seqOfL, l_ix, l_seqIt, l_en, l_tup, l_isL, l_app, l_set, l_fld, l_insC, l_putF, l_lst, l_cutT, l_cutL, l_cutR, l_cutC, l_catRR, at_0, at_1, at_2, at_3, at_last, st_0, st_1, st_2, Option.isSome_some, List.map_cons, List.map_nil, List.length_cons, List.length_nil, List.cons_append, List.nil_append, List.getElem?_cons_zero, List.getElem?_cons_succ, List.set_cons_zero, List.set_cons_succ, List.replicate_succ, List.replicate_zero, List.zip_cons_cons, List.zip_nil_left, List.zip_nil_right, List.foldl_cons, List.foldl_nil, Nat.reduceAdd, Nat.reduceSub, Nat.zero_add, if_true, if_false, Bool.false_eq_true, reduceIte, reduceCtorEq, decide_true, decide_false, decide_eq_true_eq, Bool.not_eq_eq_eq_not, Bool.not_true, Bool.not_false, decide_eq_false_iff_not, ite_not, Bool.true_and, Bool.and_true, Bool.false_and, Bool.and_false, Option.bind_some, Option.map_some, and_self, true_and, and_true, line_pos0, line_pos1, line_pos2, line_pos3, Int.reduceEq, Int.reduceLT, Int.reduceLE, Int.reduceAdd, Int.reduceSub, Int.reduceMul, Int.reduceNeg, Int.reduceToNat, Int.reduceNe, Int.reducePow, Nat.reduceLeDiff, Nat.reduceLT, Nat.reduceEqDiff, this]
        exact is_refl
    rintro _ S_ ⟨rfl, h_, q1⟩; have h_ := h_.symm; subst h_
    have q2 : (List.map (fun r => D.int ((2 * u * (ss.length : Int)).fdiv r + 1)) (List.filter (fun r => decide (0 < r)) rs)).length + 1 ≤ line := by
      rw [List.length_map]
      have := List.length_filter_le (fun r => decide (0 < r)) rs
      unfold line
      omega
    have e1 : (D.int u :: List.map (fun r => D.int ((2 * u * (ss.length : Int)).fdiv r + 1)) (List.filter (fun r => decide (0 < r)) rs)) = ((u :: (rs.filter fun r => decide (0 < r)).map fun r => (2 * u * (ss.length : Int)).fdiv r + 1)).map D.int := by
      rw [List.map_cons, List.map_map]
      rfl
    have hmax : ∀ S, pMaxU [D.tmp (D.int u :: List.map (fun r => D.int ((2 * u * (ss.length : Int)).fdiv r + 1)) (List.filter (fun r => decide (0 < r)) rs))] S = .ok (.int m) S := by
      intro S
      rw [e1, f_maxL, hm]
      rfl
    try simp -implicitDefEqProofs only [f_bind, f_noX, f_sSeq, f_eS, f_sIf, f_sRet, a_sRetN, f_sSet, f_sPar, f_sAsg, f_sEx, a_sNil, f_sFor, f_sFldP, f_x2, f_x2F, f_x1, f_xIf, f_xAn, f_xOo, f_xNo, f_xTru, f_xBl, f_tNo, f_tAn, f_tOo, f_xCons, f_xNil, f_xTup, f_xMk, f_xP, f_xCall, f_xCallK, f_x3, f_ch3, f_var, f_gv, f_xC, f_xComp, f_itSeq, f_itEnum, f_itR1, f_itR2, f_toInt, f_xBM, f_xCut, f_xPart, f_xNoP, f_xFld, f_prC, f_xProp, f_gNm, f_gTp, f_gCn, f_gNl, f_gSb, f_xNew, bd_ok, bd_bad, bd_exc, es_ok, es_exc, st_ok, nex_ok, sq_nx, sq_rt, sq_bk, sq_ct, sq_exc, bd_bd, es_bd, st_bd, sq_es, sq_st, sq_sq, a_ev1, a_ev2, f_truB, f_truI, f_toBl, f_add, f_sub, f_mul, f_div, f_mod, f_pow, f_neg, f_lt, f_le, f_gt, f_ge, f_int, f_abs, f_lenT, f_lenL, f_tupT, f_divmod, f_catT, f_catL, f_eqI, f_eqS, f_neS, f_isN, f_isNN, f_ixT, f_ixL, f_ofS, f_seqT, f_seqL, f_seqC, f_enT, f_enL, f_isS, f_lenC, f_sumT, f_sumL, f_sumF, f_allF, f_anyF, f_min, f_max, ho_rt, ho_nx, ho_exc, ho_ok, lp_nx, lp_ct, lp_bk, lp_rt, lp_exc, wipeE, a_pure, a_stuck, f_mkF, f_mkT, l_L, l_C, l_F, l_ap, l_pf, l_mk, l_seqOf, l_seqOfT, l_seqOfL, l_ix, l_seqIt, l_en, l_tup, l_isL, l_app, l_set, l_fld, l_insC, l_putF, l_lst, l_cutT, l_cutL, l_cutR, l_cutC, l_catRR, at_0, at_1, at_2, at_3, at_last, st_0, st_1, st_2, Option.isSome_some, List.map_cons, List.map_nil, List.length_cons, List.length_nil, List.cons_append, List.nil_append, List.getElem?_cons_zero, List.getElem?_cons_succ, List.set_cons_zero, List.set_cons_succ, List.replicate_succ, List.replicate_zero, List.zip_cons_cons, List.zip_nil_left, List.zip_nil_right, List.foldl_cons, List.foldl_nil, Nat.reduceAdd, Nat.reduceSub, Nat.zero_add, if_true, if_false, Bool.false_eq_true, reduceIte, reduceCtorEq, decide_true, decide_false, decide_eq_true_eq, Bool.not_eq_eq_eq_not, Bool.not_true, Bool.not_false, decide_eq_false_iff_not, ite_not, Bool.true_and, Bool.and_true, Bool.false_and, Bool.and_false, Option.bind_some, Option.map_some, and_self, true_and, and_true, line_pos0, line_pos1, line_pos2, line_pos3, Int.reduceEq, Int.reduceLT, Int.reduceLE, Int.reduceAdd, Int.reduceSub, Int.reduceMul, Int.reduceNeg, Int.reduceToNat, Int.reduceNe, Int.reducePow, Nat.reduceLeDiff, Nat.reduceLT, Nat.reduceEqDiff, q1, q2, hmax]
    exact is_refl
  by_cases hz : 0 < 2 * u - Poll.lowS ss
  · have d1 : divB (2 * u - Poll.lowS ss) = true := divB_of (by omega) (by omega)
    have u0 := up _ _ b6.1 hz
    refine ⟨Poll.far u ss, key _ _ ?_ ?_ rfl, by unfold Poll.far; omega, by unfold Poll.far; omega, fun _ => rfl⟩
    · intro r hr _
      simp only [List.mem_cons, List.not_mem_nil, or_false] at hr
      rcases hr with rfl | rfl
      · exact d1
      · exact d2
    · rw [List.filter_cons_of_pos (by simpa using hz), List.filter_cons_of_pos (by simpa using h1)]
      unfold Poll.far
      refine maxL_eq ?_ ?_
      · simp only [List.filter_nil, List.map_cons, List.map_nil, List.mem_cons, List.not_mem_nil, or_false]
        omega
      · intro y hy
        simp only [List.filter_nil, List.map_cons, List.map_nil, List.mem_cons, List.not_mem_nil, or_false] at hy
        omega
  · refine ⟨max u ((2 * u * (ss.length : Int)).fdiv (Poll.topS ss - 2 * u) + 1), key _ _ ?_ ?_ rfl, by omega, by omega, fun z => absurd z hz⟩
    · intro r hr hp
      simp only [List.mem_cons, List.not_mem_nil, or_false] at hr
      rcases hr with rfl | rfl
      · exact absurd hp hz
      · exact d2
    · rw [List.filter_cons_of_neg (by simpa using hz), List.filter_cons_of_pos (by simpa using h1)]
      refine maxL_eq ?_ ?_
      · simp only [List.filter_nil, List.map_cons, List.map_nil, List.mem_cons, List.not_mem_nil, or_false]
        omega
      · intro y hy
        simp only [List.filter_nil, List.map_cons, List.map_nil, List.mem_cons, List.not_mem_nil, or_false] at hy
        omega
theorem law_from_ok (n : Nat) {S : Sto} {u : Int} {ss : List Int} (hu : u = 100 ∨ u = 1000) (hs : ∀ z ∈ ss, 0 ≤ z ∧ z ≤ u) (hl : ss.length ≤ 6) : Ho (cal g (n + 3) 33 [.int u, .tup (ss.map D.int)] S) (OkP fun d S' => FromP u ss d ∧ S' = S) := by
  have k1 := sums_ok (n + 1) (S := S) (u := u) (ss := ss) hl
  rw [c_law_from]; refine ho_run ?_; unfold x_law_from; simp -implicitDefEqProofs only [f_bind, f_noX, f_sSeq, f_eS, f_sIf, f_sRet, a_sRetN, f_sSet, f_sPar, f_sAsg, f_sEx, a_sNil, f_sFor, f_sFldP, f_x2, f_x2F, f_x1, f_xIf, f_xAn, f_xOo, f_xNo, f_xTru, f_xBl, f_tNo, f_tAn, f_tOo, f_xCons, f_xNil, f_xTup, f_xMk, f_xP, f_xCall, f_xCallK, f_x3, f_ch3, f_var, f_gv, f_xC, f_xComp, f_itSeq, f_itEnum, f_itR1, f_itR2, f_toInt, f_xBM, f_xCut, f_xPart, f_xNoP, f_xFld, f_prC, f_xProp, f_gNm, f_gTp, f_gCn, f_gNl, f_gSb, f_xNew, bd_ok, bd_bad, bd_exc, es_ok, es_exc, st_ok, nex_ok, sq_nx, sq_rt, sq_bk, sq_ct, sq_exc, bd_bd, es_bd, st_bd, sq_es, sq_st, sq_sq, a_ev1, a_ev2, f_truB, f_truI, f_toBl, f_add, f_sub, f_mul, f_div, f_mod, f_pow, f_neg, f_lt, f_le, f_gt, f_ge, f_int, f_abs, f_lenT, f_lenL, f_tupT, f_divmod, f_catT, f_catL, f_eqI, f_eqS, f_neS, f_isN, f_isNN, f_ixT, f_ixL, f_ofS, f_seqT, f_seqL, f_seqC, f_enT, f_enL, f_isS, f_lenC, f_sumT, f_sumL, f_sumF, f_allF, f_anyF, f_min, f_max, ho_rt, ho_nx, ho_exc, ho_ok, lp_nx, lp_ct, lp_bk, lp_rt, lp_exc, wipeE, a_pure, a_stuck, f_mkF, f_mkT, l_L, l_C, l_F, l_ap, l_pf, l_mk, l_seqOf, l_seqOfT, l_seqOfL, l_ix, l_seqIt, l_en, l_tup, l_isL, l_app, l_set, l_fld, l_insC, l_putF, l_lst, l_cutT, l_cutL, l_cutR, l_cutC, l_catRR, at_0, at_1, at_2, at_3, at_last, st_0, st_1, st_2, Option.isSome_some, List.map_cons, List.map_nil, List.length_cons, List.length_nil, List.cons_append, List.nil_append, List.getElem?_cons_zero, List.getElem?_cons_succ, List.set_cons_zero, List.set_cons_succ, List.replicate_succ, List.replicate_zero, List.zip_cons_cons, List.zip_nil_left, List.zip_nil_right, List.foldl_cons, List.foldl_nil, Nat.reduceAdd, Nat.reduceSub, Nat.zero_add, if_true, if_false, Bool.false_eq_true, reduceIte, reduceCtorEq, decide_true, decide_false, decide_eq_true_eq, Bool.not_eq_eq_eq_not, Bool.not_true, Bool.not_false, decide_eq_false_iff_not, ite_not, Bool.true_and, Bool.and_true, Bool.false_and, Bool.and_false, Option.bind_some, Option.map_some, and_self, true_and, and_true, line_pos0, line_pos1, line_pos2, line_pos3, Int.reduceEq, Int.reduceLT, Int.reduceLE, Int.reduceAdd, Int.reduceSub, Int.reduceMul, Int.reduceNeg, Int.reduceToNat, Int.reduceNe, Int.reducePow, Nat.reduceLeDiff, Nat.reduceLT, Nat.reduceEqDiff]
  try simp -implicitDefEqProofs only [f_bind, f_noX, f_sSeq, f_eS, f_sIf, f_sRet, a_sRetN, f_sSet, f_sPar, f_sAsg, f_sEx, a_sNil, f_sFor, f_sFldP, f_x2, f_x2F, f_x1, f_xIf, f_xAn, f_xOo, f_xNo, f_xTru, f_xBl, f_tNo, f_tAn, f_tOo, f_xCons, f_xNil, f_xTup, f_xMk, f_xP, f_xCall, f_xCallK, f_x3, f_ch3, f_var, f_gv, f_xC, f_xComp, f_itSeq, f_itEnum, f_itR1, f_itR2, f_toInt, f_xBM, f_xCut, f_xPart, f_xNoP, f_xFld, f_prC, f_xProp, f_gNm, f_gTp, f_gCn, f_gNl, f_gSb, f_xNew, bd_ok, bd_bad, bd_exc, es_ok, es_exc, st_ok, nex_ok, sq_nx, sq_rt, sq_bk, sq_ct, sq_exc, bd_bd, es_bd, st_bd, sq_es, sq_st, sq_sq, a_ev1, a_ev2, f_truB, f_truI, f_toBl, f_add, f_sub, f_mul, f_div, f_mod, f_pow, f_neg, f_lt, f_le, f_gt, f_ge, f_int, f_abs, f_lenT, f_lenL, f_tupT, f_divmod, f_catT, f_catL, f_eqI, f_eqS, f_neS, f_isN, f_isNN, f_ixT, f_ixL, f_ofS, f_seqT, f_seqL, f_seqC, f_enT, f_enL, f_isS, f_lenC, f_sumT, f_sumL, f_sumF, f_allF, f_anyF, f_min, f_max, ho_rt, ho_nx, ho_exc, ho_ok, lp_nx, lp_ct, lp_bk, lp_rt, lp_exc, wipeE, a_pure, a_stuck, f_mkF, f_mkT, l_L, l_C, l_F, l_ap, l_pf, l_mk, l_seqOf, l_seqOfT, l_seqOfL, l_ix, l_seqIt, l_en, l_tup, l_isL, l_app, l_set, l_fld, l_insC, l_putF, l_lst, l_cutT, l_cutL, l_cutR, l_cutC, l_catRR, at_0, at_1, at_2, at_3, at_last, st_0, st_1, st_2, Option.isSome_some, List.map_cons, List.map_nil, List.length_cons, List.length_nil, List.cons_append, List.nil_append, List.getElem?_cons_zero, List.getElem?_cons_succ, List.set_cons_zero, List.set_cons_succ, List.replicate_succ, List.replicate_zero, List.zip_cons_cons, List.zip_nil_left, List.zip_nil_right, List.foldl_cons, List.foldl_nil, Nat.reduceAdd, Nat.reduceSub, Nat.zero_add, if_true, if_false, Bool.false_eq_true, reduceIte, reduceCtorEq, decide_true, decide_false, decide_eq_true_eq, Bool.not_eq_eq_eq_not, Bool.not_true, Bool.not_false, decide_eq_false_iff_not, ite_not, Bool.true_and, Bool.and_true, Bool.false_and, Bool.and_false, Option.bind_some, Option.map_some, and_self, true_and, and_true, line_pos0, line_pos1, line_pos2, line_pos3, Int.reduceEq, Int.reduceLT, Int.reduceLE, Int.reduceAdd, Int.reduceSub, Int.reduceMul, Int.reduceNeg, Int.reduceToNat, Int.reduceNe, Int.reducePow, Nat.reduceLeDiff, Nat.reduceLT, Nat.reduceEqDiff, k1]
  by_cases h0 : 2 * u - Poll.lowS ss ≤ 0
  · try simp -implicitDefEqProofs only [f_bind, f_noX, f_sSeq, f_eS, f_sIf, f_sRet, a_sRetN, f_sSet, f_sPar, f_sAsg, f_sEx, a_sNil, f_sFor, f_sFldP, f_x2, f_x2F, f_x1, f_xIf, f_xAn, f_xOo, f_xNo, f_xTru, f_xBl, f_tNo, f_tAn, f_tOo, f_xCons, f_xNil, f_xTup, f_xMk, f_xP, f_xCall, f_xCallK, f_x3, f_ch3, f_var, f_gv, f_xC, f_xComp, f_itSeq, f_itEnum, f_itR1, f_itR2, f_toInt, f_xBM, f_xCut, f_xPart, f_xNoP, f_xFld, f_prC, f_xProp, f_gNm, f_gTp, f_gCn, f_gNl, f_gSb, f_xNew, bd_ok, bd_bad, bd_exc, es_ok, es_exc, st_ok, nex_ok, sq_nx, sq_rt, sq_bk, sq_ct, sq_exc, bd_bd, es_bd, st_bd, sq_es, sq_st, sq_sq, a_ev1, a_ev2, f_truB, f_truI, f_toBl, f_add, f_sub, f_mul, f_div, f_mod, f_pow, f_neg, f_lt, f_le, f_gt, f_ge, f_int, f_abs, f_lenT, f_lenL, f_tupT, f_divmod, f_catT, f_catL, f_eqI, f_eqS, f_neS, f_isN, f_isNN, f_ixT, f_ixL, f_ofS, f_seqT, f_seqL, f_seqC, f_enT, f_enL, f_isS, f_lenC, f_sumT, f_sumL, f_sumF, f_allF, f_anyF, f_min, f_max, ho_rt, ho_nx, ho_exc, ho_ok, lp_nx, lp_ct, lp_bk, lp_rt, lp_exc, wipeE, a_pure, a_stuck, f_mkF, f_mkT, l_L, l_C, l_F, l_ap, l_pf, l_mk, l_seqOf, l_seqOfT, l_seqOfL, l_ix, l_seqIt, l_en, l_tup, l_isL, l_app, l_set, l_fld, l_insC, l_putF, l_lst, l_cutT, l_cutL, l_cutR, l_cutC, l_catRR, at_0, at_1, at_2, at_3, at_last, st_0, st_1, st_2, Option.isSome_some, List.map_cons, List.map_nil, List.length_cons, List.length_nil, List.cons_append, List.nil_append, List.getElem?_cons_zero, List.getElem?_cons_succ, List.set_cons_zero, List.set_cons_succ, List.replicate_succ, List.replicate_zero, List.zip_cons_cons, List.zip_nil_left, List.zip_nil_right, List.foldl_cons, List.foldl_nil, Nat.reduceAdd, Nat.reduceSub, Nat.zero_add, if_true, if_false, Bool.false_eq_true, reduceIte, reduceCtorEq, decide_true, decide_false, decide_eq_true_eq, Bool.not_eq_eq_eq_not, Bool.not_true, Bool.not_false, decide_eq_false_iff_not, ite_not, Bool.true_and, Bool.and_true, Bool.false_and, Bool.and_false, Option.bind_some, Option.map_some, and_self, true_and, and_true, line_pos0, line_pos1, line_pos2, line_pos3, Int.reduceEq, Int.reduceLT, Int.reduceLE, Int.reduceAdd, Int.reduceSub, Int.reduceMul, Int.reduceNeg, Int.reduceToNat, Int.reduceNe, Int.reducePow, Nat.reduceLeDiff, Nat.reduceLT, Nat.reduceEqDiff, h0]
    exact .inl ⟨rfl, .inl (by omega)⟩
  · by_cases h1 : Poll.topS ss - 2 * u ≤ 0
    · try simp -implicitDefEqProofs only [f_bind, f_noX, f_sSeq, f_eS, f_sIf, f_sRet, a_sRetN, f_sSet, f_sPar, f_sAsg, f_sEx, a_sNil, f_sFor, f_sFldP, f_x2, f_x2F, f_x1, f_xIf, f_xAn, f_xOo, f_xNo, f_xTru, f_xBl, f_tNo, f_tAn, f_tOo, f_xCons, f_xNil, f_xTup, f_xMk, f_xP, f_xCall, f_xCallK, f_x3, f_ch3, f_var, f_gv, f_xC, f_xComp, f_itSeq, f_itEnum, f_itR1, f_itR2, f_toInt, f_xBM, f_xCut, f_xPart, f_xNoP, f_xFld, f_prC, f_xProp, f_gNm, f_gTp, f_gCn, f_gNl, f_gSb, f_xNew, bd_ok, bd_bad, bd_exc, es_ok, es_exc, st_ok, nex_ok, sq_nx, sq_rt, sq_bk, sq_ct, sq_exc, bd_bd, es_bd, st_bd, sq_es, sq_st, sq_sq, a_ev1, a_ev2, f_truB, f_truI, f_toBl, f_add, f_sub, f_mul, f_div, f_mod, f_pow, f_neg, f_lt, f_le, f_gt, f_ge, f_int, f_abs, f_lenT, f_lenL, f_tupT, f_divmod, f_catT, f_catL, f_eqI, f_eqS, f_neS, f_isN, f_isNN, f_ixT, f_ixL, f_ofS, f_seqT, f_seqL, f_seqC, f_enT, f_enL, f_isS, f_lenC, f_sumT, f_sumL, f_sumF, f_allF, f_anyF, f_min, f_max, ho_rt, ho_nx, ho_exc, ho_ok, lp_nx, lp_ct, lp_bk, lp_rt, lp_exc, wipeE, a_pure, a_stuck, f_mkF, f_mkT, l_L, l_C, l_F, l_ap, l_pf, l_mk, l_seqOf, l_seqOfT, l_seqOfL, l_ix, l_seqIt, l_en, l_tup, l_isL, l_app, l_set, l_fld, l_insC, l_putF, l_lst, l_cutT, l_cutL, l_cutR, l_cutC, l_catRR, at_0, at_1, at_2, at_3, at_last, st_0, st_1, st_2, Option.isSome_some, List.map_cons, List.map_nil, List.length_cons, List.length_nil, List.cons_append, List.nil_append, List.getElem?_cons_zero, List.getElem?_cons_succ, List.set_cons_zero, List.set_cons_succ, List.replicate_succ, List.replicate_zero, List.zip_cons_cons, List.zip_nil_left, List.zip_nil_right, List.foldl_cons, List.foldl_nil, Nat.reduceAdd, Nat.reduceSub, Nat.zero_add, if_true, if_false, Bool.false_eq_true, reduceIte, reduceCtorEq, decide_true, decide_false, decide_eq_true_eq, Bool.not_eq_eq_eq_not, Bool.not_true, Bool.not_false, decide_eq_false_iff_not, ite_not, Bool.true_and, Bool.and_true, Bool.false_and, Bool.and_false, Option.bind_some, Option.map_some, and_self, true_and, and_true, line_pos0, line_pos1, line_pos2, line_pos3, Int.reduceEq, Int.reduceLT, Int.reduceLE, Int.reduceAdd, Int.reduceSub, Int.reduceMul, Int.reduceNeg, Int.reduceToNat, Int.reduceNe, Int.reducePow, Nat.reduceLeDiff, Nat.reduceLT, Nat.reduceEqDiff, h0, h1]
      exact .inl ⟨rfl, .inr (by omega)⟩
    · obtain ⟨m, k4, _, _, hm⟩ := law_far_ok n (S := S) hu hs hl (by omega) (by omega)
      have hm := hm (by omega)
      subst hm
      obtain ⟨a, b, c⟩ := Poll.far_b hu hl (show 0 < 2 * u - Poll.lowS ss by omega) (by omega)
      have hfar := fun {p : Int} => fit_far (p := p) hu hs hl (show 0 < 2 * u - Poll.lowS ss by omega) (by omega)
      have i1 : i62 (Poll.far u ss) = true := i62_le (by omega)
      have i2 : i62 0 = true := by decide
      try simp -implicitDefEqProofs only [f_bind, f_noX, f_sSeq, f_eS, f_sIf, f_sRet, a_sRetN, f_sSet, f_sPar, f_sAsg, f_sEx, a_sNil, f_sFor, f_sFldP, f_x2, f_x2F, f_x1, f_xIf, f_xAn, f_xOo, f_xNo, f_xTru, f_xBl, f_tNo, f_tAn, f_tOo, f_xCons, f_xNil, f_xTup, f_xMk, f_xP, f_xCall, f_xCallK, f_x3, f_ch3, f_var, f_gv, f_xC, f_xComp, f_itSeq, f_itEnum, f_itR1, f_itR2, f_toInt, f_xBM, f_xCut, f_xPart, f_xNoP, f_xFld, f_prC, f_xProp, f_gNm, f_gTp, f_gCn, f_gNl, f_gSb, f_xNew, bd_ok, bd_bad, bd_exc, es_ok, es_exc, st_ok, nex_ok, sq_nx, sq_rt, sq_bk, sq_ct, sq_exc, bd_bd, es_bd, st_bd, sq_es, sq_st, sq_sq, a_ev1, a_ev2, f_truB, f_truI, f_toBl, f_add, f_sub, f_mul, f_div, f_mod, f_pow, f_neg, f_lt, f_le, f_gt, f_ge, f_int, f_abs, f_lenT, f_lenL, f_tupT, f_divmod, f_catT, f_catL, f_eqI, f_eqS, f_neS, f_isN, f_isNN, f_ixT, f_ixL, f_ofS, f_seqT, f_seqL, f_seqC, f_enT, f_enL, f_isS, f_lenC, f_sumT, f_sumL, f_sumF, f_allF, f_anyF, f_min, f_max, ho_rt, ho_nx, ho_exc, ho_ok, lp_nx, lp_ct, lp_bk, lp_rt, lp_exc, wipeE, a_pure, a_stuck, f_mkF, f_mkT, l_L, l_C, l_F, l_ap, l_pf, l_mk, l_seqOf, l_seqOfT, l_seqOfL, l_ix, l_seqIt, l_en, l_tup, l_isL, l_app, l_set, l_fld, l_insC, l_putF, l_lst, l_cutT, l_cutL, l_cutR, l_cutC, l_catRR, at_0, at_1, at_2, at_3, at_last, st_0, st_1, st_2, Option.isSome_some, List.map_cons, List.map_nil, List.length_cons, List.length_nil, List.cons_append, List.nil_append, List.getElem?_cons_zero, List.getElem?_cons_succ, List.set_cons_zero, List.set_cons_succ, List.replicate_succ, List.replicate_zero, List.zip_cons_cons, List.zip_nil_left, List.zip_nil_right, List.foldl_cons, List.foldl_nil, Nat.reduceAdd, Nat.reduceSub, Nat.zero_add, if_true, if_false, Bool.false_eq_true, reduceIte, reduceCtorEq, decide_true, decide_false, decide_eq_true_eq, Bool.not_eq_eq_eq_not, Bool.not_true, Bool.not_false, decide_eq_false_iff_not, ite_not, Bool.true_and, Bool.and_true, Bool.false_and, Bool.and_false, Option.bind_some, Option.map_some, and_self, true_and, and_true, line_pos0, line_pos1, line_pos2, line_pos3, Int.reduceEq, Int.reduceLT, Int.reduceLE, Int.reduceAdd, Int.reduceSub, Int.reduceMul, Int.reduceNeg, Int.reduceToNat, Int.reduceNe, Int.reducePow, Nat.reduceLeDiff, Nat.reduceLT, Nat.reduceEqDiff, h0, h1, k4, f_itR3, i1, i2, Int.sub_zero]
      refine for_down1 (by omega) (fun i e S' => S' = S ∧ (∃ y3, e = [some (.int u), some (.tup (ss.map D.int)), some (.tmp [.int (2 * u - Poll.lowS ss), .int (Poll.topS ss - 2 * u)]), y3]) ∧ ∀ p : Int, (i : Int) < p → Fit u ss p = true) ⟨rfl, ⟨_, rfl⟩, fun p hp => hfar (by omega)⟩ ?_ ?_
      · rintro i e _ hi ⟨rfl, ⟨y3, rfl⟩, hf⟩
        have k5 := fun S => fits_ok (n + 1) (S := S) (u := u) (ss := ss) (p := (i : Int) + 1) hu hs (by omega)
        try simp -implicitDefEqProofs only [f_bind, f_noX, f_sSeq, f_eS, f_sIf, f_sRet, a_sRetN, f_sSet, f_sPar, f_sAsg, f_sEx, a_sNil, f_sFor, f_sFldP, f_x2, f_x2F, f_x1, f_xIf, f_xAn, f_xOo, f_xNo, f_xTru, f_xBl, f_tNo, f_tAn, f_tOo, f_xCons, f_xNil, f_xTup, f_xMk, f_xP, f_xCall, f_xCallK, f_x3, f_ch3, f_var, f_gv, f_xC, f_xComp, f_itSeq, f_itEnum, f_itR1, f_itR2, f_toInt, f_xBM, f_xCut, f_xPart, f_xNoP, f_xFld, f_prC, f_xProp, f_gNm, f_gTp, f_gCn, f_gNl, f_gSb, f_xNew, bd_ok, bd_bad, bd_exc, es_ok, es_exc, st_ok, nex_ok, sq_nx, sq_rt, sq_bk, sq_ct, sq_exc, bd_bd, es_bd, st_bd, sq_es, sq_st, sq_sq, a_ev1, a_ev2, f_truB, f_truI, f_toBl, f_add, f_sub, f_mul, f_div, f_mod, f_pow, f_neg, f_lt, f_le, f_gt, f_ge, f_int, f_abs, f_lenT, f_lenL, f_tupT, f_divmod, f_catT, f_catL, f_eqI, f_eqS, f_neS, f_isN, f_isNN, f_ixT, f_ixL, f_ofS, f_seqT, f_seqL, f_seqC, f_enT, f_enL, f_isS, f_lenC, f_sumT, f_sumL, f_sumF, f_allF, f_anyF, f_min, f_max, ho_rt, ho_nx, ho_exc, ho_ok, lp_nx, lp_ct, lp_bk, lp_rt, lp_exc, wipeE, a_pure, a_stuck, f_mkF, f_mkT, l_L, l_C, l_F, l_ap, l_pf, l_mk, l_seqOf, l_seqOfT, l_seqOfL, l_ix, l_seqIt, l_en, l_tup, l_isL, l_app, l_set, l_fld, l_insC, l_putF, l_lst, l_cutT, l_cutL, l_cutR, l_cutC, l_catRR, at_0, at_1, at_2, at_3, at_last, st_0, st_1, st_2, Option.isSome_some, List.map_cons, List.map_nil, List.length_cons, List.length_nil, List.cons_append, List.nil_append, List.getElem?_cons_zero, List.getElem?_cons_succ, List.set_cons_zero, List.set_cons_succ, List.replicate_succ, List.replicate_zero, List.zip_cons_cons, List.zip_nil_left, List.zip_nil_right, List.foldl_cons, List.foldl_nil, Nat.reduceAdd, Nat.reduceSub, Nat.zero_add, if_true, if_false, Bool.false_eq_true, reduceIte, reduceCtorEq, decide_true, decide_false, decide_eq_true_eq, Bool.not_eq_eq_eq_not, Bool.not_true, Bool.not_false, decide_eq_false_iff_not, ite_not, Bool.true_and, Bool.and_true, Bool.false_and, Bool.and_false, Option.bind_some, Option.map_some, and_self, true_and, and_true, line_pos0, line_pos1, line_pos2, line_pos3, Int.reduceEq, Int.reduceLT, Int.reduceLE, Int.reduceAdd, Int.reduceSub, Int.reduceMul, Int.reduceNeg, Int.reduceToNat, Int.reduceNe, Int.reducePow, Nat.reduceLeDiff, Nat.reduceLT, Nat.reduceEqDiff, k5]
        cases hq : Fit u ss ((i : Int) + 1) with
        | true =>
          try simp -implicitDefEqProofs only [f_bind, f_noX, f_sSeq, f_eS, f_sIf, f_sRet, a_sRetN, f_sSet, f_sPar, f_sAsg, f_sEx, a_sNil, f_sFor, f_sFldP, f_x2, f_x2F, f_x1, f_xIf, f_xAn, f_xOo, f_xNo, f_xTru, f_xBl, f_tNo, f_tAn, f_tOo, f_xCons, f_xNil, f_xTup, f_xMk, f_xP, f_xCall, f_xCallK, f_x3, f_ch3, f_var, f_gv, f_xC, f_xComp, f_itSeq, f_itEnum, f_itR1, f_itR2, f_toInt, f_xBM, f_xCut, f_xPart, f_xNoP, f_xFld, f_prC, f_xProp, f_gNm, f_gTp, f_gCn, f_gNl, f_gSb, f_xNew, bd_ok, bd_bad, bd_exc, es_ok, es_exc, st_ok, nex_ok, sq_nx, sq_rt, sq_bk, sq_ct, sq_exc, bd_bd, es_bd, st_bd, sq_es, sq_st, sq_sq, a_ev1, a_ev2, f_truB, f_truI, f_toBl, f_add, f_sub, f_mul, f_div, f_mod, f_pow, f_neg, f_lt, f_le, f_gt, f_ge, f_int, f_abs, f_lenT, f_lenL, f_tupT, f_divmod, f_catT, f_catL, f_eqI, f_eqS, f_neS, f_isN, f_isNN, f_ixT, f_ixL, f_ofS, f_seqT, f_seqL, f_seqC, f_enT, f_enL, f_isS, f_lenC, f_sumT, f_sumL, f_sumF, f_allF, f_anyF, f_min, f_max, ho_rt, ho_nx, ho_exc, ho_ok, lp_nx, lp_ct, lp_bk, lp_rt, lp_exc, wipeE, a_pure, a_stuck, f_mkF, f_mkT, l_L, l_C, l_F, l_ap, l_pf, l_mk, l_seqOf, l_seqOfT, l_seqOfL, l_ix, l_seqIt, l_en, l_tup, l_isL, l_app, l_set, l_fld, l_insC, l_putF, l_lst, l_cutT, l_cutL, l_cutR, l_cutC, l_catRR, at_0, at_1, at_2, at_3, at_last, st_0, st_1, st_2, Option.isSome_some, List.map_cons, List.map_nil, List.length_cons, List.length_nil, List.cons_append, List.nil_append, List.getElem?_cons_zero, List.getElem?_cons_succ, List.set_cons_zero, List.set_cons_succ, List.replicate_succ, List.replicate_zero, List.zip_cons_cons, List.zip_nil_left, List.zip_nil_right, List.foldl_cons, List.foldl_nil, Nat.reduceAdd, Nat.reduceSub, Nat.zero_add, if_true, if_false, Bool.false_eq_true, reduceIte, reduceCtorEq, decide_true, decide_false, decide_eq_true_eq, Bool.not_eq_eq_eq_not, Bool.not_true, Bool.not_false, decide_eq_false_iff_not, ite_not, Bool.true_and, Bool.and_true, Bool.false_and, Bool.and_false, Option.bind_some, Option.map_some, and_self, true_and, and_true, line_pos0, line_pos1, line_pos2, line_pos3, Int.reduceEq, Int.reduceLT, Int.reduceLE, Int.reduceAdd, Int.reduceSub, Int.reduceMul, Int.reduceNeg, Int.reduceToNat, Int.reduceNe, Int.reducePow, Nat.reduceLeDiff, Nat.reduceLT, Nat.reduceEqDiff]
          refine ⟨⟨_, rfl⟩, fun p hp => ?_⟩
          by_cases e : p = (i : Int) + 1
          · rw [e]; exact hq
          · exact hf p (by push_cast; omega)
        | false =>
          try simp -implicitDefEqProofs only [f_bind, f_noX, f_sSeq, f_eS, f_sIf, f_sRet, a_sRetN, f_sSet, f_sPar, f_sAsg, f_sEx, a_sNil, f_sFor, f_sFldP, f_x2, f_x2F, f_x1, f_xIf, f_xAn, f_xOo, f_xNo, f_xTru, f_xBl, f_tNo, f_tAn, f_tOo, f_xCons, f_xNil, f_xTup, f_xMk, f_xP, f_xCall, f_xCallK, f_x3, f_ch3, f_var, f_gv, f_xC, f_xComp, f_itSeq, f_itEnum, f_itR1, f_itR2, f_toInt, f_xBM, f_xCut, f_xPart, f_xNoP, f_xFld, f_prC, f_xProp, f_gNm, f_gTp, f_gCn, f_gNl, f_gSb, f_xNew, bd_ok, bd_bad, bd_exc, es_ok, es_exc, st_ok, nex_ok, sq_nx, sq_rt, sq_bk, sq_ct, sq_exc, bd_bd, es_bd, st_bd, sq_es, sq_st, sq_sq, a_ev1, a_ev2, f_truB, f_truI, f_toBl, f_add, f_sub, f_mul, f_div, f_mod, f_pow, f_neg, f_lt, f_le, f_gt, f_ge, f_int, f_abs, f_lenT, f_lenL, f_tupT, f_divmod, f_catT, f_catL, f_eqI, f_eqS, f_neS, f_isN, f_isNN, f_ixT, f_ixL, f_ofS, f_seqT, f_seqL, f_seqC, f_enT, f_enL, f_isS, f_lenC, f_sumT, f_sumL, f_sumF, f_allF, f_anyF, f_min, f_max, ho_rt, ho_nx, ho_exc, ho_ok, lp_nx, lp_ct, lp_bk, lp_rt, lp_exc, wipeE, a_pure, a_stuck, f_mkF, f_mkT, l_L, l_C, l_F, l_ap, l_pf, l_mk, l_seqOf, l_seqOfT, l_seqOfL, l_ix, l_seqIt, l_en, l_tup, l_isL, l_app, l_set, l_fld, l_insC, l_putF, l_lst, l_cutT, l_cutL, l_cutR, l_cutC, l_catRR, at_0, at_1, at_2, at_3, at_last, st_0, st_1, st_2, Option.isSome_some, List.map_cons, List.map_nil, List.length_cons, List.length_nil, List.cons_append, List.nil_append, List.getElem?_cons_zero, List.getElem?_cons_succ, List.set_cons_zero, List.set_cons_succ, List.replicate_succ, List.replicate_zero, List.zip_cons_cons, List.zip_nil_left, List.zip_nil_right, List.foldl_cons, List.foldl_nil, Nat.reduceAdd, Nat.reduceSub, Nat.zero_add, if_true, if_false, Bool.false_eq_true, reduceIte, reduceCtorEq, decide_true, decide_false, decide_eq_true_eq, Bool.not_eq_eq_eq_not, Bool.not_true, Bool.not_false, decide_eq_false_iff_not, ite_not, Bool.true_and, Bool.and_true, Bool.false_and, Bool.and_false, Option.bind_some, Option.map_some, and_self, true_and, and_true, line_pos0, line_pos1, line_pos2, line_pos3, Int.reduceEq, Int.reduceLT, Int.reduceLE, Int.reduceAdd, Int.reduceSub, Int.reduceMul, Int.reduceNeg, Int.reduceToNat, Int.reduceNe, Int.reducePow, Nat.reduceLeDiff, Nat.reduceLT, Nat.reduceEqDiff]
          refine .inr ⟨_, rfl, by omega, by omega, fun p hp => hf p (by push_cast; omega), .inr ?_, by omega, by omega⟩
          rw [Int.add_sub_cancel]
          exact hq
      · rintro e _ ⟨rfl, ⟨y3, rfl⟩, hf⟩
        try simp -implicitDefEqProofs only [f_bind, f_noX, f_sSeq, f_eS, f_sIf, f_sRet, a_sRetN, f_sSet, f_sPar, f_sAsg, f_sEx, a_sNil, f_sFor, f_sFldP, f_x2, f_x2F, f_x1, f_xIf, f_xAn, f_xOo, f_xNo, f_xTru, f_xBl, f_tNo, f_tAn, f_tOo, f_xCons, f_xNil, f_xTup, f_xMk, f_xP, f_xCall, f_xCallK, f_x3, f_ch3, f_var, f_gv, f_xC, f_xComp, f_itSeq, f_itEnum, f_itR1, f_itR2, f_toInt, f_xBM, f_xCut, f_xPart, f_xNoP, f_xFld, f_prC, f_xProp, f_gNm, f_gTp, f_gCn, f_gNl, f_gSb, f_xNew, bd_ok, bd_bad, bd_exc, es_ok, es_exc, st_ok, nex_ok, sq_nx, sq_rt, sq_bk, sq_ct, sq_exc, bd_bd, es_bd, st_bd, sq_es, sq_st, sq_sq, a_ev1, a_ev2, f_truB, f_truI, f_toBl, f_add, f_sub, f_mul, f_div, f_mod, f_pow, f_neg, f_lt, f_le, f_gt, f_ge, f_int, f_abs, f_lenT, f_lenL, f_tupT, f_divmod, f_catT, f_catL, f_eqI, f_eqS, f_neS, f_isN, f_isNN, f_ixT, f_ixL, f_ofS, f_seqT, f_seqL, f_seqC, f_enT, f_enL, f_isS, f_lenC, f_sumT, f_sumL, f_sumF, f_allF, f_anyF, f_min, f_max, ho_rt, ho_nx, ho_exc, ho_ok, lp_nx, lp_ct, lp_bk, lp_rt, lp_exc, wipeE, a_pure, a_stuck, f_mkF, f_mkT, l_L, l_C, l_F, l_ap, l_pf, l_mk, l_seqOf, l_seqOfT, l_seqOfL, l_ix, l_seqIt, l_en, l_tup, l_isL, l_app, l_set, l_fld, l_insC, l_putF, l_lst, l_cutT, l_cutL, l_cutR, l_cutC, l_catRR, at_0, at_1, at_2, at_3, at_last, st_0, st_1, st_2, Option.isSome_some, List.map_cons, List.map_nil, List.length_cons, List.length_nil, List.cons_append, List.nil_append, List.getElem?_cons_zero, List.getElem?_cons_succ, List.set_cons_zero, List.set_cons_succ, List.replicate_succ, List.replicate_zero, List.zip_cons_cons, List.zip_nil_left, List.zip_nil_right, List.foldl_cons, List.foldl_nil, Nat.reduceAdd, Nat.reduceSub, Nat.zero_add, if_true, if_false, Bool.false_eq_true, reduceIte, reduceCtorEq, decide_true, decide_false, decide_eq_true_eq, Bool.not_eq_eq_eq_not, Bool.not_true, Bool.not_false, decide_eq_false_iff_not, ite_not, Bool.true_and, Bool.and_true, Bool.false_and, Bool.and_false, Option.bind_some, Option.map_some, and_self, true_and, and_true, line_pos0, line_pos1, line_pos2, line_pos3, Int.reduceEq, Int.reduceLT, Int.reduceLE, Int.reduceAdd, Int.reduceSub, Int.reduceMul, Int.reduceNeg, Int.reduceToNat, Int.reduceNe, Int.reducePow, Nat.reduceLeDiff, Nat.reduceLT, Nat.reduceEqDiff]
        exact .inr ⟨1, rfl, by omega, by omega, fun p hp => hf p (by push_cast; omega), .inl rfl, by omega, by omega⟩
theorem law_least_ok (n : Nat) {S : Sto} {u : Int} {ss : List Int} (hu : u = 100 ∨ u = 1000) (hs : ∀ z ∈ ss, 0 ≤ z ∧ z ≤ u) (hl : ss.length ≤ 6) : Ho (cal g (n + 3) 32 [.int u, .tup (ss.map D.int)] S) (OkP fun d S' => LeastP u ss d ∧ S' = S) := by
  have k1 := sums_ok (n + 1) (S := S) (u := u) (ss := ss) hl
  have m1 : ∀ z : Int, mulB 2 z = true := fun z => mulB_l (by decide)
  rw [c_law_least]; refine ho_run ?_; unfold x_law_least; simp -implicitDefEqProofs only [f_bind, f_noX, f_sSeq, f_eS, f_sIf, f_sRet, a_sRetN, f_sSet, f_sPar, f_sAsg, f_sEx, a_sNil, f_sFor, f_sFldP, f_x2, f_x2F, f_x1, f_xIf, f_xAn, f_xOo, f_xNo, f_xTru, f_xBl, f_tNo, f_tAn, f_tOo, f_xCons, f_xNil, f_xTup, f_xMk, f_xP, f_xCall, f_xCallK, f_x3, f_ch3, f_var, f_gv, f_xC, f_xComp, f_itSeq, f_itEnum, f_itR1, f_itR2, f_toInt, f_xBM, f_xCut, f_xPart, f_xNoP, f_xFld, f_prC, f_xProp, f_gNm, f_gTp, f_gCn, f_gNl, f_gSb, f_xNew, bd_ok, bd_bad, bd_exc, es_ok, es_exc, st_ok, nex_ok, sq_nx, sq_rt, sq_bk, sq_ct, sq_exc, bd_bd, es_bd, st_bd, sq_es, sq_st, sq_sq, a_ev1, a_ev2, f_truB, f_truI, f_toBl, f_add, f_sub, f_mul, f_div, f_mod, f_pow, f_neg, f_lt, f_le, f_gt, f_ge, f_int, f_abs, f_lenT, f_lenL, f_tupT, f_divmod, f_catT, f_catL, f_eqI, f_eqS, f_neS, f_isN, f_isNN, f_ixT, f_ixL, f_ofS, f_seqT, f_seqL, f_seqC, f_enT, f_enL, f_isS, f_lenC, f_sumT, f_sumL, f_sumF, f_allF, f_anyF, f_min, f_max, ho_rt, ho_nx, ho_exc, ho_ok, lp_nx, lp_ct, lp_bk, lp_rt, lp_exc, wipeE, a_pure, a_stuck, f_mkF, f_mkT, l_L, l_C, l_F, l_ap, l_pf, l_mk, l_seqOf, l_seqOfT, l_seqOfL, l_ix, l_seqIt, l_en, l_tup, l_isL, l_app, l_set, l_fld, l_insC, l_putF, l_lst, l_cutT, l_cutL, l_cutR, l_cutC, l_catRR, at_0, at_1, at_2, at_3, at_last, st_0, st_1, st_2, Option.isSome_some, List.map_cons, List.map_nil, List.length_cons, List.length_nil, List.cons_append, List.nil_append, List.getElem?_cons_zero, List.getElem?_cons_succ, List.set_cons_zero, List.set_cons_succ, List.replicate_succ, List.replicate_zero, List.zip_cons_cons, List.zip_nil_left, List.zip_nil_right, List.foldl_cons, List.foldl_nil, Nat.reduceAdd, Nat.reduceSub, Nat.zero_add, if_true, if_false, Bool.false_eq_true, reduceIte, reduceCtorEq, decide_true, decide_false, decide_eq_true_eq, Bool.not_eq_eq_eq_not, Bool.not_true, Bool.not_false, decide_eq_false_iff_not, ite_not, Bool.true_and, Bool.and_true, Bool.false_and, Bool.and_false, Option.bind_some, Option.map_some, and_self, true_and, and_true, line_pos0, line_pos1, line_pos2, line_pos3, Int.reduceEq, Int.reduceLT, Int.reduceLE, Int.reduceAdd, Int.reduceSub, Int.reduceMul, Int.reduceNeg, Int.reduceToNat, Int.reduceNe, Int.reducePow, Nat.reduceLeDiff, Nat.reduceLT, Nat.reduceEqDiff]
  try simp -implicitDefEqProofs only [f_bind, f_noX, f_sSeq, f_eS, f_sIf, f_sRet, a_sRetN, f_sSet, f_sPar, f_sAsg, f_sEx, a_sNil, f_sFor, f_sFldP, f_x2, f_x2F, f_x1, f_xIf, f_xAn, f_xOo, f_xNo, f_xTru, f_xBl, f_tNo, f_tAn, f_tOo, f_xCons, f_xNil, f_xTup, f_xMk, f_xP, f_xCall, f_xCallK, f_x3, f_ch3, f_var, f_gv, f_xC, f_xComp, f_itSeq, f_itEnum, f_itR1, f_itR2, f_toInt, f_xBM, f_xCut, f_xPart, f_xNoP, f_xFld, f_prC, f_xProp, f_gNm, f_gTp, f_gCn, f_gNl, f_gSb, f_xNew, bd_ok, bd_bad, bd_exc, es_ok, es_exc, st_ok, nex_ok, sq_nx, sq_rt, sq_bk, sq_ct, sq_exc, bd_bd, es_bd, st_bd, sq_es, sq_st, sq_sq, a_ev1, a_ev2, f_truB, f_truI, f_toBl, f_add, f_sub, f_mul, f_div, f_mod, f_pow, f_neg, f_lt, f_le, f_gt, f_ge, f_int, f_abs, f_lenT, f_lenL, f_tupT, f_divmod, f_catT, f_catL, f_eqI, f_eqS, f_neS, f_isN, f_isNN, f_ixT, f_ixL, f_ofS, f_seqT, f_seqL, f_seqC, f_enT, f_enL, f_isS, f_lenC, f_sumT, f_sumL, f_sumF, f_allF, f_anyF, f_min, f_max, ho_rt, ho_nx, ho_exc, ho_ok, lp_nx, lp_ct, lp_bk, lp_rt, lp_exc, wipeE, a_pure, a_stuck, f_mkF, f_mkT, l_L, l_C, l_F, l_ap, l_pf, l_mk, l_seqOf, l_seqOfT, l_seqOfL, l_ix, l_seqIt, l_en, l_tup, l_isL, l_app, l_set, l_fld, l_insC, l_putF, l_lst, l_cutT, l_cutL, l_cutR, l_cutC, l_catRR, at_0, at_1, at_2, at_3, at_last, st_0, st_1, st_2, Option.isSome_some, List.map_cons, List.map_nil, List.length_cons, List.length_nil, List.cons_append, List.nil_append, List.getElem?_cons_zero, List.getElem?_cons_succ, List.set_cons_zero, List.set_cons_succ, List.replicate_succ, List.replicate_zero, List.zip_cons_cons, List.zip_nil_left, List.zip_nil_right, List.foldl_cons, List.foldl_nil, Nat.reduceAdd, Nat.reduceSub, Nat.zero_add, if_true, if_false, Bool.false_eq_true, reduceIte, reduceCtorEq, decide_true, decide_false, decide_eq_true_eq, Bool.not_eq_eq_eq_not, Bool.not_true, Bool.not_false, decide_eq_false_iff_not, ite_not, Bool.true_and, Bool.and_true, Bool.false_and, Bool.and_false, Option.bind_some, Option.map_some, and_self, true_and, and_true, line_pos0, line_pos1, line_pos2, line_pos3, Int.reduceEq, Int.reduceLT, Int.reduceLE, Int.reduceAdd, Int.reduceSub, Int.reduceMul, Int.reduceNeg, Int.reduceToNat, Int.reduceNe, Int.reducePow, Nat.reduceLeDiff, Nat.reduceLT, Nat.reduceEqDiff, k1]
  by_cases h0 : 2 * u - Poll.lowS ss < 0
  · try simp -implicitDefEqProofs only [f_bind, f_noX, f_sSeq, f_eS, f_sIf, f_sRet, a_sRetN, f_sSet, f_sPar, f_sAsg, f_sEx, a_sNil, f_sFor, f_sFldP, f_x2, f_x2F, f_x1, f_xIf, f_xAn, f_xOo, f_xNo, f_xTru, f_xBl, f_tNo, f_tAn, f_tOo, f_xCons, f_xNil, f_xTup, f_xMk, f_xP, f_xCall, f_xCallK, f_x3, f_ch3, f_var, f_gv, f_xC, f_xComp, f_itSeq, f_itEnum, f_itR1, f_itR2, f_toInt, f_xBM, f_xCut, f_xPart, f_xNoP, f_xFld, f_prC, f_xProp, f_gNm, f_gTp, f_gCn, f_gNl, f_gSb, f_xNew, bd_ok, bd_bad, bd_exc, es_ok, es_exc, st_ok, nex_ok, sq_nx, sq_rt, sq_bk, sq_ct, sq_exc, bd_bd, es_bd, st_bd, sq_es, sq_st, sq_sq, a_ev1, a_ev2, f_truB, f_truI, f_toBl, f_add, f_sub, f_mul, f_div, f_mod, f_pow, f_neg, f_lt, f_le, f_gt, f_ge, f_int, f_abs, f_lenT, f_lenL, f_tupT, f_divmod, f_catT, f_catL, f_eqI, f_eqS, f_neS, f_isN, f_isNN, f_ixT, f_ixL, f_ofS, f_seqT, f_seqL, f_seqC, f_enT, f_enL, f_isS, f_lenC, f_sumT, f_sumL, f_sumF, f_allF, f_anyF, f_min, f_max, ho_rt, ho_nx, ho_exc, ho_ok, lp_nx, lp_ct, lp_bk, lp_rt, lp_exc, wipeE, a_pure, a_stuck, f_mkF, f_mkT, l_L, l_C, l_F, l_ap, l_pf, l_mk, l_seqOf, l_seqOfT, l_seqOfL, l_ix, l_seqIt, l_en, l_tup, l_isL, l_app, l_set, l_fld, l_insC, l_putF, l_lst, l_cutT, l_cutL, l_cutR, l_cutC, l_catRR, at_0, at_1, at_2, at_3, at_last, st_0, st_1, st_2, Option.isSome_some, List.map_cons, List.map_nil, List.length_cons, List.length_nil, List.cons_append, List.nil_append, List.getElem?_cons_zero, List.getElem?_cons_succ, List.set_cons_zero, List.set_cons_succ, List.replicate_succ, List.replicate_zero, List.zip_cons_cons, List.zip_nil_left, List.zip_nil_right, List.foldl_cons, List.foldl_nil, Nat.reduceAdd, Nat.reduceSub, Nat.zero_add, if_true, if_false, Bool.false_eq_true, reduceIte, reduceCtorEq, decide_true, decide_false, decide_eq_true_eq, Bool.not_eq_eq_eq_not, Bool.not_true, Bool.not_false, decide_eq_false_iff_not, ite_not, Bool.true_and, Bool.and_true, Bool.false_and, Bool.and_false, Option.bind_some, Option.map_some, and_self, true_and, and_true, line_pos0, line_pos1, line_pos2, line_pos3, Int.reduceEq, Int.reduceLT, Int.reduceLE, Int.reduceAdd, Int.reduceSub, Int.reduceMul, Int.reduceNeg, Int.reduceToNat, Int.reduceNe, Int.reducePow, Nat.reduceLeDiff, Nat.reduceLT, Nat.reduceEqDiff, h0]
    exact .inl ⟨rfl, .inl (by omega)⟩
  · by_cases h1 : Poll.topS ss - 2 * u ≤ 0
    · try simp -implicitDefEqProofs only [f_bind, f_noX, f_sSeq, f_eS, f_sIf, f_sRet, a_sRetN, f_sSet, f_sPar, f_sAsg, f_sEx, a_sNil, f_sFor, f_sFldP, f_x2, f_x2F, f_x1, f_xIf, f_xAn, f_xOo, f_xNo, f_xTru, f_xBl, f_tNo, f_tAn, f_tOo, f_xCons, f_xNil, f_xTup, f_xMk, f_xP, f_xCall, f_xCallK, f_x3, f_ch3, f_var, f_gv, f_xC, f_xComp, f_itSeq, f_itEnum, f_itR1, f_itR2, f_toInt, f_xBM, f_xCut, f_xPart, f_xNoP, f_xFld, f_prC, f_xProp, f_gNm, f_gTp, f_gCn, f_gNl, f_gSb, f_xNew, bd_ok, bd_bad, bd_exc, es_ok, es_exc, st_ok, nex_ok, sq_nx, sq_rt, sq_bk, sq_ct, sq_exc, bd_bd, es_bd, st_bd, sq_es, sq_st, sq_sq, a_ev1, a_ev2, f_truB, f_truI, f_toBl, f_add, f_sub, f_mul, f_div, f_mod, f_pow, f_neg, f_lt, f_le, f_gt, f_ge, f_int, f_abs, f_lenT, f_lenL, f_tupT, f_divmod, f_catT, f_catL, f_eqI, f_eqS, f_neS, f_isN, f_isNN, f_ixT, f_ixL, f_ofS, f_seqT, f_seqL, f_seqC, f_enT, f_enL, f_isS, f_lenC, f_sumT, f_sumL, f_sumF, f_allF, f_anyF, f_min, f_max, ho_rt, ho_nx, ho_exc, ho_ok, lp_nx, lp_ct, lp_bk, lp_rt, lp_exc, wipeE, a_pure, a_stuck, f_mkF, f_mkT, l_L, l_C, l_F, l_ap, l_pf, l_mk, l_seqOf, l_seqOfT, l_seqOfL, l_ix, l_seqIt, l_en, l_tup, l_isL, l_app, l_set, l_fld, l_insC, l_putF, l_lst, l_cutT, l_cutL, l_cutR, l_cutC, l_catRR, at_0, at_1, at_2, at_3, at_last, st_0, st_1, st_2, Option.isSome_some, List.map_cons, List.map_nil, List.length_cons, List.length_nil, List.cons_append, List.nil_append, List.getElem?_cons_zero, List.getElem?_cons_succ, List.set_cons_zero, List.set_cons_succ, List.replicate_succ, List.replicate_zero, List.zip_cons_cons, List.zip_nil_left, List.zip_nil_right, List.foldl_cons, List.foldl_nil, Nat.reduceAdd, Nat.reduceSub, Nat.zero_add, if_true, if_false, Bool.false_eq_true, reduceIte, reduceCtorEq, decide_true, decide_false, decide_eq_true_eq, Bool.not_eq_eq_eq_not, Bool.not_true, Bool.not_false, decide_eq_false_iff_not, ite_not, Bool.true_and, Bool.and_true, Bool.false_and, Bool.and_false, Option.bind_some, Option.map_some, and_self, true_and, and_true, line_pos0, line_pos1, line_pos2, line_pos3, Int.reduceEq, Int.reduceLT, Int.reduceLE, Int.reduceAdd, Int.reduceSub, Int.reduceMul, Int.reduceNeg, Int.reduceToNat, Int.reduceNe, Int.reducePow, Nat.reduceLeDiff, Nat.reduceLT, Nat.reduceEqDiff, h0, h1]
      exact .inl ⟨rfl, .inr (by omega)⟩
    · obtain ⟨m, k4, m2, m3, hm⟩ := law_far_ok n (S := S) hu hs hl (by omega) (by omega)
      obtain ⟨q, q1, q2, q3⟩ : ∃ q : Int, 1 ≤ q ∧ q ≤ max (2 * u) m ∧ Fit u ss q = true := by
        by_cases hz : Poll.lowS ss = 2 * u
        · exact ⟨2 * u, by omega, by omega, fit_two hu hs hz⟩
        · have hm := hm (by omega)
          exact ⟨Poll.far u ss, by omega, by omega, fit_far hu hs hl (by omega) (by omega) (Int.le_refl _)⟩
      have i1 : i62 (max (2 * u) m + 1) = true := i62_le (by omega)
      have i2 : i62 1 = true := by decide
      try simp -implicitDefEqProofs only [f_bind, f_noX, f_sSeq, f_eS, f_sIf, f_sRet, a_sRetN, f_sSet, f_sPar, f_sAsg, f_sEx, a_sNil, f_sFor, f_sFldP, f_x2, f_x2F, f_x1, f_xIf, f_xAn, f_xOo, f_xNo, f_xTru, f_xBl, f_tNo, f_tAn, f_tOo, f_xCons, f_xNil, f_xTup, f_xMk, f_xP, f_xCall, f_xCallK, f_x3, f_ch3, f_var, f_gv, f_xC, f_xComp, f_itSeq, f_itEnum, f_itR1, f_itR2, f_toInt, f_xBM, f_xCut, f_xPart, f_xNoP, f_xFld, f_prC, f_xProp, f_gNm, f_gTp, f_gCn, f_gNl, f_gSb, f_xNew, bd_ok, bd_bad, bd_exc, es_ok, es_exc, st_ok, nex_ok, sq_nx, sq_rt, sq_bk, sq_ct, sq_exc, bd_bd, es_bd, st_bd, sq_es, sq_st, sq_sq, a_ev1, a_ev2, f_truB, f_truI, f_toBl, f_add, f_sub, f_mul, f_div, f_mod, f_pow, f_neg, f_lt, f_le, f_gt, f_ge, f_int, f_abs, f_lenT, f_lenL, f_tupT, f_divmod, f_catT, f_catL, f_eqI, f_eqS, f_neS, f_isN, f_isNN, f_ixT, f_ixL, f_ofS, f_seqT, f_seqL, f_seqC, f_enT, f_enL, f_isS, f_lenC, f_sumT, f_sumL, f_sumF, f_allF, f_anyF, f_min, f_max, ho_rt, ho_nx, ho_exc, ho_ok, lp_nx, lp_ct, lp_bk, lp_rt, lp_exc, wipeE, a_pure, a_stuck, f_mkF, f_mkT, l_L, l_C, l_F, l_ap, l_pf, l_mk, l_seqOf, l_seqOfT, l_seqOfL, l_ix, l_seqIt, l_en, l_tup, l_isL, l_app, l_set, l_fld, l_insC, l_putF, l_lst, l_cutT, l_cutL, l_cutR, l_cutC, l_catRR, at_0, at_1, at_2, at_3, at_last, st_0, st_1, st_2, Option.isSome_some, List.map_cons, List.map_nil, List.length_cons, List.length_nil, List.cons_append, List.nil_append, List.getElem?_cons_zero, List.getElem?_cons_succ, List.set_cons_zero, List.set_cons_succ, List.replicate_succ, List.replicate_zero, List.zip_cons_cons, List.zip_nil_left, List.zip_nil_right, List.foldl_cons, List.foldl_nil, Nat.reduceAdd, Nat.reduceSub, Nat.zero_add, if_true, if_false, Bool.false_eq_true, reduceIte, reduceCtorEq, decide_true, decide_false, decide_eq_true_eq, Bool.not_eq_eq_eq_not, Bool.not_true, Bool.not_false, decide_eq_false_iff_not, ite_not, Bool.true_and, Bool.and_true, Bool.false_and, Bool.and_false, Option.bind_some, Option.map_some, and_self, true_and, and_true, line_pos0, line_pos1, line_pos2, line_pos3, Int.reduceEq, Int.reduceLT, Int.reduceLE, Int.reduceAdd, Int.reduceSub, Int.reduceMul, Int.reduceNeg, Int.reduceToNat, Int.reduceNe, Int.reducePow, Nat.reduceLeDiff, Nat.reduceLT, Nat.reduceEqDiff, h0, h1, k4, m1, i1, i2]
      refine for_rngA (fun i e S' => S' = S ∧ (∃ y3, e = [some (.int u), some (.tup (ss.map D.int)), some (.tmp [.int (2 * u - Poll.lowS ss), .int (Poll.topS ss - 2 * u)]), y3]) ∧ ∀ p : Int, 1 ≤ p → p < 1 + (i : Int) → Fit u ss p = false) ⟨rfl, ⟨_, rfl⟩, fun p a b => by omega⟩ ?_ ?_
      · rintro i e _ hi ⟨rfl, ⟨y3, rfl⟩, hf⟩
        have k5 := fun S => fits_ok (n + 1) (S := S) (u := u) (ss := ss) (p := 1 + (i : Int)) hu hs (by omega)
        try simp -implicitDefEqProofs only [f_bind, f_noX, f_sSeq, f_eS, f_sIf, f_sRet, a_sRetN, f_sSet, f_sPar, f_sAsg, f_sEx, a_sNil, f_sFor, f_sFldP, f_x2, f_x2F, f_x1, f_xIf, f_xAn, f_xOo, f_xNo, f_xTru, f_xBl, f_tNo, f_tAn, f_tOo, f_xCons, f_xNil, f_xTup, f_xMk, f_xP, f_xCall, f_xCallK, f_x3, f_ch3, f_var, f_gv, f_xC, f_xComp, f_itSeq, f_itEnum, f_itR1, f_itR2, f_toInt, f_xBM, f_xCut, f_xPart, f_xNoP, f_xFld, f_prC, f_xProp, f_gNm, f_gTp, f_gCn, f_gNl, f_gSb, f_xNew, bd_ok, bd_bad, bd_exc, es_ok, es_exc, st_ok, nex_ok, sq_nx, sq_rt, sq_bk, sq_ct, sq_exc, bd_bd, es_bd, st_bd, sq_es, sq_st, sq_sq, a_ev1, a_ev2, f_truB, f_truI, f_toBl, f_add, f_sub, f_mul, f_div, f_mod, f_pow, f_neg, f_lt, f_le, f_gt, f_ge, f_int, f_abs, f_lenT, f_lenL, f_tupT, f_divmod, f_catT, f_catL, f_eqI, f_eqS, f_neS, f_isN, f_isNN, f_ixT, f_ixL, f_ofS, f_seqT, f_seqL, f_seqC, f_enT, f_enL, f_isS, f_lenC, f_sumT, f_sumL, f_sumF, f_allF, f_anyF, f_min, f_max, ho_rt, ho_nx, ho_exc, ho_ok, lp_nx, lp_ct, lp_bk, lp_rt, lp_exc, wipeE, a_pure, a_stuck, f_mkF, f_mkT, l_L, l_C, l_F, l_ap, l_pf, l_mk, l_seqOf, l_seqOfT, l_seqOfL, l_ix, l_seqIt, l_en, l_tup, l_isL, l_app, l_set, l_fld, l_insC, l_putF, l_lst, l_cutT, l_cutL, l_cutR, l_cutC, l_catRR, at_0, at_1, at_2, at_3, at_last, st_0, st_1, st_2, Option.isSome_some, List.map_cons, List.map_nil, List.length_cons, List.length_nil, List.cons_append, List.nil_append, List.getElem?_cons_zero, List.getElem?_cons_succ, List.set_cons_zero, List.set_cons_succ, List.replicate_succ, List.replicate_zero, List.zip_cons_cons, List.zip_nil_left, List.zip_nil_right, List.foldl_cons, List.foldl_nil, Nat.reduceAdd, Nat.reduceSub, Nat.zero_add, if_true, if_false, Bool.false_eq_true, reduceIte, reduceCtorEq, decide_true, decide_false, decide_eq_true_eq, Bool.not_eq_eq_eq_not, Bool.not_true, Bool.not_false, decide_eq_false_iff_not, ite_not, Bool.true_and, Bool.and_true, Bool.false_and, Bool.and_false, Option.bind_some, Option.map_some, and_self, true_and, and_true, line_pos0, line_pos1, line_pos2, line_pos3, Int.reduceEq, Int.reduceLT, Int.reduceLE, Int.reduceAdd, Int.reduceSub, Int.reduceMul, Int.reduceNeg, Int.reduceToNat, Int.reduceNe, Int.reducePow, Nat.reduceLeDiff, Nat.reduceLT, Nat.reduceEqDiff, k5]
        cases hq : Fit u ss (1 + (i : Int)) with
        | true =>
          try simp -implicitDefEqProofs only [f_bind, f_noX, f_sSeq, f_eS, f_sIf, f_sRet, a_sRetN, f_sSet, f_sPar, f_sAsg, f_sEx, a_sNil, f_sFor, f_sFldP, f_x2, f_x2F, f_x1, f_xIf, f_xAn, f_xOo, f_xNo, f_xTru, f_xBl, f_tNo, f_tAn, f_tOo, f_xCons, f_xNil, f_xTup, f_xMk, f_xP, f_xCall, f_xCallK, f_x3, f_ch3, f_var, f_gv, f_xC, f_xComp, f_itSeq, f_itEnum, f_itR1, f_itR2, f_toInt, f_xBM, f_xCut, f_xPart, f_xNoP, f_xFld, f_prC, f_xProp, f_gNm, f_gTp, f_gCn, f_gNl, f_gSb, f_xNew, bd_ok, bd_bad, bd_exc, es_ok, es_exc, st_ok, nex_ok, sq_nx, sq_rt, sq_bk, sq_ct, sq_exc, bd_bd, es_bd, st_bd, sq_es, sq_st, sq_sq, a_ev1, a_ev2, f_truB, f_truI, f_toBl, f_add, f_sub, f_mul, f_div, f_mod, f_pow, f_neg, f_lt, f_le, f_gt, f_ge, f_int, f_abs, f_lenT, f_lenL, f_tupT, f_divmod, f_catT, f_catL, f_eqI, f_eqS, f_neS, f_isN, f_isNN, f_ixT, f_ixL, f_ofS, f_seqT, f_seqL, f_seqC, f_enT, f_enL, f_isS, f_lenC, f_sumT, f_sumL, f_sumF, f_allF, f_anyF, f_min, f_max, ho_rt, ho_nx, ho_exc, ho_ok, lp_nx, lp_ct, lp_bk, lp_rt, lp_exc, wipeE, a_pure, a_stuck, f_mkF, f_mkT, l_L, l_C, l_F, l_ap, l_pf, l_mk, l_seqOf, l_seqOfT, l_seqOfL, l_ix, l_seqIt, l_en, l_tup, l_isL, l_app, l_set, l_fld, l_insC, l_putF, l_lst, l_cutT, l_cutL, l_cutR, l_cutC, l_catRR, at_0, at_1, at_2, at_3, at_last, st_0, st_1, st_2, Option.isSome_some, List.map_cons, List.map_nil, List.length_cons, List.length_nil, List.cons_append, List.nil_append, List.getElem?_cons_zero, List.getElem?_cons_succ, List.set_cons_zero, List.set_cons_succ, List.replicate_succ, List.replicate_zero, List.zip_cons_cons, List.zip_nil_left, List.zip_nil_right, List.foldl_cons, List.foldl_nil, Nat.reduceAdd, Nat.reduceSub, Nat.zero_add, if_true, if_false, Bool.false_eq_true, reduceIte, reduceCtorEq, decide_true, decide_false, decide_eq_true_eq, Bool.not_eq_eq_eq_not, Bool.not_true, Bool.not_false, decide_eq_false_iff_not, ite_not, Bool.true_and, Bool.and_true, Bool.false_and, Bool.and_false, Option.bind_some, Option.map_some, and_self, true_and, and_true, line_pos0, line_pos1, line_pos2, line_pos3, Int.reduceEq, Int.reduceLT, Int.reduceLE, Int.reduceAdd, Int.reduceSub, Int.reduceMul, Int.reduceNeg, Int.reduceToNat, Int.reduceNe, Int.reducePow, Nat.reduceLeDiff, Nat.reduceLT, Nat.reduceEqDiff]
          exact .inr ⟨_, rfl, by omega, by omega, hq, hf, by omega, by omega⟩
        | false =>
          try simp -implicitDefEqProofs only [f_bind, f_noX, f_sSeq, f_eS, f_sIf, f_sRet, a_sRetN, f_sSet, f_sPar, f_sAsg, f_sEx, a_sNil, f_sFor, f_sFldP, f_x2, f_x2F, f_x1, f_xIf, f_xAn, f_xOo, f_xNo, f_xTru, f_xBl, f_tNo, f_tAn, f_tOo, f_xCons, f_xNil, f_xTup, f_xMk, f_xP, f_xCall, f_xCallK, f_x3, f_ch3, f_var, f_gv, f_xC, f_xComp, f_itSeq, f_itEnum, f_itR1, f_itR2, f_toInt, f_xBM, f_xCut, f_xPart, f_xNoP, f_xFld, f_prC, f_xProp, f_gNm, f_gTp, f_gCn, f_gNl, f_gSb, f_xNew, bd_ok, bd_bad, bd_exc, es_ok, es_exc, st_ok, nex_ok, sq_nx, sq_rt, sq_bk, sq_ct, sq_exc, bd_bd, es_bd, st_bd, sq_es, sq_st, sq_sq, a_ev1, a_ev2, f_truB, f_truI, f_toBl, f_add, f_sub, f_mul, f_div, f_mod, f_pow, f_neg, f_lt, f_le, f_gt, f_ge, f_int, f_abs, f_lenT, f_lenL, f_tupT, f_divmod, f_catT, f_catL, f_eqI, f_eqS, f_neS, f_isN, f_isNN, f_ixT, f_ixL, f_ofS, f_seqT, f_seqL, f_seqC, f_enT, f_enL, f_isS, f_lenC, f_sumT, f_sumL, f_sumF, f_allF, f_anyF, f_min, f_max, ho_rt, ho_nx, ho_exc, ho_ok, lp_nx, lp_ct, lp_bk, lp_rt, lp_exc, wipeE, a_pure, a_stuck, f_mkF, f_mkT, l_L, l_C, l_F, l_ap, l_pf, l_mk, l_seqOf, l_seqOfT, l_seqOfL, l_ix, l_seqIt, l_en, l_tup, l_isL, l_app, l_set, l_fld, l_insC, l_putF, l_lst, l_cutT, l_cutL, l_cutR, l_cutC, l_catRR, at_0, at_1, at_2, at_3, at_last, st_0, st_1, st_2, Option.isSome_some, List.map_cons, List.map_nil, List.length_cons, List.length_nil, List.cons_append, List.nil_append, List.getElem?_cons_zero, List.getElem?_cons_succ, List.set_cons_zero, List.set_cons_succ, List.replicate_succ, List.replicate_zero, List.zip_cons_cons, List.zip_nil_left, List.zip_nil_right, List.foldl_cons, List.foldl_nil, Nat.reduceAdd, Nat.reduceSub, Nat.zero_add, if_true, if_false, Bool.false_eq_true, reduceIte, reduceCtorEq, decide_true, decide_false, decide_eq_true_eq, Bool.not_eq_eq_eq_not, Bool.not_true, Bool.not_false, decide_eq_false_iff_not, ite_not, Bool.true_and, Bool.and_true, Bool.false_and, Bool.and_false, Option.bind_some, Option.map_some, and_self, true_and, and_true, line_pos0, line_pos1, line_pos2, line_pos3, Int.reduceEq, Int.reduceLT, Int.reduceLE, Int.reduceAdd, Int.reduceSub, Int.reduceMul, Int.reduceNeg, Int.reduceToNat, Int.reduceNe, Int.reducePow, Nat.reduceLeDiff, Nat.reduceLT, Nat.reduceEqDiff]
          refine ⟨⟨_, rfl⟩, fun p a b => ?_⟩
          by_cases e : p = 1 + (i : Int)
          · rw [e]; exact hq
          · exact hf p a (by push_cast at b; omega)
      · rintro e _ ⟨rfl, ⟨y3, rfl⟩, hf⟩
        have := hf q q1 (by omega)
        rw [q3] at this
        cases this
end K69

set_option Elab.async false
set_option linter.all false
set_option maxRecDepth 100000
set_option maxHeartbeats 1000000
namespace Dn
open PySem PySem.Spec PyProof.Rows L2
/-- the source of draws -/
def Well (S : Sto) (w : Nat) : Prop := ∃ a b c : Int, S[w]? = some (.lst [.int a, .int b, .int c])
theorem Well.lt {S : Sto} {w : Nat} (h : Well S w) : w < S.length := by obtain ⟨a, b, c, h⟩ := h; exact get_lt h
theorem Well.app {S : Sto} {w : Nat} (h : Well S w) (X : Sto) : Well (S ++ X) w := by obtain ⟨a, b, c, h⟩ := h; exact ⟨a, b, c, get_app h⟩
theorem Well.ne {S : Sto} {w j : Nat} {o : O} (h : Well S w) (hj : j ≠ w) : Well (S.set j o) w := by obtain ⟨a, b, c, h⟩ := h; exact ⟨a, b, c, get_ne h hj⟩
/-- what a draw gives -/
def Dr (w : Nat) (top : Int) (S : Sto) : D → Sto → Prop := fun d S' => ∃ r : Int, d = .int r ∧ 0 ≤ r ∧ r < top ∧ Well S' w ∧ Fr w S S'
theorem fmod_rng {i j : Int} (h : 0 < j) : 0 ≤ i.fmod j ∧ i.fmod j < j := by
  rw [Int.fmod_eq_emod_of_nonneg _ (by omega)]
  exact ⟨Int.emod_nonneg _ (by omega), Int.emod_lt_of_pos _ h⟩
theorem log_wide {j : Int} (h : j.natAbs < 2 ^ 200) : j.natAbs.log2 < 9000 := by
  by_cases h1 : j.natAbs = 0
  · rw [h1]; decide
  · have := (Nat.log2_lt h1 (k := 200)).mpr h
    omega
end Dn
namespace K69
open PySem PySem.Spec PyProof.Rows L2 Dn
theorem draw_ok (n : Nat) {S : Sto} {w : Nat} {top : Int} (h : Well S w) (ht : 0 < top) (hb : top.natAbs < 2 ^ 200) : Ho (cal g (n + 1) 24 [.ref w, .int top] S) (OkP (Dr w top S)) := by
  obtain ⟨a, b, c, h⟩ := h
  have g2 := get_set (u := .lst [.int a, .int b, .int (c + 1)]) h
  have r1 := fmod_rng (i := b) (j := 27011) (by decide)
  have m1 : mulB b (b.fmod 27011 + 8009) = true := mulB_r (by omega)
  have m2 : mulB 10211 (c + 1) = true := mulB_l (by decide)
  have d1 : divB 97 = true := by decide
  have hl := log_wide hb
  have ht0 : ¬ top = 0 := by omega
  rw [c_law_draw]; refine ho_run ?_; unfold x_law_draw; simp -implicitDefEqProofs only [f_bind, f_noX, f_sSeq, f_eS, f_sIf, f_sRet, a_sRetN, f_sSet, f_sPar, f_sAsg, f_sEx, a_sNil, f_sFor, f_sFldP, f_x2, f_x2F, f_x1, f_xIf, f_xAn, f_xOo, f_xNo, f_xTru, f_xBl, f_tNo, f_tAn, f_tOo, f_xCons, f_xNil, f_xTup, f_xMk, f_xP, f_xCall, f_xCallK, f_x3, f_ch3, f_var, f_gv, f_xC, f_xComp, f_itSeq, f_itEnum, f_itR1, f_itR2, f_toInt, f_xBM, f_xCut, f_xPart, f_xNoP, f_xFld, f_prC, f_xProp, f_gNm, f_gTp, f_gCn, f_gNl, f_gSb, f_xNew, bd_ok, bd_bad, bd_exc, es_ok, es_exc, st_ok, nex_ok, sq_nx, sq_rt, sq_bk, sq_ct, sq_exc, bd_bd, es_bd, st_bd, sq_es, sq_st, sq_sq, a_ev1, a_ev2, f_truB, f_truI, f_toBl, f_add, f_sub, f_mul, f_div, f_mod, f_pow, f_neg, f_lt, f_le, f_gt, f_ge, f_int, f_abs, f_lenT, f_lenL, f_tupT, f_divmod, f_catT, f_catL, f_eqI, f_eqS, f_neS, f_isN, f_isNN, f_ixT, f_ixL, f_ofS, f_seqT, f_seqL, f_seqC, f_enT, f_enL, f_isS, f_lenC, f_sumT, f_sumL, f_sumF, f_allF, f_anyF, f_min, f_max, ho_rt, ho_nx, ho_exc, ho_ok, lp_nx, lp_ct, lp_bk, lp_rt, lp_exc, wipeE, a_pure, a_stuck, f_mkF, f_mkT, l_L, l_C, l_F, l_ap, l_pf, l_mk, l_seqOf, l_seqOfT, l_seqOfL, l_ix, l_seqIt, l_en, l_tup, l_isL, l_app, l_set, l_fld, l_insC, l_putF, l_lst, l_cutT, l_cutL, l_cutR, l_cutC, l_catRR, at_0, at_1, at_2, at_3, at_last, st_0, st_1, st_2, Option.isSome_some, List.map_cons, List.map_nil, List.length_cons, List.length_nil, List.cons_append, List.nil_append, List.getElem?_cons_zero, List.getElem?_cons_succ, List.set_cons_zero, List.set_cons_succ, List.replicate_succ, List.replicate_zero, List.zip_cons_cons, List.zip_nil_left, List.zip_nil_right, List.foldl_cons, List.foldl_nil, Nat.reduceAdd, Nat.reduceSub, Nat.zero_add, if_true, if_false, Bool.false_eq_true, reduceIte, reduceCtorEq, decide_true, decide_false, decide_eq_true_eq, Bool.not_eq_eq_eq_not, Bool.not_true, Bool.not_false, decide_eq_false_iff_not, ite_not, Bool.true_and, Bool.and_true, Bool.false_and, Bool.and_false, Option.bind_some, Option.map_some, and_self, true_and, and_true, line_pos0, line_pos1, line_pos2, line_pos3, Int.reduceEq, Int.reduceLT, Int.reduceLE, Int.reduceAdd, Int.reduceSub, Int.reduceMul, Int.reduceNeg, Int.reduceToNat, Int.reduceNe, Int.reducePow, Nat.reduceLeDiff, Nat.reduceLT, Nat.reduceEqDiff]
  have hm : ¬ (2147483423 : Int) = 0 := by decide
  have hm2 : ¬ (27011 : Int) = 0 := by decide
  try simp -implicitDefEqProofs only [f_bind, f_noX, f_sSeq, f_eS, f_sIf, f_sRet, a_sRetN, f_sSet, f_sPar, f_sAsg, f_sEx, a_sNil, f_sFor, f_sFldP, f_x2, f_x2F, f_x1, f_xIf, f_xAn, f_xOo, f_xNo, f_xTru, f_xBl, f_tNo, f_tAn, f_tOo, f_xCons, f_xNil, f_xTup, f_xMk, f_xP, f_xCall, f_xCallK, f_x3, f_ch3, f_var, f_gv, f_xC, f_xComp, f_itSeq, f_itEnum, f_itR1, f_itR2, f_toInt, f_xBM, f_xCut, f_xPart, f_xNoP, f_xFld, f_prC, f_xProp, f_gNm, f_gTp, f_gCn, f_gNl, f_gSb, f_xNew, bd_ok, bd_bad, bd_exc, es_ok, es_exc, st_ok, nex_ok, sq_nx, sq_rt, sq_bk, sq_ct, sq_exc, bd_bd, es_bd, st_bd, sq_es, sq_st, sq_sq, a_ev1, a_ev2, f_truB, f_truI, f_toBl, f_add, f_sub, f_mul, f_div, f_mod, f_pow, f_neg, f_lt, f_le, f_gt, f_ge, f_int, f_abs, f_lenT, f_lenL, f_tupT, f_divmod, f_catT, f_catL, f_eqI, f_eqS, f_neS, f_isN, f_isNN, f_ixT, f_ixL, f_ofS, f_seqT, f_seqL, f_seqC, f_enT, f_enL, f_isS, f_lenC, f_sumT, f_sumL, f_sumF, f_allF, f_anyF, f_min, f_max, ho_rt, ho_nx, ho_exc, ho_ok, lp_nx, lp_ct, lp_bk, lp_rt, lp_exc, wipeE, a_pure, a_stuck, f_mkF, f_mkT, l_L, l_C, l_F, l_ap, l_pf, l_mk, l_seqOf, l_seqOfT, l_seqOfL, l_ix, l_seqIt, l_en, l_tup, l_isL, l_app, l_set, l_fld, l_insC, l_putF, l_lst, l_cutT, l_cutL, l_cutR, l_cutC, l_catRR, at_0, at_1, at_2, at_3, at_last, st_0, st_1, st_2, Option.isSome_some, List.map_cons, List.map_nil, List.length_cons, List.length_nil, List.cons_append, List.nil_append, List.getElem?_cons_zero, List.getElem?_cons_succ, List.set_cons_zero, List.set_cons_succ, List.replicate_succ, List.replicate_zero, List.zip_cons_cons, List.zip_nil_left, List.zip_nil_right, List.foldl_cons, List.foldl_nil, Nat.reduceAdd, Nat.reduceSub, Nat.zero_add, if_true, if_false, Bool.false_eq_true, reduceIte, reduceCtorEq, decide_true, decide_false, decide_eq_true_eq, Bool.not_eq_eq_eq_not, Bool.not_true, Bool.not_false, decide_eq_false_iff_not, ite_not, Bool.true_and, Bool.and_true, Bool.false_and, Bool.and_false, Option.bind_some, Option.map_some, and_self, true_and, and_true, line_pos0, line_pos1, line_pos2, line_pos3, Int.reduceEq, Int.reduceLT, Int.reduceLE, Int.reduceAdd, Int.reduceSub, Int.reduceMul, Int.reduceNeg, Int.reduceToNat, Int.reduceNe, Int.reducePow, Nat.reduceLeDiff, Nat.reduceLT, Nat.reduceEqDiff, h, g2, m1, m2, hm, hm2, ne_eq]
  generalize hx : (Int.fmod (b * (b.fmod 27011 + 8009) + 10211 * (c + 1) + 41) 2147483423) = x
  have g3 := get_set (u := .lst [.int a, .int x, .int (c + 1)]) g2
  have f3 : Fr w S ((S.set w (.lst [.int a, .int b, .int (c + 1)])).set w (.lst [.int a, .int x, .int (c + 1)])) := (Fr.set w S _).trans (Fr.set w _ _)
  try simp -implicitDefEqProofs only [f_bind, f_noX, f_sSeq, f_eS, f_sIf, f_sRet, a_sRetN, f_sSet, f_sPar, f_sAsg, f_sEx, a_sNil, f_sFor, f_sFldP, f_x2, f_x2F, f_x1, f_xIf, f_xAn, f_xOo, f_xNo, f_xTru, f_xBl, f_tNo, f_tAn, f_tOo, f_xCons, f_xNil, f_xTup, f_xMk, f_xP, f_xCall, f_xCallK, f_x3, f_ch3, f_var, f_gv, f_xC, f_xComp, f_itSeq, f_itEnum, f_itR1, f_itR2, f_toInt, f_xBM, f_xCut, f_xPart, f_xNoP, f_xFld, f_prC, f_xProp, f_gNm, f_gTp, f_gCn, f_gNl, f_gSb, f_xNew, bd_ok, bd_bad, bd_exc, es_ok, es_exc, st_ok, nex_ok, sq_nx, sq_rt, sq_bk, sq_ct, sq_exc, bd_bd, es_bd, st_bd, sq_es, sq_st, sq_sq, a_ev1, a_ev2, f_truB, f_truI, f_toBl, f_add, f_sub, f_mul, f_div, f_mod, f_pow, f_neg, f_lt, f_le, f_gt, f_ge, f_int, f_abs, f_lenT, f_lenL, f_tupT, f_divmod, f_catT, f_catL, f_eqI, f_eqS, f_neS, f_isN, f_isNN, f_ixT, f_ixL, f_ofS, f_seqT, f_seqL, f_seqC, f_enT, f_enL, f_isS, f_lenC, f_sumT, f_sumL, f_sumF, f_allF, f_anyF, f_min, f_max, ho_rt, ho_nx, ho_exc, ho_ok, lp_nx, lp_ct, lp_bk, lp_rt, lp_exc, wipeE, a_pure, a_stuck, f_mkF, f_mkT, l_L, l_C, l_F, l_ap, l_pf, l_mk, l_seqOf, l_seqOfT, l_seqOfL, l_ix, l_seqIt, l_en, l_tup, l_isL, l_app, l_set, l_fld, l_insC, l_putF, l_lst, l_cutT, l_cutL, l_cutR, l_cutC, l_catRR, at_0, at_1, at_2, at_3, at_last, st_0, st_1, st_2, Option.isSome_some, List.map_cons, List.map_nil, List.length_cons, List.length_nil, List.cons_append, List.nil_append, List.getElem?_cons_zero, List.getElem?_cons_succ, List.set_cons_zero, List.set_cons_succ, List.replicate_succ, List.replicate_zero, List.zip_cons_cons, List.zip_nil_left, List.zip_nil_right, List.foldl_cons, List.foldl_nil, Nat.reduceAdd, Nat.reduceSub, Nat.zero_add, if_true, if_false, Bool.false_eq_true, reduceIte, reduceCtorEq, decide_true, decide_false, decide_eq_true_eq, Bool.not_eq_eq_eq_not, Bool.not_true, Bool.not_false, decide_eq_false_iff_not, ite_not, Bool.true_and, Bool.and_true, Bool.false_and, Bool.and_false, Option.bind_some, Option.map_some, and_self, true_and, and_true, line_pos0, line_pos1, line_pos2, line_pos3, Int.reduceEq, Int.reduceLT, Int.reduceLE, Int.reduceAdd, Int.reduceSub, Int.reduceMul, Int.reduceNeg, Int.reduceToNat, Int.reduceNe, Int.reducePow, Nat.reduceLeDiff, Nat.reduceLT, Nat.reduceEqDiff, g3]
  first | refine if_ho (fun h0 => ?_) (fun h0 => ?_) | refine if_sq (fun h0 => ?_) (fun h0 => ?_) | refine if_bd (fun h0 => ?_) (fun h0 => ?_) | refine if_es (fun h0 => ?_) (fun h0 => ?_) | refine if_st (fun h0 => ?_) (fun h0 => ?_)
  · try simp -implicitDefEqProofs only [f_bind, f_noX, f_sSeq, f_eS, f_sIf, f_sRet, a_sRetN, f_sSet, f_sPar, f_sAsg, f_sEx, a_sNil, f_sFor, f_sFldP, f_x2, f_x2F, f_x1, f_xIf, f_xAn, f_xOo, f_xNo, f_xTru, f_xBl, f_tNo, f_tAn, f_tOo, f_xCons, f_xNil, f_xTup, f_xMk, f_xP, f_xCall, f_xCallK, f_x3, f_ch3, f_var, f_gv, f_xC, f_xComp, f_itSeq, f_itEnum, f_itR1, f_itR2, f_toInt, f_xBM, f_xCut, f_xPart, f_xNoP, f_xFld, f_prC, f_xProp, f_gNm, f_gTp, f_gCn, f_gNl, f_gSb, f_xNew, bd_ok, bd_bad, bd_exc, es_ok, es_exc, st_ok, nex_ok, sq_nx, sq_rt, sq_bk, sq_ct, sq_exc, bd_bd, es_bd, st_bd, sq_es, sq_st, sq_sq, a_ev1, a_ev2, f_truB, f_truI, f_toBl, f_add, f_sub, f_mul, f_div, f_mod, f_pow, f_neg, f_lt, f_le, f_gt, f_ge, f_int, f_abs, f_lenT, f_lenL, f_tupT, f_divmod, f_catT, f_catL, f_eqI, f_eqS, f_neS, f_isN, f_isNN, f_ixT, f_ixL, f_ofS, f_seqT, f_seqL, f_seqC, f_enT, f_enL, f_isS, f_lenC, f_sumT, f_sumL, f_sumF, f_allF, f_anyF, f_min, f_max, ho_rt, ho_nx, ho_exc, ho_ok, lp_nx, lp_ct, lp_bk, lp_rt, lp_exc, wipeE, a_pure, a_stuck, f_mkF, f_mkT, l_L, l_C, l_F, l_ap, l_pf, l_mk, l_seqOf, l_seqOfT, l_seqOfL, l_ix, l_seqIt, l_en, l_tup, l_isL, l_app, l_set, l_fld, l_insC, l_putF, l_lst, l_cutT, l_cutL, l_cutR, l_cutC, l_catRR, at_0, at_1, at_2, at_3, at_last, st_0, st_1, st_2, Option.isSome_some, List.map_cons, List.map_nil, List.length_cons, List.length_nil, List.cons_append, List.nil_append, List.getElem?_cons_zero, List.getElem?_cons_succ, List.set_cons_zero, List.set_cons_succ, List.replicate_succ, List.replicate_zero, List.zip_cons_cons, List.zip_nil_left, List.zip_nil_right, List.foldl_cons, List.foldl_nil, Nat.reduceAdd, Nat.reduceSub, Nat.zero_add, if_true, if_false, Bool.false_eq_true, reduceIte, reduceCtorEq, decide_true, decide_false, decide_eq_true_eq, Bool.not_eq_eq_eq_not, Bool.not_true, Bool.not_false, decide_eq_false_iff_not, ite_not, Bool.true_and, Bool.and_true, Bool.false_and, Bool.and_false, Option.bind_some, Option.map_some, and_self, true_and, and_true, line_pos0, line_pos1, line_pos2, line_pos3, Int.reduceEq, Int.reduceLT, Int.reduceLE, Int.reduceAdd, Int.reduceSub, Int.reduceMul, Int.reduceNeg, Int.reduceToNat, Int.reduceNe, Int.reducePow, Nat.reduceLeDiff, Nat.reduceLT, Nat.reduceEqDiff, g3, h0, ht, hl]
    refine ⟨_, rfl, Int.emod_nonneg _ (by omega), Int.emod_lt_of_pos _ ht, ⟨_, _, _, get_set g3⟩, f3.trans (Fr.set w _ _)⟩
  · have r2 := fmod_rng (i := x.fdiv 97) (j := top) ht
    try simp -implicitDefEqProofs only [f_bind, f_noX, f_sSeq, f_eS, f_sIf, f_sRet, a_sRetN, f_sSet, f_sPar, f_sAsg, f_sEx, a_sNil, f_sFor, f_sFldP, f_x2, f_x2F, f_x1, f_xIf, f_xAn, f_xOo, f_xNo, f_xTru, f_xBl, f_tNo, f_tAn, f_tOo, f_xCons, f_xNil, f_xTup, f_xMk, f_xP, f_xCall, f_xCallK, f_x3, f_ch3, f_var, f_gv, f_xC, f_xComp, f_itSeq, f_itEnum, f_itR1, f_itR2, f_toInt, f_xBM, f_xCut, f_xPart, f_xNoP, f_xFld, f_prC, f_xProp, f_gNm, f_gTp, f_gCn, f_gNl, f_gSb, f_xNew, bd_ok, bd_bad, bd_exc, es_ok, es_exc, st_ok, nex_ok, sq_nx, sq_rt, sq_bk, sq_ct, sq_exc, bd_bd, es_bd, st_bd, sq_es, sq_st, sq_sq, a_ev1, a_ev2, f_truB, f_truI, f_toBl, f_add, f_sub, f_mul, f_div, f_mod, f_pow, f_neg, f_lt, f_le, f_gt, f_ge, f_int, f_abs, f_lenT, f_lenL, f_tupT, f_divmod, f_catT, f_catL, f_eqI, f_eqS, f_neS, f_isN, f_isNN, f_ixT, f_ixL, f_ofS, f_seqT, f_seqL, f_seqC, f_enT, f_enL, f_isS, f_lenC, f_sumT, f_sumL, f_sumF, f_allF, f_anyF, f_min, f_max, ho_rt, ho_nx, ho_exc, ho_ok, lp_nx, lp_ct, lp_bk, lp_rt, lp_exc, wipeE, a_pure, a_stuck, f_mkF, f_mkT, l_L, l_C, l_F, l_ap, l_pf, l_mk, l_seqOf, l_seqOfT, l_seqOfL, l_ix, l_seqIt, l_en, l_tup, l_isL, l_app, l_set, l_fld, l_insC, l_putF, l_lst, l_cutT, l_cutL, l_cutR, l_cutC, l_catRR, at_0, at_1, at_2, at_3, at_last, st_0, st_1, st_2, Option.isSome_some, List.map_cons, List.map_nil, List.length_cons, List.length_nil, List.cons_append, List.nil_append, List.getElem?_cons_zero, List.getElem?_cons_succ, List.set_cons_zero, List.set_cons_succ, List.replicate_succ, List.replicate_zero, List.zip_cons_cons, List.zip_nil_left, List.zip_nil_right, List.foldl_cons, List.foldl_nil, Nat.reduceAdd, Nat.reduceSub, Nat.zero_add, if_true, if_false, Bool.false_eq_true, reduceIte, reduceCtorEq, decide_true, decide_false, decide_eq_true_eq, Bool.not_eq_eq_eq_not, Bool.not_true, Bool.not_false, decide_eq_false_iff_not, ite_not, Bool.true_and, Bool.and_true, Bool.false_and, Bool.and_false, Option.bind_some, Option.map_some, and_self, true_and, and_true, line_pos0, line_pos1, line_pos2, line_pos3, Int.reduceEq, Int.reduceLT, Int.reduceLE, Int.reduceAdd, Int.reduceSub, Int.reduceMul, Int.reduceNeg, Int.reduceToNat, Int.reduceNe, Int.reducePow, Nat.reduceLeDiff, Nat.reduceLT, Nat.reduceEqDiff, g3, d1, ne_eq, ht0]
    refine ⟨_, rfl, r2.1, r2.2, ⟨_, _, _, g3⟩, f3⟩
end K69

set_option Elab.async false
set_option linter.all false
set_option maxRecDepth 100000
set_option maxHeartbeats 1000000
namespace Dn
open PySem PySem.Spec PyProof.Rows L2
theorem l_ixC {S : Sto} {z : List Int} {i : Int} : evIx (.scr z) (.int i) S = ofO (L2.atI (z.map .int) i) S := rfl
theorem ints_sum_append (l m : List Int) : (l ++ m).sum = l.sum + m.sum := by simp
end Dn
namespace K69
open PySem PySem.Spec PyProof.Rows L2 Dn
theorem well_ok (n : Nat) (ns : List Int) (k : Nat) (S : Sto) (hk : k < 2) (w : Nat) : Ho (cal g (n + 1) 23 [.scr ns, .int (k : Int)] S) (OkP fun d S' => d = .ref S.length ∧ Well S' S.length ∧ Fr w S S') := by
  have m1 : mulB 6101 (k : Int) = true := mulB_l (by decide)
  have m2 : mulB 877 (k : Int) = true := mulB_l (by decide)
  have m3 : ∀ x : Int, mulB x 36007 = true := fun x => mulB_r (by decide)
  have hp : powB 10 18 = true := by decide
  have hm : ¬ (2147483423 : Int) = 0 := by decide
  rw [c_law_well]; refine ho_run ?_; unfold x_law_well; simp -implicitDefEqProofs only [f_bind, f_noX, f_sSeq, f_eS, f_sIf, f_sRet, a_sRetN, f_sSet, f_sPar, f_sAsg, f_sEx, a_sNil, f_sFor, f_sFldP, f_x2, f_x2F, f_x1, f_xIf, f_xAn, f_xOo, f_xNo, f_xTru, f_xBl, f_tNo, f_tAn, f_tOo, f_xCons, f_xNil, f_xTup, f_xMk, f_xP, f_xCall, f_xCallK, f_x3, f_ch3, f_var, f_gv, f_xC, f_xComp, f_itSeq, f_itEnum, f_itR1, f_itR2, f_toInt, f_xBM, f_xCut, f_xPart, f_xNoP, f_xFld, f_prC, f_xProp, f_gNm, f_gTp, f_gCn, f_gNl, f_gSb, f_xNew, bd_ok, bd_bad, bd_exc, es_ok, es_exc, st_ok, nex_ok, sq_nx, sq_rt, sq_bk, sq_ct, sq_exc, bd_bd, es_bd, st_bd, sq_es, sq_st, sq_sq, a_ev1, a_ev2, f_truB, f_truI, f_toBl, f_add, f_sub, f_mul, f_div, f_mod, f_pow, f_neg, f_lt, f_le, f_gt, f_ge, f_int, f_abs, f_lenT, f_lenL, f_tupT, f_divmod, f_catT, f_catL, f_eqI, f_eqS, f_neS, f_isN, f_isNN, f_ixT, f_ixL, f_ofS, f_seqT, f_seqL, f_seqC, f_enT, f_enL, f_isS, f_lenC, f_sumT, f_sumL, f_sumF, f_allF, f_anyF, f_min, f_max, ho_rt, ho_nx, ho_exc, ho_ok, lp_nx, lp_ct, lp_bk, lp_rt, lp_exc, wipeE, a_pure, a_stuck, f_mkF, f_mkT, l_L, l_C, l_F, l_ap, l_pf, l_mk, l_seqOf, l_seqOfT, l_seqOfL, l_ix, l_seqIt, l_en, l_tup, l_isL, l_app, l_set, l_fld, l_insC, l_putF, l_lst, l_cutT, l_cutL, l_cutR, l_cutC, l_catRR, at_0, at_1, at_2, at_3, at_last, st_0, st_1, st_2, Option.isSome_some, List.map_cons, List.map_nil, List.length_cons, List.length_nil, List.cons_append, List.nil_append, List.getElem?_cons_zero, List.getElem?_cons_succ, List.set_cons_zero, List.set_cons_succ, List.replicate_succ, List.replicate_zero, List.zip_cons_cons, List.zip_nil_left, List.zip_nil_right, List.foldl_cons, List.foldl_nil, Nat.reduceAdd, Nat.reduceSub, Nat.zero_add, if_true, if_false, Bool.false_eq_true, reduceIte, reduceCtorEq, decide_true, decide_false, decide_eq_true_eq, Bool.not_eq_eq_eq_not, Bool.not_true, Bool.not_false, decide_eq_false_iff_not, ite_not, Bool.true_and, Bool.and_true, Bool.false_and, Bool.and_false, Option.bind_some, Option.map_some, and_self, true_and, and_true, line_pos0, line_pos1, line_pos2, line_pos3, Int.reduceEq, Int.reduceLT, Int.reduceLE, Int.reduceAdd, Int.reduceSub, Int.reduceMul, Int.reduceNeg, Int.reduceToNat, Int.reduceNe, Int.reducePow, Nat.reduceLeDiff, Nat.reduceLT, Nat.reduceEqDiff]
  by_cases hlt : (k : Int) < ns.length
  case' pos =>
    have hk2 : k < (ns.map D.int).length := by rw [List.length_map]; omega
    have hat : L2.atI (ns.map D.int) (k : Int) = some (D.int (ns[k]'(by omega))) := by rw [at_nat, List.getElem?_eq_getElem hk2, List.getElem_map]
    try simp -implicitDefEqProofs only [f_bind, f_noX, f_sSeq, f_eS, f_sIf, f_sRet, a_sRetN, f_sSet, f_sPar, f_sAsg, f_sEx, a_sNil, f_sFor, f_sFldP, f_x2, f_x2F, f_x1, f_xIf, f_xAn, f_xOo, f_xNo, f_xTru, f_xBl, f_tNo, f_tAn, f_tOo, f_xCons, f_xNil, f_xTup, f_xMk, f_xP, f_xCall, f_xCallK, f_x3, f_ch3, f_var, f_gv, f_xC, f_xComp, f_itSeq, f_itEnum, f_itR1, f_itR2, f_toInt, f_xBM, f_xCut, f_xPart, f_xNoP, f_xFld, f_prC, f_xProp, f_gNm, f_gTp, f_gCn, f_gNl, f_gSb, f_xNew, bd_ok, bd_bad, bd_exc, es_ok, es_exc, st_ok, nex_ok, sq_nx, sq_rt, sq_bk, sq_ct, sq_exc, bd_bd, es_bd, st_bd, sq_es, sq_st, sq_sq, a_ev1, a_ev2, f_truB, f_truI, f_toBl, f_add, f_sub, f_mul, f_div, f_mod, f_pow, f_neg, f_lt, f_le, f_gt, f_ge, f_int, f_abs, f_lenT, f_lenL, f_tupT, f_divmod, f_catT, f_catL, f_eqI, f_eqS, f_neS, f_isN, f_isNN, f_ixT, f_ixL, f_ofS, f_seqT, f_seqL, f_seqC, f_enT, f_enL, f_isS, f_lenC, f_sumT, f_sumL, f_sumF, f_allF, f_anyF, f_min, f_max, ho_rt, ho_nx, ho_exc, ho_ok, lp_nx, lp_ct, lp_bk, lp_rt, lp_exc, wipeE, a_pure, a_stuck, f_mkF, f_mkT, l_L, l_C, l_F, l_ap, l_pf, l_mk, l_seqOf, l_seqOfT, l_seqOfL, l_ix, l_seqIt, l_en, l_tup, l_isL, l_app, l_set, l_fld, l_insC, l_putF, l_lst, l_cutT, l_cutL, l_cutR, l_cutC, l_catRR, at_0, at_1, at_2, at_3, at_last, st_0, st_1, st_2, Option.isSome_some, List.map_cons, List.map_nil, List.length_cons, List.length_nil, List.cons_append, List.nil_append, List.getElem?_cons_zero, List.getElem?_cons_succ, List.set_cons_zero, List.set_cons_succ, List.replicate_succ, List.replicate_zero, List.zip_cons_cons, List.zip_nil_left, List.zip_nil_right, List.foldl_cons, List.foldl_nil, Nat.reduceAdd, Nat.reduceSub, Nat.zero_add, if_true, if_false, Bool.false_eq_true, reduceIte, reduceCtorEq, decide_true, decide_false, decide_eq_true_eq, Bool.not_eq_eq_eq_not, Bool.not_true, Bool.not_false, decide_eq_false_iff_not, ite_not, Bool.true_and, Bool.and_true, Bool.false_and, Bool.and_false, Option.bind_some, Option.map_some, and_self, true_and, and_true, line_pos0, line_pos1, line_pos2, line_pos3, Int.reduceEq, Int.reduceLT, Int.reduceLE, Int.reduceAdd, Int.reduceSub, Int.reduceMul, Int.reduceNeg, Int.reduceToNat, Int.reduceNe, Int.reducePow, Nat.reduceLeDiff, Nat.reduceLT, Nat.reduceEqDiff, hlt, l_ixC, hat]
    generalize (ns[k]'(by omega)) = own
  case' neg =>
    try simp -implicitDefEqProofs only [f_bind, f_noX, f_sSeq, f_eS, f_sIf, f_sRet, a_sRetN, f_sSet, f_sPar, f_sAsg, f_sEx, a_sNil, f_sFor, f_sFldP, f_x2, f_x2F, f_x1, f_xIf, f_xAn, f_xOo, f_xNo, f_xTru, f_xBl, f_tNo, f_tAn, f_tOo, f_xCons, f_xNil, f_xTup, f_xMk, f_xP, f_xCall, f_xCallK, f_x3, f_ch3, f_var, f_gv, f_xC, f_xComp, f_itSeq, f_itEnum, f_itR1, f_itR2, f_toInt, f_xBM, f_xCut, f_xPart, f_xNoP, f_xFld, f_prC, f_xProp, f_gNm, f_gTp, f_gCn, f_gNl, f_gSb, f_xNew, bd_ok, bd_bad, bd_exc, es_ok, es_exc, st_ok, nex_ok, sq_nx, sq_rt, sq_bk, sq_ct, sq_exc, bd_bd, es_bd, st_bd, sq_es, sq_st, sq_sq, a_ev1, a_ev2, f_truB, f_truI, f_toBl, f_add, f_sub, f_mul, f_div, f_mod, f_pow, f_neg, f_lt, f_le, f_gt, f_ge, f_int, f_abs, f_lenT, f_lenL, f_tupT, f_divmod, f_catT, f_catL, f_eqI, f_eqS, f_neS, f_isN, f_isNN, f_ixT, f_ixL, f_ofS, f_seqT, f_seqL, f_seqC, f_enT, f_enL, f_isS, f_lenC, f_sumT, f_sumL, f_sumF, f_allF, f_anyF, f_min, f_max, ho_rt, ho_nx, ho_exc, ho_ok, lp_nx, lp_ct, lp_bk, lp_rt, lp_exc, wipeE, a_pure, a_stuck, f_mkF, f_mkT, l_L, l_C, l_F, l_ap, l_pf, l_mk, l_seqOf, l_seqOfT, l_seqOfL, l_ix, l_seqIt, l_en, l_tup, l_isL, l_app, l_set, l_fld, l_insC, l_putF, l_lst, l_cutT, l_cutL, l_cutR, l_cutC, l_catRR, at_0, at_1, at_2, at_3, at_last, st_0, st_1, st_2, Option.isSome_some, List.map_cons, List.map_nil, List.length_cons, List.length_nil, List.cons_append, List.nil_append, List.getElem?_cons_zero, List.getElem?_cons_succ, List.set_cons_zero, List.set_cons_succ, List.replicate_succ, List.replicate_zero, List.zip_cons_cons, List.zip_nil_left, List.zip_nil_right, List.foldl_cons, List.foldl_nil, Nat.reduceAdd, Nat.reduceSub, Nat.zero_add, if_true, if_false, Bool.false_eq_true, reduceIte, reduceCtorEq, decide_true, decide_false, decide_eq_true_eq, Bool.not_eq_eq_eq_not, Bool.not_true, Bool.not_false, decide_eq_false_iff_not, ite_not, Bool.true_and, Bool.and_true, Bool.false_and, Bool.and_false, Option.bind_some, Option.map_some, and_self, true_and, and_true, line_pos0, line_pos1, line_pos2, line_pos3, Int.reduceEq, Int.reduceLT, Int.reduceLE, Int.reduceAdd, Int.reduceSub, Int.reduceMul, Int.reduceNeg, Int.reduceToNat, Int.reduceNe, Int.reducePow, Nat.reduceLeDiff, Nat.reduceLT, Nat.reduceEqDiff, hlt, m1]
    generalize (6101 * (k : Int) + 211) = own
  all_goals
    have hc := cut_toN (List.map D.int ns) (k := 40)
    have e : ((40 : Nat) : Int) = 40 := rfl
    rw [e] at hc
    have hcut : (List.take 40 (List.map D.int ns)).length ≤ line := by
      rw [List.length_take]
      unfold line
      omega
    have hcut2 : (List.take 40 (List.map D.int ns) ++ [D.int own]).length ≤ line := by
      rw [List.length_append, List.length_take, List.length_singleton]
      unfold line
      omega
    have hcut3 : List.take 40 (List.map D.int ns) ++ [D.int own] = (ns.take 40 ++ [own]).map D.int := by
      rw [List.map_append, List.map_take]
      rfl
    try simp -implicitDefEqProofs only [f_bind, f_noX, f_sSeq, f_eS, f_sIf, f_sRet, a_sRetN, f_sSet, f_sPar, f_sAsg, f_sEx, a_sNil, f_sFor, f_sFldP, f_x2, f_x2F, f_x1, f_xIf, f_xAn, f_xOo, f_xNo, f_xTru, f_xBl, f_tNo, f_tAn, f_tOo, f_xCons, f_xNil, f_xTup, f_xMk, f_xP, f_xCall, f_xCallK, f_x3, f_ch3, f_var, f_gv, f_xC, f_xComp, f_itSeq, f_itEnum, f_itR1, f_itR2, f_toInt, f_xBM, f_xCut, f_xPart, f_xNoP, f_xFld, f_prC, f_xProp, f_gNm, f_gTp, f_gCn, f_gNl, f_gSb, f_xNew, bd_ok, bd_bad, bd_exc, es_ok, es_exc, st_ok, nex_ok, sq_nx, sq_rt, sq_bk, sq_ct, sq_exc, bd_bd, es_bd, st_bd, sq_es, sq_st, sq_sq, a_ev1, a_ev2, f_truB, f_truI, f_toBl, f_add, f_sub, f_mul, f_div, f_mod, f_pow, f_neg, f_lt, f_le, f_gt, f_ge, f_int, f_abs, f_lenT, f_lenL, f_tupT, f_divmod, f_catT, f_catL, f_eqI, f_eqS, f_neS, f_isN, f_isNN, f_ixT, f_ixL, f_ofS, f_seqT, f_seqL, f_seqC, f_enT, f_enL, f_isS, f_lenC, f_sumT, f_sumL, f_sumF, f_allF, f_anyF, f_min, f_max, ho_rt, ho_nx, ho_exc, ho_ok, lp_nx, lp_ct, lp_bk, lp_rt, lp_exc, wipeE, a_pure, a_stuck, f_mkF, f_mkT, l_L, l_C, l_F, l_ap, l_pf, l_mk, l_seqOf, l_seqOfT, l_seqOfL, l_ix, l_seqIt, l_en, l_tup, l_isL, l_app, l_set, l_fld, l_insC, l_putF, l_lst, l_cutT, l_cutL, l_cutR, l_cutC, l_catRR, at_0, at_1, at_2, at_3, at_last, st_0, st_1, st_2, Option.isSome_some, List.map_cons, List.map_nil, List.length_cons, List.length_nil, List.cons_append, List.nil_append, List.getElem?_cons_zero, List.getElem?_cons_succ, List.set_cons_zero, List.set_cons_succ, List.replicate_succ, List.replicate_zero, List.zip_cons_cons, List.zip_nil_left, List.zip_nil_right, List.foldl_cons, List.foldl_nil, Nat.reduceAdd, Nat.reduceSub, Nat.zero_add, if_true, if_false, Bool.false_eq_true, reduceIte, reduceCtorEq, decide_true, decide_false, decide_eq_true_eq, Bool.not_eq_eq_eq_not, Bool.not_true, Bool.not_false, decide_eq_false_iff_not, ite_not, Bool.true_and, Bool.and_true, Bool.false_and, Bool.and_false, Option.bind_some, Option.map_some, and_self, true_and, and_true, line_pos0, line_pos1, line_pos2, line_pos3, Int.reduceEq, Int.reduceLT, Int.reduceLE, Int.reduceAdd, Int.reduceSub, Int.reduceMul, Int.reduceNeg, Int.reduceToNat, Int.reduceNe, Int.reducePow, Nat.reduceLeDiff, Nat.reduceLT, Nat.reduceEqDiff, m2, hc, hcut, hcut2]
    refine for_done (ns.take 40 ++ [own]) D.int (fun _ e S' => S' = S ∧ ∃ (x : Int) (y : Option D), e = [some (.scr ns), some (.int (k : Int)), some (.int own), some (.int x), y]) hcut3 (fun _ _ _ _ => rfl) ⟨rfl, _, _, rfl⟩ ?_ ?_
    · rintro done x left e _ - ⟨rfl, y, z, rfl⟩
      try simp -implicitDefEqProofs only [f_bind, f_noX, f_sSeq, f_eS, f_sIf, f_sRet, a_sRetN, f_sSet, f_sPar, f_sAsg, f_sEx, a_sNil, f_sFor, f_sFldP, f_x2, f_x2F, f_x1, f_xIf, f_xAn, f_xOo, f_xNo, f_xTru, f_xBl, f_tNo, f_tAn, f_tOo, f_xCons, f_xNil, f_xTup, f_xMk, f_xP, f_xCall, f_xCallK, f_x3, f_ch3, f_var, f_gv, f_xC, f_xComp, f_itSeq, f_itEnum, f_itR1, f_itR2, f_toInt, f_xBM, f_xCut, f_xPart, f_xNoP, f_xFld, f_prC, f_xProp, f_gNm, f_gTp, f_gCn, f_gNl, f_gSb, f_xNew, bd_ok, bd_bad, bd_exc, es_ok, es_exc, st_ok, nex_ok, sq_nx, sq_rt, sq_bk, sq_ct, sq_exc, bd_bd, es_bd, st_bd, sq_es, sq_st, sq_sq, a_ev1, a_ev2, f_truB, f_truI, f_toBl, f_add, f_sub, f_mul, f_div, f_mod, f_pow, f_neg, f_lt, f_le, f_gt, f_ge, f_int, f_abs, f_lenT, f_lenL, f_tupT, f_divmod, f_catT, f_catL, f_eqI, f_eqS, f_neS, f_isN, f_isNN, f_ixT, f_ixL, f_ofS, f_seqT, f_seqL, f_seqC, f_enT, f_enL, f_isS, f_lenC, f_sumT, f_sumL, f_sumF, f_allF, f_anyF, f_min, f_max, ho_rt, ho_nx, ho_exc, ho_ok, lp_nx, lp_ct, lp_bk, lp_rt, lp_exc, wipeE, a_pure, a_stuck, f_mkF, f_mkT, l_L, l_C, l_F, l_ap, l_pf, l_mk, l_seqOf, l_seqOfT, l_seqOfL, l_ix, l_seqIt, l_en, l_tup, l_isL, l_app, l_set, l_fld, l_insC, l_putF, l_lst, l_cutT, l_cutL, l_cutR, l_cutC, l_catRR, at_0, at_1, at_2, at_3, at_last, st_0, st_1, st_2, Option.isSome_some, List.map_cons, List.map_nil, List.length_cons, List.length_nil, List.cons_append, List.nil_append, List.getElem?_cons_zero, List.getElem?_cons_succ, List.set_cons_zero, List.set_cons_succ, List.replicate_succ, List.replicate_zero, List.zip_cons_cons, List.zip_nil_left, List.zip_nil_right, List.foldl_cons, List.foldl_nil, Nat.reduceAdd, Nat.reduceSub, Nat.zero_add, if_true, if_false, Bool.false_eq_true, reduceIte, reduceCtorEq, decide_true, decide_false, decide_eq_true_eq, Bool.not_eq_eq_eq_not, Bool.not_true, Bool.not_false, decide_eq_false_iff_not, ite_not, Bool.true_and, Bool.and_true, Bool.false_and, Bool.and_false, Option.bind_some, Option.map_some, and_self, true_and, and_true, line_pos0, line_pos1, line_pos2, line_pos3, Int.reduceEq, Int.reduceLT, Int.reduceLE, Int.reduceAdd, Int.reduceSub, Int.reduceMul, Int.reduceNeg, Int.reduceToNat, Int.reduceNe, Int.reducePow, Nat.reduceLeDiff, Nat.reduceLT, Nat.reduceEqDiff, m3, hm, ne_eq]
      exact ⟨_, _, rfl⟩
    · rintro e S' ⟨rfl, y, z, rfl⟩
      try simp -implicitDefEqProofs only [f_bind, f_noX, f_sSeq, f_eS, f_sIf, f_sRet, a_sRetN, f_sSet, f_sPar, f_sAsg, f_sEx, a_sNil, f_sFor, f_sFldP, f_x2, f_x2F, f_x1, f_xIf, f_xAn, f_xOo, f_xNo, f_xTru, f_xBl, f_tNo, f_tAn, f_tOo, f_xCons, f_xNil, f_xTup, f_xMk, f_xP, f_xCall, f_xCallK, f_x3, f_ch3, f_var, f_gv, f_xC, f_xComp, f_itSeq, f_itEnum, f_itR1, f_itR2, f_toInt, f_xBM, f_xCut, f_xPart, f_xNoP, f_xFld, f_prC, f_xProp, f_gNm, f_gTp, f_gCn, f_gNl, f_gSb, f_xNew, bd_ok, bd_bad, bd_exc, es_ok, es_exc, st_ok, nex_ok, sq_nx, sq_rt, sq_bk, sq_ct, sq_exc, bd_bd, es_bd, st_bd, sq_es, sq_st, sq_sq, a_ev1, a_ev2, f_truB, f_truI, f_toBl, f_add, f_sub, f_mul, f_div, f_mod, f_pow, f_neg, f_lt, f_le, f_gt, f_ge, f_int, f_abs, f_lenT, f_lenL, f_tupT, f_divmod, f_catT, f_catL, f_eqI, f_eqS, f_neS, f_isN, f_isNN, f_ixT, f_ixL, f_ofS, f_seqT, f_seqL, f_seqC, f_enT, f_enL, f_isS, f_lenC, f_sumT, f_sumL, f_sumF, f_allF, f_anyF, f_min, f_max, ho_rt, ho_nx, ho_exc, ho_ok, lp_nx, lp_ct, lp_bk, lp_rt, lp_exc, wipeE, a_pure, a_stuck, f_mkF, f_mkT, l_L, l_C, l_F, l_ap, l_pf, l_mk, l_seqOf, l_seqOfT, l_seqOfL, l_ix, l_seqIt, l_en, l_tup, l_isL, l_app, l_set, l_fld, l_insC, l_putF, l_lst, l_cutT, l_cutL, l_cutR, l_cutC, l_catRR, at_0, at_1, at_2, at_3, at_last, st_0, st_1, st_2, Option.isSome_some, List.map_cons, List.map_nil, List.length_cons, List.length_nil, List.cons_append, List.nil_append, List.getElem?_cons_zero, List.getElem?_cons_succ, List.set_cons_zero, List.set_cons_succ, List.replicate_succ, List.replicate_zero, List.zip_cons_cons, List.zip_nil_left, List.zip_nil_right, List.foldl_cons, List.foldl_nil, Nat.reduceAdd, Nat.reduceSub, Nat.zero_add, if_true, if_false, Bool.false_eq_true, reduceIte, reduceCtorEq, decide_true, decide_false, decide_eq_true_eq, Bool.not_eq_eq_eq_not, Bool.not_true, Bool.not_false, decide_eq_false_iff_not, ite_not, Bool.true_and, Bool.and_true, Bool.false_and, Bool.and_false, Option.bind_some, Option.map_some, and_self, true_and, and_true, line_pos0, line_pos1, line_pos2, line_pos3, Int.reduceEq, Int.reduceLT, Int.reduceLE, Int.reduceAdd, Int.reduceSub, Int.reduceMul, Int.reduceNeg, Int.reduceToNat, Int.reduceNe, Int.reducePow, Nat.reduceLeDiff, Nat.reduceLT, Nat.reduceEqDiff, hp]
      have fin : ∀ v : Int, (D.ref S'.length = .ref S'.length ∧ Well (S' ++ [.lst [.int v, .int y, .int 0]]) S'.length ∧ Dn.Fr w S' (S' ++ [.lst [.int v, .int y, .int 0]])) := fun v => ⟨rfl, ⟨v, y, 0, get_last _ _⟩, Fr.app w S' _⟩
      by_cases h1 : own < 0
      · try simp -implicitDefEqProofs only [f_bind, f_noX, f_sSeq, f_eS, f_sIf, f_sRet, a_sRetN, f_sSet, f_sPar, f_sAsg, f_sEx, a_sNil, f_sFor, f_sFldP, f_x2, f_x2F, f_x1, f_xIf, f_xAn, f_xOo, f_xNo, f_xTru, f_xBl, f_tNo, f_tAn, f_tOo, f_xCons, f_xNil, f_xTup, f_xMk, f_xP, f_xCall, f_xCallK, f_x3, f_ch3, f_var, f_gv, f_xC, f_xComp, f_itSeq, f_itEnum, f_itR1, f_itR2, f_toInt, f_xBM, f_xCut, f_xPart, f_xNoP, f_xFld, f_prC, f_xProp, f_gNm, f_gTp, f_gCn, f_gNl, f_gSb, f_xNew, bd_ok, bd_bad, bd_exc, es_ok, es_exc, st_ok, nex_ok, sq_nx, sq_rt, sq_bk, sq_ct, sq_exc, bd_bd, es_bd, st_bd, sq_es, sq_st, sq_sq, a_ev1, a_ev2, f_truB, f_truI, f_toBl, f_add, f_sub, f_mul, f_div, f_mod, f_pow, f_neg, f_lt, f_le, f_gt, f_ge, f_int, f_abs, f_lenT, f_lenL, f_tupT, f_divmod, f_catT, f_catL, f_eqI, f_eqS, f_neS, f_isN, f_isNN, f_ixT, f_ixL, f_ofS, f_seqT, f_seqL, f_seqC, f_enT, f_enL, f_isS, f_lenC, f_sumT, f_sumL, f_sumF, f_allF, f_anyF, f_min, f_max, ho_rt, ho_nx, ho_exc, ho_ok, lp_nx, lp_ct, lp_bk, lp_rt, lp_exc, wipeE, a_pure, a_stuck, f_mkF, f_mkT, l_L, l_C, l_F, l_ap, l_pf, l_mk, l_seqOf, l_seqOfT, l_seqOfL, l_ix, l_seqIt, l_en, l_tup, l_isL, l_app, l_set, l_fld, l_insC, l_putF, l_lst, l_cutT, l_cutL, l_cutR, l_cutC, l_catRR, at_0, at_1, at_2, at_3, at_last, st_0, st_1, st_2, Option.isSome_some, List.map_cons, List.map_nil, List.length_cons, List.length_nil, List.cons_append, List.nil_append, List.getElem?_cons_zero, List.getElem?_cons_succ, List.set_cons_zero, List.set_cons_succ, List.replicate_succ, List.replicate_zero, List.zip_cons_cons, List.zip_nil_left, List.zip_nil_right, List.foldl_cons, List.foldl_nil, Nat.reduceAdd, Nat.reduceSub, Nat.zero_add, if_true, if_false, Bool.false_eq_true, reduceIte, reduceCtorEq, decide_true, decide_false, decide_eq_true_eq, Bool.not_eq_eq_eq_not, Bool.not_true, Bool.not_false, decide_eq_false_iff_not, ite_not, Bool.true_and, Bool.and_true, Bool.false_and, Bool.and_false, Option.bind_some, Option.map_some, and_self, true_and, and_true, line_pos0, line_pos1, line_pos2, line_pos3, Int.reduceEq, Int.reduceLT, Int.reduceLE, Int.reduceAdd, Int.reduceSub, Int.reduceMul, Int.reduceNeg, Int.reduceToNat, Int.reduceNe, Int.reducePow, Nat.reduceLeDiff, Nat.reduceLT, Nat.reduceEqDiff, h1]
        exact (fin _).2
      · by_cases h2 : 1000000000000000000 ≤ own
        · try simp -implicitDefEqProofs only [f_bind, f_noX, f_sSeq, f_eS, f_sIf, f_sRet, a_sRetN, f_sSet, f_sPar, f_sAsg, f_sEx, a_sNil, f_sFor, f_sFldP, f_x2, f_x2F, f_x1, f_xIf, f_xAn, f_xOo, f_xNo, f_xTru, f_xBl, f_tNo, f_tAn, f_tOo, f_xCons, f_xNil, f_xTup, f_xMk, f_xP, f_xCall, f_xCallK, f_x3, f_ch3, f_var, f_gv, f_xC, f_xComp, f_itSeq, f_itEnum, f_itR1, f_itR2, f_toInt, f_xBM, f_xCut, f_xPart, f_xNoP, f_xFld, f_prC, f_xProp, f_gNm, f_gTp, f_gCn, f_gNl, f_gSb, f_xNew, bd_ok, bd_bad, bd_exc, es_ok, es_exc, st_ok, nex_ok, sq_nx, sq_rt, sq_bk, sq_ct, sq_exc, bd_bd, es_bd, st_bd, sq_es, sq_st, sq_sq, a_ev1, a_ev2, f_truB, f_truI, f_toBl, f_add, f_sub, f_mul, f_div, f_mod, f_pow, f_neg, f_lt, f_le, f_gt, f_ge, f_int, f_abs, f_lenT, f_lenL, f_tupT, f_divmod, f_catT, f_catL, f_eqI, f_eqS, f_neS, f_isN, f_isNN, f_ixT, f_ixL, f_ofS, f_seqT, f_seqL, f_seqC, f_enT, f_enL, f_isS, f_lenC, f_sumT, f_sumL, f_sumF, f_allF, f_anyF, f_min, f_max, ho_rt, ho_nx, ho_exc, ho_ok, lp_nx, lp_ct, lp_bk, lp_rt, lp_exc, wipeE, a_pure, a_stuck, f_mkF, f_mkT, l_L, l_C, l_F, l_ap, l_pf, l_mk, l_seqOf, l_seqOfT, l_seqOfL, l_ix, l_seqIt, l_en, l_tup, l_isL, l_app, l_set, l_fld, l_insC, l_putF, l_lst, l_cutT, l_cutL, l_cutR, l_cutC, l_catRR, at_0, at_1, at_2, at_3, at_last, st_0, st_1, st_2, Option.isSome_some, List.map_cons, List.map_nil, List.length_cons, List.length_nil, List.cons_append, List.nil_append, List.getElem?_cons_zero, List.getElem?_cons_succ, List.set_cons_zero, List.set_cons_succ, List.replicate_succ, List.replicate_zero, List.zip_cons_cons, List.zip_nil_left, List.zip_nil_right, List.foldl_cons, List.foldl_nil, Nat.reduceAdd, Nat.reduceSub, Nat.zero_add, if_true, if_false, Bool.false_eq_true, reduceIte, reduceCtorEq, decide_true, decide_false, decide_eq_true_eq, Bool.not_eq_eq_eq_not, Bool.not_true, Bool.not_false, decide_eq_false_iff_not, ite_not, Bool.true_and, Bool.and_true, Bool.false_and, Bool.and_false, Option.bind_some, Option.map_some, and_self, true_and, and_true, line_pos0, line_pos1, line_pos2, line_pos3, Int.reduceEq, Int.reduceLT, Int.reduceLE, Int.reduceAdd, Int.reduceSub, Int.reduceMul, Int.reduceNeg, Int.reduceToNat, Int.reduceNe, Int.reducePow, Nat.reduceLeDiff, Nat.reduceLT, Nat.reduceEqDiff, h1, h2]
          exact (fin _).2
        · try simp -implicitDefEqProofs only [f_bind, f_noX, f_sSeq, f_eS, f_sIf, f_sRet, a_sRetN, f_sSet, f_sPar, f_sAsg, f_sEx, a_sNil, f_sFor, f_sFldP, f_x2, f_x2F, f_x1, f_xIf, f_xAn, f_xOo, f_xNo, f_xTru, f_xBl, f_tNo, f_tAn, f_tOo, f_xCons, f_xNil, f_xTup, f_xMk, f_xP, f_xCall, f_xCallK, f_x3, f_ch3, f_var, f_gv, f_xC, f_xComp, f_itSeq, f_itEnum, f_itR1, f_itR2, f_toInt, f_xBM, f_xCut, f_xPart, f_xNoP, f_xFld, f_prC, f_xProp, f_gNm, f_gTp, f_gCn, f_gNl, f_gSb, f_xNew, bd_ok, bd_bad, bd_exc, es_ok, es_exc, st_ok, nex_ok, sq_nx, sq_rt, sq_bk, sq_ct, sq_exc, bd_bd, es_bd, st_bd, sq_es, sq_st, sq_sq, a_ev1, a_ev2, f_truB, f_truI, f_toBl, f_add, f_sub, f_mul, f_div, f_mod, f_pow, f_neg, f_lt, f_le, f_gt, f_ge, f_int, f_abs, f_lenT, f_lenL, f_tupT, f_divmod, f_catT, f_catL, f_eqI, f_eqS, f_neS, f_isN, f_isNN, f_ixT, f_ixL, f_ofS, f_seqT, f_seqL, f_seqC, f_enT, f_enL, f_isS, f_lenC, f_sumT, f_sumL, f_sumF, f_allF, f_anyF, f_min, f_max, ho_rt, ho_nx, ho_exc, ho_ok, lp_nx, lp_ct, lp_bk, lp_rt, lp_exc, wipeE, a_pure, a_stuck, f_mkF, f_mkT, l_L, l_C, l_F, l_ap, l_pf, l_mk, l_seqOf, l_seqOfT, l_seqOfL, l_ix, l_seqIt, l_en, l_tup, l_isL, l_app, l_set, l_fld, l_insC, l_putF, l_lst, l_cutT, l_cutL, l_cutR, l_cutC, l_catRR, at_0, at_1, at_2, at_3, at_last, st_0, st_1, st_2, Option.isSome_some, List.map_cons, List.map_nil, List.length_cons, List.length_nil, List.cons_append, List.nil_append, List.getElem?_cons_zero, List.getElem?_cons_succ, List.set_cons_zero, List.set_cons_succ, List.replicate_succ, List.replicate_zero, List.zip_cons_cons, List.zip_nil_left, List.zip_nil_right, List.foldl_cons, List.foldl_nil, Nat.reduceAdd, Nat.reduceSub, Nat.zero_add, if_true, if_false, Bool.false_eq_true, reduceIte, reduceCtorEq, decide_true, decide_false, decide_eq_true_eq, Bool.not_eq_eq_eq_not, Bool.not_true, Bool.not_false, decide_eq_false_iff_not, ite_not, Bool.true_and, Bool.and_true, Bool.false_and, Bool.and_false, Option.bind_some, Option.map_some, and_self, true_and, and_true, line_pos0, line_pos1, line_pos2, line_pos3, Int.reduceEq, Int.reduceLT, Int.reduceLE, Int.reduceAdd, Int.reduceSub, Int.reduceMul, Int.reduceNeg, Int.reduceToNat, Int.reduceNe, Int.reducePow, Nat.reduceLeDiff, Nat.reduceLT, Nat.reduceEqDiff, h1, h2]
          exact (fin _).2
end K69

set_option Elab.async false
set_option linter.all false
set_option maxRecDepth 100000
set_option maxHeartbeats 1000000
namespace Dn
open PySem PySem.Spec PyProof.Rows L2
/-- what a def of the law that draws gives -/
def DrP (w : Nat) (S : Sto) (P : D → Prop) : D → Sto → Prop := fun d S' => P d ∧ Well S' w ∧ Dn.Fr w S S'
end Dn
namespace K69
open PySem PySem.Spec PyProof.Rows L2 Dn
/-- counts of so many people -/
def Cnt (k : Nat) (p : Int) (cs : List Int) : Prop := cs.length = k ∧ (∀ z ∈ cs, 0 ≤ z) ∧ cs.sum = p
theorem dealt_ok (n : Nat) {S : Sto} {w : Nat} {k : Nat} {p : Int} (h : Well S w) (hk : 1 ≤ k ∧ k ≤ 10) (hp : 0 ≤ p ∧ p ≤ 10000) : Ho (cal g (n + 2) 25 [.ref w, .int (k : Int), .int p] S) (OkP (DrP w S fun d => ∃ cs, d = .tmp (cs.map .int) ∧ Cnt k p cs)) := by
  have h62 : i62 ((k : Int) - 1) = true := i62_le (by omega)
  rw [c_law_dealt]; refine ho_run ?_; unfold x_law_dealt; simp -implicitDefEqProofs only [f_bind, f_noX, f_sSeq, f_eS, f_sIf, f_sRet, a_sRetN, f_sSet, f_sPar, f_sAsg, f_sEx, a_sNil, f_sFor, f_sFldP, f_x2, f_x2F, f_x1, f_xIf, f_xAn, f_xOo, f_xNo, f_xTru, f_xBl, f_tNo, f_tAn, f_tOo, f_xCons, f_xNil, f_xTup, f_xMk, f_xP, f_xCall, f_xCallK, f_x3, f_ch3, f_var, f_gv, f_xC, f_xComp, f_itSeq, f_itEnum, f_itR1, f_itR2, f_toInt, f_xBM, f_xCut, f_xPart, f_xNoP, f_xFld, f_prC, f_xProp, f_gNm, f_gTp, f_gCn, f_gNl, f_gSb, f_xNew, bd_ok, bd_bad, bd_exc, es_ok, es_exc, st_ok, nex_ok, sq_nx, sq_rt, sq_bk, sq_ct, sq_exc, bd_bd, es_bd, st_bd, sq_es, sq_st, sq_sq, a_ev1, a_ev2, f_truB, f_truI, f_toBl, f_add, f_sub, f_mul, f_div, f_mod, f_pow, f_neg, f_lt, f_le, f_gt, f_ge, f_int, f_abs, f_lenT, f_lenL, f_tupT, f_divmod, f_catT, f_catL, f_eqI, f_eqS, f_neS, f_isN, f_isNN, f_ixT, f_ixL, f_ofS, f_seqT, f_seqL, f_seqC, f_enT, f_enL, f_isS, f_lenC, f_sumT, f_sumL, f_sumF, f_allF, f_anyF, f_min, f_max, ho_rt, ho_nx, ho_exc, ho_ok, lp_nx, lp_ct, lp_bk, lp_rt, lp_exc, wipeE, a_pure, a_stuck, f_mkF, f_mkT, l_L, l_C, l_F, l_ap, l_pf, l_mk, l_seqOf, l_seqOfT, l_seqOfL, l_ix, l_seqIt, l_en, l_tup, l_isL, l_app, l_set, l_fld, l_insC, l_putF, l_lst, l_cutT, l_cutL, l_cutR, l_cutC, l_catRR, at_0, at_1, at_2, at_3, at_last, st_0, st_1, st_2, Option.isSome_some, List.map_cons, List.map_nil, List.length_cons, List.length_nil, List.cons_append, List.nil_append, List.getElem?_cons_zero, List.getElem?_cons_succ, List.set_cons_zero, List.set_cons_succ, List.replicate_succ, List.replicate_zero, List.zip_cons_cons, List.zip_nil_left, List.zip_nil_right, List.foldl_cons, List.foldl_nil, Nat.reduceAdd, Nat.reduceSub, Nat.zero_add, if_true, if_false, Bool.false_eq_true, reduceIte, reduceCtorEq, decide_true, decide_false, decide_eq_true_eq, Bool.not_eq_eq_eq_not, Bool.not_true, Bool.not_false, decide_eq_false_iff_not, ite_not, Bool.true_and, Bool.and_true, Bool.false_and, Bool.and_false, Option.bind_some, Option.map_some, and_self, true_and, and_true, line_pos0, line_pos1, line_pos2, line_pos3, Int.reduceEq, Int.reduceLT, Int.reduceLE, Int.reduceAdd, Int.reduceSub, Int.reduceMul, Int.reduceNeg, Int.reduceToNat, Int.reduceNe, Int.reducePow, Nat.reduceLeDiff, Nat.reduceLT, Nat.reduceEqDiff]
  try simp -implicitDefEqProofs only [f_bind, f_noX, f_sSeq, f_eS, f_sIf, f_sRet, a_sRetN, f_sSet, f_sPar, f_sAsg, f_sEx, a_sNil, f_sFor, f_sFldP, f_x2, f_x2F, f_x1, f_xIf, f_xAn, f_xOo, f_xNo, f_xTru, f_xBl, f_tNo, f_tAn, f_tOo, f_xCons, f_xNil, f_xTup, f_xMk, f_xP, f_xCall, f_xCallK, f_x3, f_ch3, f_var, f_gv, f_xC, f_xComp, f_itSeq, f_itEnum, f_itR1, f_itR2, f_toInt, f_xBM, f_xCut, f_xPart, f_xNoP, f_xFld, f_prC, f_xProp, f_gNm, f_gTp, f_gCn, f_gNl, f_gSb, f_xNew, bd_ok, bd_bad, bd_exc, es_ok, es_exc, st_ok, nex_ok, sq_nx, sq_rt, sq_bk, sq_ct, sq_exc, bd_bd, es_bd, st_bd, sq_es, sq_st, sq_sq, a_ev1, a_ev2, f_truB, f_truI, f_toBl, f_add, f_sub, f_mul, f_div, f_mod, f_pow, f_neg, f_lt, f_le, f_gt, f_ge, f_int, f_abs, f_lenT, f_lenL, f_tupT, f_divmod, f_catT, f_catL, f_eqI, f_eqS, f_neS, f_isN, f_isNN, f_ixT, f_ixL, f_ofS, f_seqT, f_seqL, f_seqC, f_enT, f_enL, f_isS, f_lenC, f_sumT, f_sumL, f_sumF, f_allF, f_anyF, f_min, f_max, ho_rt, ho_nx, ho_exc, ho_ok, lp_nx, lp_ct, lp_bk, lp_rt, lp_exc, wipeE, a_pure, a_stuck, f_mkF, f_mkT, l_L, l_C, l_F, l_ap, l_pf, l_mk, l_seqOf, l_seqOfT, l_seqOfL, l_ix, l_seqIt, l_en, l_tup, l_isL, l_app, l_set, l_fld, l_insC, l_putF, l_lst, l_cutT, l_cutL, l_cutR, l_cutC, l_catRR, at_0, at_1, at_2, at_3, at_last, st_0, st_1, st_2, Option.isSome_some, List.map_cons, List.map_nil, List.length_cons, List.length_nil, List.cons_append, List.nil_append, List.getElem?_cons_zero, List.getElem?_cons_succ, List.set_cons_zero, List.set_cons_succ, List.replicate_succ, List.replicate_zero, List.zip_cons_cons, List.zip_nil_left, List.zip_nil_right, List.foldl_cons, List.foldl_nil, Nat.reduceAdd, Nat.reduceSub, Nat.zero_add, if_true, if_false, Bool.false_eq_true, reduceIte, reduceCtorEq, decide_true, decide_false, decide_eq_true_eq, Bool.not_eq_eq_eq_not, Bool.not_true, Bool.not_false, decide_eq_false_iff_not, ite_not, Bool.true_and, Bool.and_true, Bool.false_and, Bool.and_false, Option.bind_some, Option.map_some, and_self, true_and, and_true, line_pos0, line_pos1, line_pos2, line_pos3, Int.reduceEq, Int.reduceLT, Int.reduceLE, Int.reduceAdd, Int.reduceSub, Int.reduceMul, Int.reduceNeg, Int.reduceToNat, Int.reduceNe, Int.reducePow, Nat.reduceLeDiff, Nat.reduceLT, Nat.reduceEqDiff, h62]
  refine for_rng (fun i e S' => ∃ (acc : List Int) (rest : Int) (x5 : Option D), e = [some (.ref w), some (.int (k : Int)), some (.int p), some (.ref S.length), some (.int rest), x5, none] ∧ S'[S.length]? = some (.lst (acc.map .int)) ∧ acc.length = i ∧ (∀ z ∈ acc, 0 ≤ z) ∧ acc.sum + rest = p ∧ 0 ≤ rest ∧ Well S' w ∧ Dn.Fr w S S')
    ⟨[], p, none, rfl, get_last _ _, rfl, by simp, by simp, hp.1, h.app _, Fr.app w S _⟩ ?_ ?_
  · rintro i e S1 hi ⟨acc, rest, x5, rfl, ha, hl, h0, hs, hr, hW, hF⟩
    have hw := h.lt
    have hrp : rest ≤ p := by
      have : 0 ≤ acc.sum := by
        clear ha hl hs
        induction acc with
        | nil => simp
        | cons a r ih =>
          have h1 := h0 a List.mem_cons_self
          have h2 := ih fun z hz => h0 z (List.mem_cons_of_mem _ hz)
          rw [List.sum_cons]
          omega
      omega
    try simp -implicitDefEqProofs only [f_bind, f_noX, f_sSeq, f_eS, f_sIf, f_sRet, a_sRetN, f_sSet, f_sPar, f_sAsg, f_sEx, a_sNil, f_sFor, f_sFldP, f_x2, f_x2F, f_x1, f_xIf, f_xAn, f_xOo, f_xNo, f_xTru, f_xBl, f_tNo, f_tAn, f_tOo, f_xCons, f_xNil, f_xTup, f_xMk, f_xP, f_xCall, f_xCallK, f_x3, f_ch3, f_var, f_gv, f_xC, f_xComp, f_itSeq, f_itEnum, f_itR1, f_itR2, f_toInt, f_xBM, f_xCut, f_xPart, f_xNoP, f_xFld, f_prC, f_xProp, f_gNm, f_gTp, f_gCn, f_gNl, f_gSb, f_xNew, bd_ok, bd_bad, bd_exc, es_ok, es_exc, st_ok, nex_ok, sq_nx, sq_rt, sq_bk, sq_ct, sq_exc, bd_bd, es_bd, st_bd, sq_es, sq_st, sq_sq, a_ev1, a_ev2, f_truB, f_truI, f_toBl, f_add, f_sub, f_mul, f_div, f_mod, f_pow, f_neg, f_lt, f_le, f_gt, f_ge, f_int, f_abs, f_lenT, f_lenL, f_tupT, f_divmod, f_catT, f_catL, f_eqI, f_eqS, f_neS, f_isN, f_isNN, f_ixT, f_ixL, f_ofS, f_seqT, f_seqL, f_seqC, f_enT, f_enL, f_isS, f_lenC, f_sumT, f_sumL, f_sumF, f_allF, f_anyF, f_min, f_max, ho_rt, ho_nx, ho_exc, ho_ok, lp_nx, lp_ct, lp_bk, lp_rt, lp_exc, wipeE, a_pure, a_stuck, f_mkF, f_mkT, l_L, l_C, l_F, l_ap, l_pf, l_mk, l_seqOf, l_seqOfT, l_seqOfL, l_ix, l_seqIt, l_en, l_tup, l_isL, l_app, l_set, l_fld, l_insC, l_putF, l_lst, l_cutT, l_cutL, l_cutR, l_cutC, l_catRR, at_0, at_1, at_2, at_3, at_last, st_0, st_1, st_2, Option.isSome_some, List.map_cons, List.map_nil, List.length_cons, List.length_nil, List.cons_append, List.nil_append, List.getElem?_cons_zero, List.getElem?_cons_succ, List.set_cons_zero, List.set_cons_succ, List.replicate_succ, List.replicate_zero, List.zip_cons_cons, List.zip_nil_left, List.zip_nil_right, List.foldl_cons, List.foldl_nil, Nat.reduceAdd, Nat.reduceSub, Nat.zero_add, if_true, if_false, Bool.false_eq_true, reduceIte, reduceCtorEq, decide_true, decide_false, decide_eq_true_eq, Bool.not_eq_eq_eq_not, Bool.not_true, Bool.not_false, decide_eq_false_iff_not, ite_not, Bool.true_and, Bool.and_true, Bool.false_and, Bool.and_false, Option.bind_some, Option.map_some, and_self, true_and, and_true, line_pos0, line_pos1, line_pos2, line_pos3, Int.reduceEq, Int.reduceLT, Int.reduceLE, Int.reduceAdd, Int.reduceSub, Int.reduceMul, Int.reduceNeg, Int.reduceToNat, Int.reduceNe, Int.reducePow, Nat.reduceLeDiff, Nat.reduceLT, Nat.reduceEqDiff, ha]
    refine es_of (draw_ok n hW (by omega) (by omega)) ?_
    rintro _ S2 ⟨r, rfl, r0, r1, hW2, hF2⟩
    have ha2 := hF2.get ha (by omega)
    have hll : (List.map D.int acc).length < line := by rw [List.length_map]; unfold line; omega
    have ha3 := get_set (u := .lst (List.map D.int acc ++ [D.int r])) ha2
    try simp -implicitDefEqProofs only [f_bind, f_noX, f_sSeq, f_eS, f_sIf, f_sRet, a_sRetN, f_sSet, f_sPar, f_sAsg, f_sEx, a_sNil, f_sFor, f_sFldP, f_x2, f_x2F, f_x1, f_xIf, f_xAn, f_xOo, f_xNo, f_xTru, f_xBl, f_tNo, f_tAn, f_tOo, f_xCons, f_xNil, f_xTup, f_xMk, f_xP, f_xCall, f_xCallK, f_x3, f_ch3, f_var, f_gv, f_xC, f_xComp, f_itSeq, f_itEnum, f_itR1, f_itR2, f_toInt, f_xBM, f_xCut, f_xPart, f_xNoP, f_xFld, f_prC, f_xProp, f_gNm, f_gTp, f_gCn, f_gNl, f_gSb, f_xNew, bd_ok, bd_bad, bd_exc, es_ok, es_exc, st_ok, nex_ok, sq_nx, sq_rt, sq_bk, sq_ct, sq_exc, bd_bd, es_bd, st_bd, sq_es, sq_st, sq_sq, a_ev1, a_ev2, f_truB, f_truI, f_toBl, f_add, f_sub, f_mul, f_div, f_mod, f_pow, f_neg, f_lt, f_le, f_gt, f_ge, f_int, f_abs, f_lenT, f_lenL, f_tupT, f_divmod, f_catT, f_catL, f_eqI, f_eqS, f_neS, f_isN, f_isNN, f_ixT, f_ixL, f_ofS, f_seqT, f_seqL, f_seqC, f_enT, f_enL, f_isS, f_lenC, f_sumT, f_sumL, f_sumF, f_allF, f_anyF, f_min, f_max, ho_rt, ho_nx, ho_exc, ho_ok, lp_nx, lp_ct, lp_bk, lp_rt, lp_exc, wipeE, a_pure, a_stuck, f_mkF, f_mkT, l_L, l_C, l_F, l_ap, l_pf, l_mk, l_seqOf, l_seqOfT, l_seqOfL, l_ix, l_seqIt, l_en, l_tup, l_isL, l_app, l_set, l_fld, l_insC, l_putF, l_lst, l_cutT, l_cutL, l_cutR, l_cutC, l_catRR, at_0, at_1, at_2, at_3, at_last, st_0, st_1, st_2, Option.isSome_some, List.map_cons, List.map_nil, List.length_cons, List.length_nil, List.cons_append, List.nil_append, List.getElem?_cons_zero, List.getElem?_cons_succ, List.set_cons_zero, List.set_cons_succ, List.replicate_succ, List.replicate_zero, List.zip_cons_cons, List.zip_nil_left, List.zip_nil_right, List.foldl_cons, List.foldl_nil, Nat.reduceAdd, Nat.reduceSub, Nat.zero_add, if_true, if_false, Bool.false_eq_true, reduceIte, reduceCtorEq, decide_true, decide_false, decide_eq_true_eq, Bool.not_eq_eq_eq_not, Bool.not_true, Bool.not_false, decide_eq_false_iff_not, ite_not, Bool.true_and, Bool.and_true, Bool.false_and, Bool.and_false, Option.bind_some, Option.map_some, and_self, true_and, and_true, line_pos0, line_pos1, line_pos2, line_pos3, Int.reduceEq, Int.reduceLT, Int.reduceLE, Int.reduceAdd, Int.reduceSub, Int.reduceMul, Int.reduceNeg, Int.reduceToNat, Int.reduceNe, Int.reducePow, Nat.reduceLeDiff, Nat.reduceLT, Nat.reduceEqDiff, ha2, hll, ha3]
    refine ⟨acc ++ [r], rest - r, _, rfl, ?_, by simp [hl], ?_, ?_, by omega, hW2.ne (by omega), (hF.trans hF2).new _ (Nat.le_refl _)⟩
    · rw [List.map_append]; rfl
    · intro z hz
      rcases List.mem_append.mp hz with q | q
      · exact h0 z q
      · have : z = r := by simpa using q
        omega
    · rw [ints_sum_append]
      simp
      omega
  · rintro e S1 ⟨acc, rest, x5, rfl, ha, hl, h0, hs, hr, hW, hF⟩
    have hw := h.lt
    have hll : (List.map D.int acc).length < line := by rw [List.length_map]; unfold line; omega
    have ha1 := get_set (u := .lst (List.map D.int acc ++ [D.int rest])) ha
    have hW1 := hW.ne (j := S.length) (o := .lst (List.map D.int acc ++ [D.int rest])) (by omega)
    have hF1 := hF.new (.lst (List.map D.int acc ++ [D.int rest])) (Nat.le_refl _)
    try simp -implicitDefEqProofs only [f_bind, f_noX, f_sSeq, f_eS, f_sIf, f_sRet, a_sRetN, f_sSet, f_sPar, f_sAsg, f_sEx, a_sNil, f_sFor, f_sFldP, f_x2, f_x2F, f_x1, f_xIf, f_xAn, f_xOo, f_xNo, f_xTru, f_xBl, f_tNo, f_tAn, f_tOo, f_xCons, f_xNil, f_xTup, f_xMk, f_xP, f_xCall, f_xCallK, f_x3, f_ch3, f_var, f_gv, f_xC, f_xComp, f_itSeq, f_itEnum, f_itR1, f_itR2, f_toInt, f_xBM, f_xCut, f_xPart, f_xNoP, f_xFld, f_prC, f_xProp, f_gNm, f_gTp, f_gCn, f_gNl, f_gSb, f_xNew, bd_ok, bd_bad, bd_exc, es_ok, es_exc, st_ok, nex_ok, sq_nx, sq_rt, sq_bk, sq_ct, sq_exc, bd_bd, es_bd, st_bd, sq_es, sq_st, sq_sq, a_ev1, a_ev2, f_truB, f_truI, f_toBl, f_add, f_sub, f_mul, f_div, f_mod, f_pow, f_neg, f_lt, f_le, f_gt, f_ge, f_int, f_abs, f_lenT, f_lenL, f_tupT, f_divmod, f_catT, f_catL, f_eqI, f_eqS, f_neS, f_isN, f_isNN, f_ixT, f_ixL, f_ofS, f_seqT, f_seqL, f_seqC, f_enT, f_enL, f_isS, f_lenC, f_sumT, f_sumL, f_sumF, f_allF, f_anyF, f_min, f_max, ho_rt, ho_nx, ho_exc, ho_ok, lp_nx, lp_ct, lp_bk, lp_rt, lp_exc, wipeE, a_pure, a_stuck, f_mkF, f_mkT, l_L, l_C, l_F, l_ap, l_pf, l_mk, l_seqOf, l_seqOfT, l_seqOfL, l_ix, l_seqIt, l_en, l_tup, l_isL, l_app, l_set, l_fld, l_insC, l_putF, l_lst, l_cutT, l_cutL, l_cutR, l_cutC, l_catRR, at_0, at_1, at_2, at_3, at_last, st_0, st_1, st_2, Option.isSome_some, List.map_cons, List.map_nil, List.length_cons, List.length_nil, List.cons_append, List.nil_append, List.getElem?_cons_zero, List.getElem?_cons_succ, List.set_cons_zero, List.set_cons_succ, List.replicate_succ, List.replicate_zero, List.zip_cons_cons, List.zip_nil_left, List.zip_nil_right, List.foldl_cons, List.foldl_nil, Nat.reduceAdd, Nat.reduceSub, Nat.zero_add, if_true, if_false, Bool.false_eq_true, reduceIte, reduceCtorEq, decide_true, decide_false, decide_eq_true_eq, Bool.not_eq_eq_eq_not, Bool.not_true, Bool.not_false, decide_eq_false_iff_not, ite_not, Bool.true_and, Bool.and_true, Bool.false_and, Bool.and_false, Option.bind_some, Option.map_some, and_self, true_and, and_true, line_pos0, line_pos1, line_pos2, line_pos3, Int.reduceEq, Int.reduceLT, Int.reduceLE, Int.reduceAdd, Int.reduceSub, Int.reduceMul, Int.reduceNeg, Int.reduceToNat, Int.reduceNe, Int.reducePow, Nat.reduceLeDiff, Nat.reduceLT, Nat.reduceEqDiff, ha, hll]
    refine es_of (draw_ok n hW1 (by omega) (by omega)) ?_
    rintro _ S2 ⟨r, rfl, r0, r1, hW2, hF2⟩
    have ha2 := hF2.get ha1 (by omega)
    have hlen : (List.map D.int acc ++ [D.int rest]).length ≤ 100 := by rw [List.length_append, List.length_map, List.length_singleton]; omega
    have hd : (List.drop r.toNat (List.map D.int acc ++ [D.int rest])).length ≤ line := by rw [List.length_drop]; unfold line; omega
    have ht : (List.take r.toNat (List.map D.int acc ++ [D.int rest])).length ≤ line := by rw [List.length_take]; unfold line; omega
    have hdt : (List.drop r.toNat (List.map D.int acc ++ [D.int rest]) ++ List.take r.toNat (List.map D.int acc ++ [D.int rest])).length ≤ line := by rw [List.length_append, List.length_drop, List.length_take]; unfold line; omega
    try simp -implicitDefEqProofs only [f_bind, f_noX, f_sSeq, f_eS, f_sIf, f_sRet, a_sRetN, f_sSet, f_sPar, f_sAsg, f_sEx, a_sNil, f_sFor, f_sFldP, f_x2, f_x2F, f_x1, f_xIf, f_xAn, f_xOo, f_xNo, f_xTru, f_xBl, f_tNo, f_tAn, f_tOo, f_xCons, f_xNil, f_xTup, f_xMk, f_xP, f_xCall, f_xCallK, f_x3, f_ch3, f_var, f_gv, f_xC, f_xComp, f_itSeq, f_itEnum, f_itR1, f_itR2, f_toInt, f_xBM, f_xCut, f_xPart, f_xNoP, f_xFld, f_prC, f_xProp, f_gNm, f_gTp, f_gCn, f_gNl, f_gSb, f_xNew, bd_ok, bd_bad, bd_exc, es_ok, es_exc, st_ok, nex_ok, sq_nx, sq_rt, sq_bk, sq_ct, sq_exc, bd_bd, es_bd, st_bd, sq_es, sq_st, sq_sq, a_ev1, a_ev2, f_truB, f_truI, f_toBl, f_add, f_sub, f_mul, f_div, f_mod, f_pow, f_neg, f_lt, f_le, f_gt, f_ge, f_int, f_abs, f_lenT, f_lenL, f_tupT, f_divmod, f_catT, f_catL, f_eqI, f_eqS, f_neS, f_isN, f_isNN, f_ixT, f_ixL, f_ofS, f_seqT, f_seqL, f_seqC, f_enT, f_enL, f_isS, f_lenC, f_sumT, f_sumL, f_sumF, f_allF, f_anyF, f_min, f_max, ho_rt, ho_nx, ho_exc, ho_ok, lp_nx, lp_ct, lp_bk, lp_rt, lp_exc, wipeE, a_pure, a_stuck, f_mkF, f_mkT, l_L, l_C, l_F, l_ap, l_pf, l_mk, l_seqOf, l_seqOfT, l_seqOfL, l_ix, l_seqIt, l_en, l_tup, l_isL, l_app, l_set, l_fld, l_insC, l_putF, l_lst, l_cutT, l_cutL, l_cutR, l_cutC, l_catRR, at_0, at_1, at_2, at_3, at_last, st_0, st_1, st_2, Option.isSome_some, List.map_cons, List.map_nil, List.length_cons, List.length_nil, List.cons_append, List.nil_append, List.getElem?_cons_zero, List.getElem?_cons_succ, List.set_cons_zero, List.set_cons_succ, List.replicate_succ, List.replicate_zero, List.zip_cons_cons, List.zip_nil_left, List.zip_nil_right, List.foldl_cons, List.foldl_nil, Nat.reduceAdd, Nat.reduceSub, Nat.zero_add, if_true, if_false, Bool.false_eq_true, reduceIte, reduceCtorEq, decide_true, decide_false, decide_eq_true_eq, Bool.not_eq_eq_eq_not, Bool.not_true, Bool.not_false, decide_eq_false_iff_not, ite_not, Bool.true_and, Bool.and_true, Bool.false_and, Bool.and_false, Option.bind_some, Option.map_some, and_self, true_and, and_true, line_pos0, line_pos1, line_pos2, line_pos3, Int.reduceEq, Int.reduceLT, Int.reduceLE, Int.reduceAdd, Int.reduceSub, Int.reduceMul, Int.reduceNeg, Int.reduceToNat, Int.reduceNe, Int.reducePow, Nat.reduceLeDiff, Nat.reduceLT, Nat.reduceEqDiff, ha2, cut_fromI _ r0, cut_toI _ r0, hd, ht, hdt]
    have em : List.map D.int acc ++ [D.int rest] = List.map D.int (acc ++ [rest]) := by rw [List.map_append]; rfl
    refine ⟨⟨(acc ++ [rest]).drop r.toNat ++ (acc ++ [rest]).take r.toNat, ?_, ?_, ?_, ?_⟩, hW2, hF1.trans hF2⟩
    · rw [em, ← List.map_drop, ← List.map_take, ← List.map_append]
    · rw [List.length_append, List.length_drop, List.length_take, List.length_append, List.length_singleton]
      omega
    · intro z hz
      have hz2 : z ∈ acc ++ [rest] := by
        rcases List.mem_append.mp hz with q | q
        · exact List.mem_of_mem_drop q
        · exact List.mem_of_mem_take q
      rcases List.mem_append.mp hz2 with q | q
      · exact h0 z q
      · have : z = rest := by simpa using q
        omega
    · have e1 : ((acc ++ [rest]).take r.toNat ++ (acc ++ [rest]).drop r.toNat).sum = (acc ++ [rest]).sum := by rw [List.take_append_drop]
      rw [ints_sum_append] at e1 ⊢
      have e2 : (acc ++ [rest]).sum = p := by rw [ints_sum_append]; simp; omega
      omega
end K69

set_option Elab.async false
set_option linter.all false
set_option maxRecDepth 100000
set_option maxHeartbeats 1000000
namespace K69
open PySem PySem.Spec PyProof.Rows L2 Dn
theorem near_rng {u c p : Int} (hu : 0 ≤ u) (hp : 1 ≤ p) (hc : 0 ≤ c ∧ c ≤ p) : 0 ≤ Poll.near u c p ∧ Poll.near u c p ≤ u := by
  unfold Poll.near
  rw [Int.fdiv_eq_ediv_of_nonneg _ (by omega)]
  have h1 : 0 ≤ u * c := Int.mul_nonneg hu hc.1
  have h2 : u * c ≤ u * p := Int.mul_le_mul_of_nonneg_left hc.2 hu
  have e1 : 2 * u * c = 2 * (u * c) := by rw [Int.mul_assoc]
  refine ⟨Int.ediv_nonneg (by omega) (by omega), ?_⟩
  have : (2 * u * c + p) / (2 * p) < u + 1 := by
    apply Int.ediv_lt_of_lt_mul (by omega)
    have e2 : (u + 1) * (2 * p) = 2 * (u * p) + 2 * p := by rw [Int.add_mul, Int.one_mul, Int.mul_left_comm]
    rw [e2, e1]
    omega
  omega
theorem le_sum : ∀ {l : List Int}, (∀ z ∈ l, 0 ≤ z) → (∀ z ∈ l, z ≤ l.sum) ∧ 0 ≤ l.sum
  | [], _ => ⟨fun z hz => (List.not_mem_nil hz).elim, by simp⟩
  | a :: r, h => by
    obtain ⟨h1, h2⟩ := le_sum (l := r) fun z hz => h z (List.mem_cons_of_mem _ hz)
    have ha := h a List.mem_cons_self
    rw [List.sum_cons]
    refine ⟨fun z hz => ?_, by omega⟩
    rcases List.mem_cons.mp hz with q | q
    · omega
    · have := h1 z q
      omega
/-- shares -/
def Shr (u : Int) (d : D) : Prop := ∃ ss : List Int, d = .tup (ss.map D.int) ∧ 2 ≤ ss.length ∧ ss.length ≤ 6 ∧ ∀ z ∈ ss, 0 ≤ z ∧ z ≤ u
theorem near_all (n : Nat) {u p : Int} {cs : List Int} (hu : u = 100 ∨ u = 1000) (hp : 1 ≤ p) (hb : p.natAbs < 2 ^ 190) {x : XE} {i : Nat} {e : Dn.Env} {S : Sto} {gs : Gd} (hg : okG gs S = true) (hl : cs.length ≤ line)
    (hx : ∀ c : Int, x (cal g (n + 1)) (e.set i (some (.int c))) S = cal g (n + 1) 26 [.int u, .int c, .int p] S) :
    Ho (loopC (cal g (n + 1)) (gNm i) tYs x gs e (cs.map D.int) [] S) (OkP fun ys S' => ys = (cs.map fun c => Poll.near u c p).map D.int ∧ S' = S ∧ ys.length ≤ line) := by
  refine ok_imp (comp_all cs D.int (fun c => D.int (Poll.near u c p)) rfl hg hl ?_) ?_
  · intro y hy
    refine ⟨rfl, ?_⟩
    rw [hx, near_ok n hu hp hb]
    exact is_refl
  · rintro _ _ ⟨rfl, rfl, h⟩
    refine ⟨?_, rfl, h⟩
    rw [List.map_map]
    rfl
theorem law_shares_ok (n : Nat) {S : Sto} {w : Nat} {k : Nat} {u : Int} (h : Well S w) (hu : u = 100 ∨ u = 1000) (hk : 2 ≤ k ∧ k ≤ 6) : Ho (cal g (n + 3) 27 [.ref w, .int u, .int (k : Int)] S) (OkP (DrP w S (Shr u))) := by
  have hw := h.lt
  have d2 : divB 2 = true := by decide
  rw [c_law_shares]; refine ho_run ?_; unfold x_law_shares; simp -implicitDefEqProofs only [f_bind, f_noX, f_sSeq, f_eS, f_sIf, f_sRet, a_sRetN, f_sSet, f_sPar, f_sAsg, f_sEx, a_sNil, f_sFor, f_sFldP, f_x2, f_x2F, f_x1, f_xIf, f_xAn, f_xOo, f_xNo, f_xTru, f_xBl, f_tNo, f_tAn, f_tOo, f_xCons, f_xNil, f_xTup, f_xMk, f_xP, f_xCall, f_xCallK, f_x3, f_ch3, f_var, f_gv, f_xC, f_xComp, f_itSeq, f_itEnum, f_itR1, f_itR2, f_toInt, f_xBM, f_xCut, f_xPart, f_xNoP, f_xFld, f_prC, f_xProp, f_gNm, f_gTp, f_gCn, f_gNl, f_gSb, f_xNew, bd_ok, bd_bad, bd_exc, es_ok, es_exc, st_ok, nex_ok, sq_nx, sq_rt, sq_bk, sq_ct, sq_exc, bd_bd, es_bd, st_bd, sq_es, sq_st, sq_sq, a_ev1, a_ev2, f_truB, f_truI, f_toBl, f_add, f_sub, f_mul, f_div, f_mod, f_pow, f_neg, f_lt, f_le, f_gt, f_ge, f_int, f_abs, f_lenT, f_lenL, f_tupT, f_divmod, f_catT, f_catL, f_eqI, f_eqS, f_neS, f_isN, f_isNN, f_ixT, f_ixL, f_ofS, f_seqT, f_seqL, f_seqC, f_enT, f_enL, f_isS, f_lenC, f_sumT, f_sumL, f_sumF, f_allF, f_anyF, f_min, f_max, ho_rt, ho_nx, ho_exc, ho_ok, lp_nx, lp_ct, lp_bk, lp_rt, lp_exc, wipeE, a_pure, a_stuck, f_mkF, f_mkT, l_L, l_C, l_F, l_ap, l_pf, l_mk, l_seqOf, l_seqOfT, l_seqOfL, l_ix, l_seqIt, l_en, l_tup, l_isL, l_app, l_set, l_fld, l_insC, l_putF, l_lst, l_cutT, l_cutL, l_cutR, l_cutC, l_catRR, at_0, at_1, at_2, at_3, at_last, st_0, st_1, st_2, Option.isSome_some, List.map_cons, List.map_nil, List.length_cons, List.length_nil, List.cons_append, List.nil_append, List.getElem?_cons_zero, List.getElem?_cons_succ, List.set_cons_zero, List.set_cons_succ, List.replicate_succ, List.replicate_zero, List.zip_cons_cons, List.zip_nil_left, List.zip_nil_right, List.foldl_cons, List.foldl_nil, Nat.reduceAdd, Nat.reduceSub, Nat.zero_add, if_true, if_false, Bool.false_eq_true, reduceIte, reduceCtorEq, decide_true, decide_false, decide_eq_true_eq, Bool.not_eq_eq_eq_not, Bool.not_true, Bool.not_false, decide_eq_false_iff_not, ite_not, Bool.true_and, Bool.and_true, Bool.false_and, Bool.and_false, Option.bind_some, Option.map_some, and_self, true_and, and_true, line_pos0, line_pos1, line_pos2, line_pos3, Int.reduceEq, Int.reduceLT, Int.reduceLE, Int.reduceAdd, Int.reduceSub, Int.reduceMul, Int.reduceNeg, Int.reduceToNat, Int.reduceNe, Int.reducePow, Nat.reduceLeDiff, Nat.reduceLT, Nat.reduceEqDiff]
  refine es_of (draw_ok (n + 1) h (by omega) (by omega)) ?_
  rintro _ S1 ⟨way, rfl, w0, w1, hW1, hF1⟩
  try simp -implicitDefEqProofs only [f_bind, f_noX, f_sSeq, f_eS, f_sIf, f_sRet, a_sRetN, f_sSet, f_sPar, f_sAsg, f_sEx, a_sNil, f_sFor, f_sFldP, f_x2, f_x2F, f_x1, f_xIf, f_xAn, f_xOo, f_xNo, f_xTru, f_xBl, f_tNo, f_tAn, f_tOo, f_xCons, f_xNil, f_xTup, f_xMk, f_xP, f_xCall, f_xCallK, f_x3, f_ch3, f_var, f_gv, f_xC, f_xComp, f_itSeq, f_itEnum, f_itR1, f_itR2, f_toInt, f_xBM, f_xCut, f_xPart, f_xNoP, f_xFld, f_prC, f_xProp, f_gNm, f_gTp, f_gCn, f_gNl, f_gSb, f_xNew, bd_ok, bd_bad, bd_exc, es_ok, es_exc, st_ok, nex_ok, sq_nx, sq_rt, sq_bk, sq_ct, sq_exc, bd_bd, es_bd, st_bd, sq_es, sq_st, sq_sq, a_ev1, a_ev2, f_truB, f_truI, f_toBl, f_add, f_sub, f_mul, f_div, f_mod, f_pow, f_neg, f_lt, f_le, f_gt, f_ge, f_int, f_abs, f_lenT, f_lenL, f_tupT, f_divmod, f_catT, f_catL, f_eqI, f_eqS, f_neS, f_isN, f_isNN, f_ixT, f_ixL, f_ofS, f_seqT, f_seqL, f_seqC, f_enT, f_enL, f_isS, f_lenC, f_sumT, f_sumL, f_sumF, f_allF, f_anyF, f_min, f_max, ho_rt, ho_nx, ho_exc, ho_ok, lp_nx, lp_ct, lp_bk, lp_rt, lp_exc, wipeE, a_pure, a_stuck, f_mkF, f_mkT, l_L, l_C, l_F, l_ap, l_pf, l_mk, l_seqOf, l_seqOfT, l_seqOfL, l_ix, l_seqIt, l_en, l_tup, l_isL, l_app, l_set, l_fld, l_insC, l_putF, l_lst, l_cutT, l_cutL, l_cutR, l_cutC, l_catRR, at_0, at_1, at_2, at_3, at_last, st_0, st_1, st_2, Option.isSome_some, List.map_cons, List.map_nil, List.length_cons, List.length_nil, List.cons_append, List.nil_append, List.getElem?_cons_zero, List.getElem?_cons_succ, List.set_cons_zero, List.set_cons_succ, List.replicate_succ, List.replicate_zero, List.zip_cons_cons, List.zip_nil_left, List.zip_nil_right, List.foldl_cons, List.foldl_nil, Nat.reduceAdd, Nat.reduceSub, Nat.zero_add, if_true, if_false, Bool.false_eq_true, reduceIte, reduceCtorEq, decide_true, decide_false, decide_eq_true_eq, Bool.not_eq_eq_eq_not, Bool.not_true, Bool.not_false, decide_eq_false_iff_not, ite_not, Bool.true_and, Bool.and_true, Bool.false_and, Bool.and_false, Option.bind_some, Option.map_some, and_self, true_and, and_true, line_pos0, line_pos1, line_pos2, line_pos3, Int.reduceEq, Int.reduceLT, Int.reduceLE, Int.reduceAdd, Int.reduceSub, Int.reduceMul, Int.reduceNeg, Int.reduceToNat, Int.reduceNe, Int.reducePow, Nat.reduceLeDiff, Nat.reduceLT, Nat.reduceEqDiff]
  refine es_of (draw_ok (n + 1) hW1 (by omega) (by omega)) ?_
  rintro _ S2 ⟨at_, rfl, a0, a1, hW2, hF2⟩
  have hF := hF1.trans hF2
  try simp -implicitDefEqProofs only [f_bind, f_noX, f_sSeq, f_eS, f_sIf, f_sRet, a_sRetN, f_sSet, f_sPar, f_sAsg, f_sEx, a_sNil, f_sFor, f_sFldP, f_x2, f_x2F, f_x1, f_xIf, f_xAn, f_xOo, f_xNo, f_xTru, f_xBl, f_tNo, f_tAn, f_tOo, f_xCons, f_xNil, f_xTup, f_xMk, f_xP, f_xCall, f_xCallK, f_x3, f_ch3, f_var, f_gv, f_xC, f_xComp, f_itSeq, f_itEnum, f_itR1, f_itR2, f_toInt, f_xBM, f_xCut, f_xPart, f_xNoP, f_xFld, f_prC, f_xProp, f_gNm, f_gTp, f_gCn, f_gNl, f_gSb, f_xNew, bd_ok, bd_bad, bd_exc, es_ok, es_exc, st_ok, nex_ok, sq_nx, sq_rt, sq_bk, sq_ct, sq_exc, bd_bd, es_bd, st_bd, sq_es, sq_st, sq_sq, a_ev1, a_ev2, f_truB, f_truI, f_toBl, f_add, f_sub, f_mul, f_div, f_mod, f_pow, f_neg, f_lt, f_le, f_gt, f_ge, f_int, f_abs, f_lenT, f_lenL, f_tupT, f_divmod, f_catT, f_catL, f_eqI, f_eqS, f_neS, f_isN, f_isNN, f_ixT, f_ixL, f_ofS, f_seqT, f_seqL, f_seqC, f_enT, f_enL, f_isS, f_lenC, f_sumT, f_sumL, f_sumF, f_allF, f_anyF, f_min, f_max, ho_rt, ho_nx, ho_exc, ho_ok, lp_nx, lp_ct, lp_bk, lp_rt, lp_exc, wipeE, a_pure, a_stuck, f_mkF, f_mkT, l_L, l_C, l_F, l_ap, l_pf, l_mk, l_seqOf, l_seqOfT, l_seqOfL, l_ix, l_seqIt, l_en, l_tup, l_isL, l_app, l_set, l_fld, l_insC, l_putF, l_lst, l_cutT, l_cutL, l_cutR, l_cutC, l_catRR, at_0, at_1, at_2, at_3, at_last, st_0, st_1, st_2, Option.isSome_some, List.map_cons, List.map_nil, List.length_cons, List.length_nil, List.cons_append, List.nil_append, List.getElem?_cons_zero, List.getElem?_cons_succ, List.set_cons_zero, List.set_cons_succ, List.replicate_succ, List.replicate_zero, List.zip_cons_cons, List.zip_nil_left, List.zip_nil_right, List.foldl_cons, List.foldl_nil, Nat.reduceAdd, Nat.reduceSub, Nat.zero_add, if_true, if_false, Bool.false_eq_true, reduceIte, reduceCtorEq, decide_true, decide_false, decide_eq_true_eq, Bool.not_eq_eq_eq_not, Bool.not_true, Bool.not_false, decide_eq_false_iff_not, ite_not, Bool.true_and, Bool.and_true, Bool.false_and, Bool.and_false, Option.bind_some, Option.map_some, and_self, true_and, and_true, line_pos0, line_pos1, line_pos2, line_pos3, Int.reduceEq, Int.reduceLT, Int.reduceLE, Int.reduceAdd, Int.reduceSub, Int.reduceMul, Int.reduceNeg, Int.reduceToNat, Int.reduceNe, Int.reducePow, Nat.reduceLeDiff, Nat.reduceLT, Nat.reduceEqDiff]
  by_cases hw0 : way = 0
  · have i1 : i62 (k : Int) = true := i62_le (by omega)
    have e1 : ((k : Int)).toNat = k := by omega
    try simp -implicitDefEqProofs only [f_bind, f_noX, f_sSeq, f_eS, f_sIf, f_sRet, a_sRetN, f_sSet, f_sPar, f_sAsg, f_sEx, a_sNil, f_sFor, f_sFldP, f_x2, f_x2F, f_x1, f_xIf, f_xAn, f_xOo, f_xNo, f_xTru, f_xBl, f_tNo, f_tAn, f_tOo, f_xCons, f_xNil, f_xTup, f_xMk, f_xP, f_xCall, f_xCallK, f_x3, f_ch3, f_var, f_gv, f_xC, f_xComp, f_itSeq, f_itEnum, f_itR1, f_itR2, f_toInt, f_xBM, f_xCut, f_xPart, f_xNoP, f_xFld, f_prC, f_xProp, f_gNm, f_gTp, f_gCn, f_gNl, f_gSb, f_xNew, bd_ok, bd_bad, bd_exc, es_ok, es_exc, st_ok, nex_ok, sq_nx, sq_rt, sq_bk, sq_ct, sq_exc, bd_bd, es_bd, st_bd, sq_es, sq_st, sq_sq, a_ev1, a_ev2, f_truB, f_truI, f_toBl, f_add, f_sub, f_mul, f_div, f_mod, f_pow, f_neg, f_lt, f_le, f_gt, f_ge, f_int, f_abs, f_lenT, f_lenL, f_tupT, f_divmod, f_catT, f_catL, f_eqI, f_eqS, f_neS, f_isN, f_isNN, f_ixT, f_ixL, f_ofS, f_seqT, f_seqL, f_seqC, f_enT, f_enL, f_isS, f_lenC, f_sumT, f_sumL, f_sumF, f_allF, f_anyF, f_min, f_max, ho_rt, ho_nx, ho_exc, ho_ok, lp_nx, lp_ct, lp_bk, lp_rt, lp_exc, wipeE, a_pure, a_stuck, f_mkF, f_mkT, l_L, l_C, l_F, l_ap, l_pf, l_mk, l_seqOf, l_seqOfT, l_seqOfL, l_ix, l_seqIt, l_en, l_tup, l_isL, l_app, l_set, l_fld, l_insC, l_putF, l_lst, l_cutT, l_cutL, l_cutR, l_cutC, l_catRR, at_0, at_1, at_2, at_3, at_last, st_0, st_1, st_2, Option.isSome_some, List.map_cons, List.map_nil, List.length_cons, List.length_nil, List.cons_append, List.nil_append, List.getElem?_cons_zero, List.getElem?_cons_succ, List.set_cons_zero, List.set_cons_succ, List.replicate_succ, List.replicate_zero, List.zip_cons_cons, List.zip_nil_left, List.zip_nil_right, List.foldl_cons, List.foldl_nil, Nat.reduceAdd, Nat.reduceSub, Nat.zero_add, if_true, if_false, Bool.false_eq_true, reduceIte, reduceCtorEq, decide_true, decide_false, decide_eq_true_eq, Bool.not_eq_eq_eq_not, Bool.not_true, Bool.not_false, decide_eq_false_iff_not, ite_not, Bool.true_and, Bool.and_true, Bool.false_and, Bool.and_false, Option.bind_some, Option.map_some, and_self, true_and, and_true, line_pos0, line_pos1, line_pos2, line_pos3, Int.reduceEq, Int.reduceLT, Int.reduceLE, Int.reduceAdd, Int.reduceSub, Int.reduceMul, Int.reduceNeg, Int.reduceToNat, Int.reduceNe, Int.reducePow, Nat.reduceLeDiff, Nat.reduceLT, Nat.reduceEqDiff, hw0, i1, e1]
    refine es_of (comp_st (List.range k) (fun (i : Nat) => D.int (i : Int)) (fun done ys S' => ∃ ss : List Int, ys = ss.map D.int ∧ ss.length = done.length ∧ (∀ z ∈ ss, 0 ≤ z ∧ z ≤ u) ∧ Well S' w ∧ Dn.Fr w S S') (rngL_0 _) (fun _ _ _ _ => rfl) (by rw [List.length_range]; unfold line; omega) ⟨[], rfl, rfl, by simp, hW2, hF⟩ ?_) ?_
    · rintro done y left ys S3 hd ⟨ss, rfl, hl, hz, hW3, hF3⟩
      try simp -implicitDefEqProofs only [f_bind, f_noX, f_sSeq, f_eS, f_sIf, f_sRet, a_sRetN, f_sSet, f_sPar, f_sAsg, f_sEx, a_sNil, f_sFor, f_sFldP, f_x2, f_x2F, f_x1, f_xIf, f_xAn, f_xOo, f_xNo, f_xTru, f_xBl, f_tNo, f_tAn, f_tOo, f_xCons, f_xNil, f_xTup, f_xMk, f_xP, f_xCall, f_xCallK, f_x3, f_ch3, f_var, f_gv, f_xC, f_xComp, f_itSeq, f_itEnum, f_itR1, f_itR2, f_toInt, f_xBM, f_xCut, f_xPart, f_xNoP, f_xFld, f_prC, f_xProp, f_gNm, f_gTp, f_gCn, f_gNl, f_gSb, f_xNew, bd_ok, bd_bad, bd_exc, es_ok, es_exc, st_ok, nex_ok, sq_nx, sq_rt, sq_bk, sq_ct, sq_exc, bd_bd, es_bd, st_bd, sq_es, sq_st, sq_sq, a_ev1, a_ev2, f_truB, f_truI, f_toBl, f_add, f_sub, f_mul, f_div, f_mod, f_pow, f_neg, f_lt, f_le, f_gt, f_ge, f_int, f_abs, f_lenT, f_lenL, f_tupT, f_divmod, f_catT, f_catL, f_eqI, f_eqS, f_neS, f_isN, f_isNN, f_ixT, f_ixL, f_ofS, f_seqT, f_seqL, f_seqC, f_enT, f_enL, f_isS, f_lenC, f_sumT, f_sumL, f_sumF, f_allF, f_anyF, f_min, f_max, ho_rt, ho_nx, ho_exc, ho_ok, lp_nx, lp_ct, lp_bk, lp_rt, lp_exc, wipeE, a_pure, a_stuck, f_mkF, f_mkT, l_L, l_C, l_F, l_ap, l_pf, l_mk, l_seqOf, l_seqOfT, l_seqOfL, l_ix, l_seqIt, l_en, l_tup, l_isL, l_app, l_set, l_fld, l_insC, l_putF, l_lst, l_cutT, l_cutL, l_cutR, l_cutC, l_catRR, at_0, at_1, at_2, at_3, at_last, st_0, st_1, st_2, Option.isSome_some, List.map_cons, List.map_nil, List.length_cons, List.length_nil, List.cons_append, List.nil_append, List.getElem?_cons_zero, List.getElem?_cons_succ, List.set_cons_zero, List.set_cons_succ, List.replicate_succ, List.replicate_zero, List.zip_cons_cons, List.zip_nil_left, List.zip_nil_right, List.foldl_cons, List.foldl_nil, Nat.reduceAdd, Nat.reduceSub, Nat.zero_add, if_true, if_false, Bool.false_eq_true, reduceIte, reduceCtorEq, decide_true, decide_false, decide_eq_true_eq, Bool.not_eq_eq_eq_not, Bool.not_true, Bool.not_false, decide_eq_false_iff_not, ite_not, Bool.true_and, Bool.and_true, Bool.false_and, Bool.and_false, Option.bind_some, Option.map_some, and_self, true_and, and_true, line_pos0, line_pos1, line_pos2, line_pos3, Int.reduceEq, Int.reduceLT, Int.reduceLE, Int.reduceAdd, Int.reduceSub, Int.reduceMul, Int.reduceNeg, Int.reduceToNat, Int.reduceNe, Int.reducePow, Nat.reduceLeDiff, Nat.reduceLT, Nat.reduceEqDiff]
      refine ok_imp (draw_ok (n + 1) hW3 (by omega) (by omega)) ?_
      rintro _ S4 ⟨r, rfl, r0, r1, hW4, hF4⟩
      refine ⟨ss ++ [r], by simp, by simp [hl], ?_, hW4, hF3.trans hF4⟩
      intro z hz2
      rcases List.mem_append.mp hz2 with q | q
      · exact hz z q
      · have : z = r := by simpa using q
        omega
    · rintro ys S3 ⟨⟨ss, rfl, hl, hz, hW3, hF3⟩, hl2, hl3⟩
      rw [List.length_range] at hl
      try simp -implicitDefEqProofs only [f_bind, f_noX, f_sSeq, f_eS, f_sIf, f_sRet, a_sRetN, f_sSet, f_sPar, f_sAsg, f_sEx, a_sNil, f_sFor, f_sFldP, f_x2, f_x2F, f_x1, f_xIf, f_xAn, f_xOo, f_xNo, f_xTru, f_xBl, f_tNo, f_tAn, f_tOo, f_xCons, f_xNil, f_xTup, f_xMk, f_xP, f_xCall, f_xCallK, f_x3, f_ch3, f_var, f_gv, f_xC, f_xComp, f_itSeq, f_itEnum, f_itR1, f_itR2, f_toInt, f_xBM, f_xCut, f_xPart, f_xNoP, f_xFld, f_prC, f_xProp, f_gNm, f_gTp, f_gCn, f_gNl, f_gSb, f_xNew, bd_ok, bd_bad, bd_exc, es_ok, es_exc, st_ok, nex_ok, sq_nx, sq_rt, sq_bk, sq_ct, sq_exc, bd_bd, es_bd, st_bd, sq_es, sq_st, sq_sq, a_ev1, a_ev2, f_truB, f_truI, f_toBl, f_add, f_sub, f_mul, f_div, f_mod, f_pow, f_neg, f_lt, f_le, f_gt, f_ge, f_int, f_abs, f_lenT, f_lenL, f_tupT, f_divmod, f_catT, f_catL, f_eqI, f_eqS, f_neS, f_isN, f_isNN, f_ixT, f_ixL, f_ofS, f_seqT, f_seqL, f_seqC, f_enT, f_enL, f_isS, f_lenC, f_sumT, f_sumL, f_sumF, f_allF, f_anyF, f_min, f_max, ho_rt, ho_nx, ho_exc, ho_ok, lp_nx, lp_ct, lp_bk, lp_rt, lp_exc, wipeE, a_pure, a_stuck, f_mkF, f_mkT, l_L, l_C, l_F, l_ap, l_pf, l_mk, l_seqOf, l_seqOfT, l_seqOfL, l_ix, l_seqIt, l_en, l_tup, l_isL, l_app, l_set, l_fld, l_insC, l_putF, l_lst, l_cutT, l_cutL, l_cutR, l_cutC, l_catRR, at_0, at_1, at_2, at_3, at_last, st_0, st_1, st_2, Option.isSome_some, List.map_cons, List.map_nil, List.length_cons, List.length_nil, List.cons_append, List.nil_append, List.getElem?_cons_zero, List.getElem?_cons_succ, List.set_cons_zero, List.set_cons_succ, List.replicate_succ, List.replicate_zero, List.zip_cons_cons, List.zip_nil_left, List.zip_nil_right, List.foldl_cons, List.foldl_nil, Nat.reduceAdd, Nat.reduceSub, Nat.zero_add, if_true, if_false, Bool.false_eq_true, reduceIte, reduceCtorEq, decide_true, decide_false, decide_eq_true_eq, Bool.not_eq_eq_eq_not, Bool.not_true, Bool.not_false, decide_eq_false_iff_not, ite_not, Bool.true_and, Bool.and_true, Bool.false_and, Bool.and_false, Option.bind_some, Option.map_some, and_self, true_and, and_true, line_pos0, line_pos1, line_pos2, line_pos3, Int.reduceEq, Int.reduceLT, Int.reduceLE, Int.reduceAdd, Int.reduceSub, Int.reduceMul, Int.reduceNeg, Int.reduceToNat, Int.reduceNe, Int.reducePow, Nat.reduceLeDiff, Nat.reduceLT, Nat.reduceEqDiff, hl3]
      exact ⟨⟨ss, rfl, by omega, by omega, hz⟩, hW3, hF3⟩
  · by_cases hw3 : way < 3
    · obtain ⟨c, hc, hc2, hck⟩ : ∃ c : Nat, ((3 < (k : Int) ∧ u = 100 ∧ c = 4) ∨ (¬ (3 < (k : Int) ∧ u = 100) ∧ c = 2)) ∧ (c = 2 ∨ c = 4) ∧ c ≤ k := by
        by_cases q : 3 < (k : Int) ∧ u = 100
        · exact ⟨4, .inl ⟨q.1, q.2, rfl⟩, .inr rfl, by omega⟩
        · exact ⟨2, .inr ⟨q, rfl⟩, .inl rfl, by omega⟩
      have hpick : ∀ (e : Dn.Env) (S : Sto) (K : D → Sto → RS), ((if 3 < (k : Int) then Res.ok (decide (u = 100)) S else Res.ok false S).es e fun x S => (if x = true then Res.ok (D.int 4) S else Res.ok (D.int 2) S).es e K) = K (D.int (c : Int)) S := by
        intro e S K
        rcases hc with ⟨q1, q2, rfl⟩ | ⟨q, rfl⟩
        · rw [if_pos q1, q2]; rfl
        · by_cases q1 : 3 < (k : Int)
          · have : ¬ u = 100 := fun z => q ⟨q1, z⟩
            rw [if_pos q1, decide_eq_false this]; rfl
          · rw [if_neg q1]; rfl
      have hdiv : (c : Int).fdiv 2 = (c : Int) / 2 := Int.fdiv_eq_ediv_of_nonneg _ (by omega)
      try simp -implicitDefEqProofs only [f_bind, f_noX, f_sSeq, f_eS, f_sIf, f_sRet, a_sRetN, f_sSet, f_sPar, f_sAsg, f_sEx, a_sNil, f_sFor, f_sFldP, f_x2, f_x2F, f_x1, f_xIf, f_xAn, f_xOo, f_xNo, f_xTru, f_xBl, f_tNo, f_tAn, f_tOo, f_xCons, f_xNil, f_xTup, f_xMk, f_xP, f_xCall, f_xCallK, f_x3, f_ch3, f_var, f_gv, f_xC, f_xComp, f_itSeq, f_itEnum, f_itR1, f_itR2, f_toInt, f_xBM, f_xCut, f_xPart, f_xNoP, f_xFld, f_prC, f_xProp, f_gNm, f_gTp, f_gCn, f_gNl, f_gSb, f_xNew, bd_ok, bd_bad, bd_exc, es_ok, es_exc, st_ok, nex_ok, sq_nx, sq_rt, sq_bk, sq_ct, sq_exc, bd_bd, es_bd, st_bd, sq_es, sq_st, sq_sq, a_ev1, a_ev2, f_truB, f_truI, f_toBl, f_add, f_sub, f_mul, f_div, f_mod, f_pow, f_neg, f_lt, f_le, f_gt, f_ge, f_int, f_abs, f_lenT, f_lenL, f_tupT, f_divmod, f_catT, f_catL, f_eqI, f_eqS, f_neS, f_isN, f_isNN, f_ixT, f_ixL, f_ofS, f_seqT, f_seqL, f_seqC, f_enT, f_enL, f_isS, f_lenC, f_sumT, f_sumL, f_sumF, f_allF, f_anyF, f_min, f_max, ho_rt, ho_nx, ho_exc, ho_ok, lp_nx, lp_ct, lp_bk, lp_rt, lp_exc, wipeE, a_pure, a_stuck, f_mkF, f_mkT, l_L, l_C, l_F, l_ap, l_pf, l_mk, l_seqOf, l_seqOfT, l_seqOfL, l_ix, l_seqIt, l_en, l_tup, l_isL, l_app, l_set, l_fld, l_insC, l_putF, l_lst, l_cutT, l_cutL, l_cutR, l_cutC, l_catRR, at_0, at_1, at_2, at_3, at_last, st_0, st_1, st_2, Option.isSome_some, List.map_cons, List.map_nil, List.length_cons, List.length_nil, List.cons_append, List.nil_append, List.getElem?_cons_zero, List.getElem?_cons_succ, List.set_cons_zero, List.set_cons_succ, List.replicate_succ, List.replicate_zero, List.zip_cons_cons, List.zip_nil_left, List.zip_nil_right, List.foldl_cons, List.foldl_nil, Nat.reduceAdd, Nat.reduceSub, Nat.zero_add, if_true, if_false, Bool.false_eq_true, reduceIte, reduceCtorEq, decide_true, decide_false, decide_eq_true_eq, Bool.not_eq_eq_eq_not, Bool.not_true, Bool.not_false, decide_eq_false_iff_not, ite_not, Bool.true_and, Bool.and_true, Bool.false_and, Bool.and_false, Option.bind_some, Option.map_some, and_self, true_and, and_true, line_pos0, line_pos1, line_pos2, line_pos3, Int.reduceEq, Int.reduceLT, Int.reduceLE, Int.reduceAdd, Int.reduceSub, Int.reduceMul, Int.reduceNeg, Int.reduceToNat, Int.reduceNe, Int.reducePow, Nat.reduceLeDiff, Nat.reduceLT, Nat.reduceEqDiff, hw0, hw3, hpick, d2, hdiv]
      refine es_of (dealt_ok n hW2 (k := c) (p := u - (c : Int) / 2) (by omega) (by omega)) ?_
      rintro _ S3 ⟨⟨cs, rfl, c1, c2, c3⟩, hW3, hF3⟩
      have hcs := le_sum c2
      try simp -implicitDefEqProofs only [f_bind, f_noX, f_sSeq, f_eS, f_sIf, f_sRet, a_sRetN, f_sSet, f_sPar, f_sAsg, f_sEx, a_sNil, f_sFor, f_sFldP, f_x2, f_x2F, f_x1, f_xIf, f_xAn, f_xOo, f_xNo, f_xTru, f_xBl, f_tNo, f_tAn, f_tOo, f_xCons, f_xNil, f_xTup, f_xMk, f_xP, f_xCall, f_xCallK, f_x3, f_ch3, f_var, f_gv, f_xC, f_xComp, f_itSeq, f_itEnum, f_itR1, f_itR2, f_toInt, f_xBM, f_xCut, f_xPart, f_xNoP, f_xFld, f_prC, f_xProp, f_gNm, f_gTp, f_gCn, f_gNl, f_gSb, f_xNew, bd_ok, bd_bad, bd_exc, es_ok, es_exc, st_ok, nex_ok, sq_nx, sq_rt, sq_bk, sq_ct, sq_exc, bd_bd, es_bd, st_bd, sq_es, sq_st, sq_sq, a_ev1, a_ev2, f_truB, f_truI, f_toBl, f_add, f_sub, f_mul, f_div, f_mod, f_pow, f_neg, f_lt, f_le, f_gt, f_ge, f_int, f_abs, f_lenT, f_lenL, f_tupT, f_divmod, f_catT, f_catL, f_eqI, f_eqS, f_neS, f_isN, f_isNN, f_ixT, f_ixL, f_ofS, f_seqT, f_seqL, f_seqC, f_enT, f_enL, f_isS, f_lenC, f_sumT, f_sumL, f_sumF, f_allF, f_anyF, f_min, f_max, ho_rt, ho_nx, ho_exc, ho_ok, lp_nx, lp_ct, lp_bk, lp_rt, lp_exc, wipeE, a_pure, a_stuck, f_mkF, f_mkT, l_L, l_C, l_F, l_ap, l_pf, l_mk, l_seqOf, l_seqOfT, l_seqOfL, l_ix, l_seqIt, l_en, l_tup, l_isL, l_app, l_set, l_fld, l_insC, l_putF, l_lst, l_cutT, l_cutL, l_cutR, l_cutC, l_catRR, at_0, at_1, at_2, at_3, at_last, st_0, st_1, st_2, Option.isSome_some, List.map_cons, List.map_nil, List.length_cons, List.length_nil, List.cons_append, List.nil_append, List.getElem?_cons_zero, List.getElem?_cons_succ, List.set_cons_zero, List.set_cons_succ, List.replicate_succ, List.replicate_zero, List.zip_cons_cons, List.zip_nil_left, List.zip_nil_right, List.foldl_cons, List.foldl_nil, Nat.reduceAdd, Nat.reduceSub, Nat.zero_add, if_true, if_false, Bool.false_eq_true, reduceIte, reduceCtorEq, decide_true, decide_false, decide_eq_true_eq, Bool.not_eq_eq_eq_not, Bool.not_true, Bool.not_false, decide_eq_false_iff_not, ite_not, Bool.true_and, Bool.and_true, Bool.false_and, Bool.and_false, Option.bind_some, Option.map_some, and_self, true_and, and_true, line_pos0, line_pos1, line_pos2, line_pos3, Int.reduceEq, Int.reduceLT, Int.reduceLE, Int.reduceAdd, Int.reduceSub, Int.reduceMul, Int.reduceNeg, Int.reduceToNat, Int.reduceNe, Int.reducePow, Nat.reduceLeDiff, Nat.reduceLT, Nat.reduceEqDiff]
      refine es_of (comp_all cs D.int (fun c => .int (1 + c)) rfl rfl (by unfold line; omega) ?_) ?_
      · intro y hy
        try simp -implicitDefEqProofs only [f_bind, f_noX, f_sSeq, f_eS, f_sIf, f_sRet, a_sRetN, f_sSet, f_sPar, f_sAsg, f_sEx, a_sNil, f_sFor, f_sFldP, f_x2, f_x2F, f_x1, f_xIf, f_xAn, f_xOo, f_xNo, f_xTru, f_xBl, f_tNo, f_tAn, f_tOo, f_xCons, f_xNil, f_xTup, f_xMk, f_xP, f_xCall, f_xCallK, f_x3, f_ch3, f_var, f_gv, f_xC, f_xComp, f_itSeq, f_itEnum, f_itR1, f_itR2, f_toInt, f_xBM, f_xCut, f_xPart, f_xNoP, f_xFld, f_prC, f_xProp, f_gNm, f_gTp, f_gCn, f_gNl, f_gSb, f_xNew, bd_ok, bd_bad, bd_exc, es_ok, es_exc, st_ok, nex_ok, sq_nx, sq_rt, sq_bk, sq_ct, sq_exc, bd_bd, es_bd, st_bd, sq_es, sq_st, sq_sq, a_ev1, a_ev2, f_truB, f_truI, f_toBl, f_add, f_sub, f_mul, f_div, f_mod, f_pow, f_neg, f_lt, f_le, f_gt, f_ge, f_int, f_abs, f_lenT, f_lenL, f_tupT, f_divmod, f_catT, f_catL, f_eqI, f_eqS, f_neS, f_isN, f_isNN, f_ixT, f_ixL, f_ofS, f_seqT, f_seqL, f_seqC, f_enT, f_enL, f_isS, f_lenC, f_sumT, f_sumL, f_sumF, f_allF, f_anyF, f_min, f_max, ho_rt, ho_nx, ho_exc, ho_ok, lp_nx, lp_ct, lp_bk, lp_rt, lp_exc, wipeE, a_pure, a_stuck, f_mkF, f_mkT, l_L, l_C, l_F, l_ap, l_pf, l_mk, l_seqOf, l_seqOfT, l_seqOfL, l_ix, l_seqIt, l_en, l_tup, l_isL, l_app, l_set, l_fld, l_insC, l_putF, l_lst, l_cutT, l_cutL, l_cutR, l_cutC, l_catRR, at_0, at_1, at_2, at_3, at_last, st_0, st_1, st_2, Option.isSome_some, List.map_cons, List.map_nil, List.length_cons, List.length_nil, List.cons_append, List.nil_append, List.getElem?_cons_zero, List.getElem?_cons_succ, List.set_cons_zero, List.set_cons_succ, List.replicate_succ, List.replicate_zero, List.zip_cons_cons, List.zip_nil_left, List.zip_nil_right, List.foldl_cons, List.foldl_nil, Nat.reduceAdd, Nat.reduceSub, Nat.zero_add, if_true, if_false, Bool.false_eq_true, reduceIte, reduceCtorEq, decide_true, decide_false, decide_eq_true_eq, Bool.not_eq_eq_eq_not, Bool.not_true, Bool.not_false, decide_eq_false_iff_not, ite_not, Bool.true_and, Bool.and_true, Bool.false_and, Bool.and_false, Option.bind_some, Option.map_some, and_self, true_and, and_true, line_pos0, line_pos1, line_pos2, line_pos3, Int.reduceEq, Int.reduceLT, Int.reduceLE, Int.reduceAdd, Int.reduceSub, Int.reduceMul, Int.reduceNeg, Int.reduceToNat, Int.reduceNe, Int.reducePow, Nat.reduceLeDiff, Nat.reduceLT, Nat.reduceEqDiff]
        exact is_refl
      rintro _ S_ ⟨rfl, h_, q1⟩; have h_ := h_.symm; subst h_
      have em : cs.map (fun c => D.int (1 + c)) = (cs.map fun c => 1 + c).map D.int := by rw [List.map_map]; rfl
      rw [em] at q1 ⊢
      have hss : ∀ z ∈ cs.map (fun c => 1 + c), 0 ≤ z ∧ z ≤ u := by
        intro z hz
        obtain ⟨y, hy, rfl⟩ := List.mem_map.mp hz
        have := c2 y hy
        have := hcs.1 y hy
        omega
      have hsl : (cs.map fun c => 1 + c).length = c := by rw [List.length_map, c1]
      generalize (cs.map fun c => 1 + c) = ss at *
      have g5 := get_last S3 (.lst (ss.map .int))
      have hW5 := hW3.app [.lst (ss.map .int)]
      have hF5 := (hF.trans hF3).trans (Fr.app w S3 [.lst (ss.map .int)])
      by_cases hw1 : way = 1
      · have h1 : (1 : Nat) ≤ line := by unfold line; decide
        have e0 : ((k : Int) - (c : Int)).toNat = k - c := by omega
        have hmul : ∀ S : Sto, evMulA false (.tmp [.int 0]) (.int ((k : Int) - (c : Int))) S = .ok (.tmp ((List.replicate (k - c) (0 : Int)).map D.int)) S := by
          intro S
          show (if -(2 ^ 63) ≤ ((k : Int) - (c : Int)) ∧ ((k : Int) - (c : Int)) < 2 ^ 63 ∧ ([D.int 0] : List D).length * ((k : Int) - (c : Int)).toNat ≤ line then mkL false (List.replicate ((k : Int) - (c : Int)).toNat [D.int 0]).flatten S else .bad) = _
          rw [if_pos ⟨by omega, by omega, by rw [e0]; simp; unfold line; omega⟩, e0]
          have : (List.replicate (k - c) [D.int 0]).flatten = (List.replicate (k - c) (0 : Int)).map D.int := by
            rw [List.map_replicate]
            induction (k - c) with
            | zero => rfl
            | succ m ih => rw [List.replicate_succ, List.flatten_cons, ih]; rfl
          rw [this, f_mkF, if_pos (by rw [List.length_map, List.length_replicate]; unfold line; omega)]
        have hcat : ∀ S : Sto, S[S3.length]? = some (.lst (ss.map D.int)) → evAddA false (.tmp ((List.replicate (k - c) (0 : Int)).map D.int)) (.ref S3.length) S = .ok (.tmp ((List.replicate (k - c) (0 : Int) ++ ss).map D.int)) S := by
          intro S hS
          show (match lkL S[S3.length]? with
            | some l => mkL false (_ ++ l) S
            | none => _) = _
          rw [hS]
          show mkL false (((List.replicate (k - c) (0 : Int)).map D.int) ++ ss.map D.int) S = _
          rw [← List.map_append, f_mkF, if_pos (by rw [List.length_map, List.length_append, List.length_replicate]; unfold line; omega)]
        try simp -implicitDefEqProofs only [f_bind, f_noX, f_sSeq, f_eS, f_sIf, f_sRet, a_sRetN, f_sSet, f_sPar, f_sAsg, f_sEx, a_sNil, f_sFor, f_sFldP, f_x2, f_x2F, f_x1, f_xIf, f_xAn, f_xOo, f_xNo, f_xTru, f_xBl, f_tNo, f_tAn, f_tOo, f_xCons, f_xNil, f_xTup, f_xMk, f_xP, f_xCall, f_xCallK, f_x3, f_ch3, f_var, f_gv, f_xC, f_xComp, f_itSeq, f_itEnum, f_itR1, f_itR2, f_toInt, f_xBM, f_xCut, f_xPart, f_xNoP, f_xFld, f_prC, f_xProp, f_gNm, f_gTp, f_gCn, f_gNl, f_gSb, f_xNew, bd_ok, bd_bad, bd_exc, es_ok, es_exc, st_ok, nex_ok, sq_nx, sq_rt, sq_bk, sq_ct, sq_exc, bd_bd, es_bd, st_bd, sq_es, sq_st, sq_sq, a_ev1, a_ev2, f_truB, f_truI, f_toBl, f_add, f_sub, f_mul, f_div, f_mod, f_pow, f_neg, f_lt, f_le, f_gt, f_ge, f_int, f_abs, f_lenT, f_lenL, f_tupT, f_divmod, f_catT, f_catL, f_eqI, f_eqS, f_neS, f_isN, f_isNN, f_ixT, f_ixL, f_ofS, f_seqT, f_seqL, f_seqC, f_enT, f_enL, f_isS, f_lenC, f_sumT, f_sumL, f_sumF, f_allF, f_anyF, f_min, f_max, ho_rt, ho_nx, ho_exc, ho_ok, lp_nx, lp_ct, lp_bk, lp_rt, lp_exc, wipeE, a_pure, a_stuck, f_mkF, f_mkT, l_L, l_C, l_F, l_ap, l_pf, l_mk, l_seqOf, l_seqOfT, l_seqOfL, l_ix, l_seqIt, l_en, l_tup, l_isL, l_app, l_set, l_fld, l_insC, l_putF, l_lst, l_cutT, l_cutL, l_cutR, l_cutC, l_catRR, at_0, at_1, at_2, at_3, at_last, st_0, st_1, st_2, Option.isSome_some, List.map_cons, List.map_nil, List.length_cons, List.length_nil, List.cons_append, List.nil_append, List.getElem?_cons_zero, List.getElem?_cons_succ, List.set_cons_zero, List.set_cons_succ, List.replicate_succ, List.replicate_zero, List.zip_cons_cons, List.zip_nil_left, List.zip_nil_right, List.foldl_cons, List.foldl_nil, Nat.reduceAdd, Nat.reduceSub, Nat.zero_add, if_true, if_false, Bool.false_eq_true, reduceIte, reduceCtorEq, decide_true, decide_false, decide_eq_true_eq, Bool.not_eq_eq_eq_not, Bool.not_true, Bool.not_false, decide_eq_false_iff_not, ite_not, Bool.true_and, Bool.and_true, Bool.false_and, Bool.and_false, Option.bind_some, Option.map_some, and_self, true_and, and_true, line_pos0, line_pos1, line_pos2, line_pos3, Int.reduceEq, Int.reduceLT, Int.reduceLE, Int.reduceAdd, Int.reduceSub, Int.reduceMul, Int.reduceNeg, Int.reduceToNat, Int.reduceNe, Int.reducePow, Nat.reduceLeDiff, Nat.reduceLT, Nat.reduceEqDiff, q1, hw1, hmul, hcat _ g5]
        refine ⟨⟨List.replicate (k - c) (0 : Int) ++ ss, rfl, ?_, ?_, ?_⟩, hW5, hF5⟩
        · rw [List.length_append, List.length_replicate]; omega
        · rw [List.length_append, List.length_replicate]; omega
        · intro z hz
          rcases List.mem_append.mp hz with q | q
          · have := (List.mem_replicate.mp q).2
            omega
          · exact hss z q
      · try simp -implicitDefEqProofs only [f_bind, f_noX, f_sSeq, f_eS, f_sIf, f_sRet, a_sRetN, f_sSet, f_sPar, f_sAsg, f_sEx, a_sNil, f_sFor, f_sFldP, f_x2, f_x2F, f_x1, f_xIf, f_xAn, f_xOo, f_xNo, f_xTru, f_xBl, f_tNo, f_tAn, f_tOo, f_xCons, f_xNil, f_xTup, f_xMk, f_xP, f_xCall, f_xCallK, f_x3, f_ch3, f_var, f_gv, f_xC, f_xComp, f_itSeq, f_itEnum, f_itR1, f_itR2, f_toInt, f_xBM, f_xCut, f_xPart, f_xNoP, f_xFld, f_prC, f_xProp, f_gNm, f_gTp, f_gCn, f_gNl, f_gSb, f_xNew, bd_ok, bd_bad, bd_exc, es_ok, es_exc, st_ok, nex_ok, sq_nx, sq_rt, sq_bk, sq_ct, sq_exc, bd_bd, es_bd, st_bd, sq_es, sq_st, sq_sq, a_ev1, a_ev2, f_truB, f_truI, f_toBl, f_add, f_sub, f_mul, f_div, f_mod, f_pow, f_neg, f_lt, f_le, f_gt, f_ge, f_int, f_abs, f_lenT, f_lenL, f_tupT, f_divmod, f_catT, f_catL, f_eqI, f_eqS, f_neS, f_isN, f_isNN, f_ixT, f_ixL, f_ofS, f_seqT, f_seqL, f_seqC, f_enT, f_enL, f_isS, f_lenC, f_sumT, f_sumL, f_sumF, f_allF, f_anyF, f_min, f_max, ho_rt, ho_nx, ho_exc, ho_ok, lp_nx, lp_ct, lp_bk, lp_rt, lp_exc, wipeE, a_pure, a_stuck, f_mkF, f_mkT, l_L, l_C, l_F, l_ap, l_pf, l_mk, l_seqOf, l_seqOfT, l_seqOfL, l_ix, l_seqIt, l_en, l_tup, l_isL, l_app, l_set, l_fld, l_insC, l_putF, l_lst, l_cutT, l_cutL, l_cutR, l_cutC, l_catRR, at_0, at_1, at_2, at_3, at_last, st_0, st_1, st_2, Option.isSome_some, List.map_cons, List.map_nil, List.length_cons, List.length_nil, List.cons_append, List.nil_append, List.getElem?_cons_zero, List.getElem?_cons_succ, List.set_cons_zero, List.set_cons_succ, List.replicate_succ, List.replicate_zero, List.zip_cons_cons, List.zip_nil_left, List.zip_nil_right, List.foldl_cons, List.foldl_nil, Nat.reduceAdd, Nat.reduceSub, Nat.zero_add, if_true, if_false, Bool.false_eq_true, reduceIte, reduceCtorEq, decide_true, decide_false, decide_eq_true_eq, Bool.not_eq_eq_eq_not, Bool.not_true, Bool.not_false, decide_eq_false_iff_not, ite_not, Bool.true_and, Bool.and_true, Bool.false_and, Bool.and_false, Option.bind_some, Option.map_some, and_self, true_and, and_true, line_pos0, line_pos1, line_pos2, line_pos3, Int.reduceEq, Int.reduceLT, Int.reduceLE, Int.reduceAdd, Int.reduceSub, Int.reduceMul, Int.reduceNeg, Int.reduceToNat, Int.reduceNe, Int.reducePow, Nat.reduceLeDiff, Nat.reduceLT, Nat.reduceEqDiff, q1, hw1, g5]
        exact ⟨⟨ss, rfl, by omega, by omega, hss⟩, hW5, hF5⟩
    · try simp -implicitDefEqProofs only [f_bind, f_noX, f_sSeq, f_eS, f_sIf, f_sRet, a_sRetN, f_sSet, f_sPar, f_sAsg, f_sEx, a_sNil, f_sFor, f_sFldP, f_x2, f_x2F, f_x1, f_xIf, f_xAn, f_xOo, f_xNo, f_xTru, f_xBl, f_tNo, f_tAn, f_tOo, f_xCons, f_xNil, f_xTup, f_xMk, f_xP, f_xCall, f_xCallK, f_x3, f_ch3, f_var, f_gv, f_xC, f_xComp, f_itSeq, f_itEnum, f_itR1, f_itR2, f_toInt, f_xBM, f_xCut, f_xPart, f_xNoP, f_xFld, f_prC, f_xProp, f_gNm, f_gTp, f_gCn, f_gNl, f_gSb, f_xNew, bd_ok, bd_bad, bd_exc, es_ok, es_exc, st_ok, nex_ok, sq_nx, sq_rt, sq_bk, sq_ct, sq_exc, bd_bd, es_bd, st_bd, sq_es, sq_st, sq_sq, a_ev1, a_ev2, f_truB, f_truI, f_toBl, f_add, f_sub, f_mul, f_div, f_mod, f_pow, f_neg, f_lt, f_le, f_gt, f_ge, f_int, f_abs, f_lenT, f_lenL, f_tupT, f_divmod, f_catT, f_catL, f_eqI, f_eqS, f_neS, f_isN, f_isNN, f_ixT, f_ixL, f_ofS, f_seqT, f_seqL, f_seqC, f_enT, f_enL, f_isS, f_lenC, f_sumT, f_sumL, f_sumF, f_allF, f_anyF, f_min, f_max, ho_rt, ho_nx, ho_exc, ho_ok, lp_nx, lp_ct, lp_bk, lp_rt, lp_exc, wipeE, a_pure, a_stuck, f_mkF, f_mkT, l_L, l_C, l_F, l_ap, l_pf, l_mk, l_seqOf, l_seqOfT, l_seqOfL, l_ix, l_seqIt, l_en, l_tup, l_isL, l_app, l_set, l_fld, l_insC, l_putF, l_lst, l_cutT, l_cutL, l_cutR, l_cutC, l_catRR, at_0, at_1, at_2, at_3, at_last, st_0, st_1, st_2, Option.isSome_some, List.map_cons, List.map_nil, List.length_cons, List.length_nil, List.cons_append, List.nil_append, List.getElem?_cons_zero, List.getElem?_cons_succ, List.set_cons_zero, List.set_cons_succ, List.replicate_succ, List.replicate_zero, List.zip_cons_cons, List.zip_nil_left, List.zip_nil_right, List.foldl_cons, List.foldl_nil, Nat.reduceAdd, Nat.reduceSub, Nat.zero_add, if_true, if_false, Bool.false_eq_true, reduceIte, reduceCtorEq, decide_true, decide_false, decide_eq_true_eq, Bool.not_eq_eq_eq_not, Bool.not_true, Bool.not_false, decide_eq_false_iff_not, ite_not, Bool.true_and, Bool.and_true, Bool.false_and, Bool.and_false, Option.bind_some, Option.map_some, and_self, true_and, and_true, line_pos0, line_pos1, line_pos2, line_pos3, Int.reduceEq, Int.reduceLT, Int.reduceLE, Int.reduceAdd, Int.reduceSub, Int.reduceMul, Int.reduceNeg, Int.reduceToNat, Int.reduceNe, Int.reducePow, Nat.reduceLeDiff, Nat.reduceLT, Nat.reduceEqDiff, hw0, hw3]
      refine es_of (draw_ok (n + 1) hW2 (by omega) (by omega)) ?_
      rintro _ S3 ⟨pp, rfl, p0, p1, hW3, hF3⟩
      obtain ⟨p, hp⟩ : ∃ p : Int, p = 1 + pp := ⟨_, rfl⟩
      try simp -implicitDefEqProofs only [f_bind, f_noX, f_sSeq, f_eS, f_sIf, f_sRet, a_sRetN, f_sSet, f_sPar, f_sAsg, f_sEx, a_sNil, f_sFor, f_sFldP, f_x2, f_x2F, f_x1, f_xIf, f_xAn, f_xOo, f_xNo, f_xTru, f_xBl, f_tNo, f_tAn, f_tOo, f_xCons, f_xNil, f_xTup, f_xMk, f_xP, f_xCall, f_xCallK, f_x3, f_ch3, f_var, f_gv, f_xC, f_xComp, f_itSeq, f_itEnum, f_itR1, f_itR2, f_toInt, f_xBM, f_xCut, f_xPart, f_xNoP, f_xFld, f_prC, f_xProp, f_gNm, f_gTp, f_gCn, f_gNl, f_gSb, f_xNew, bd_ok, bd_bad, bd_exc, es_ok, es_exc, st_ok, nex_ok, sq_nx, sq_rt, sq_bk, sq_ct, sq_exc, bd_bd, es_bd, st_bd, sq_es, sq_st, sq_sq, a_ev1, a_ev2, f_truB, f_truI, f_toBl, f_add, f_sub, f_mul, f_div, f_mod, f_pow, f_neg, f_lt, f_le, f_gt, f_ge, f_int, f_abs, f_lenT, f_lenL, f_tupT, f_divmod, f_catT, f_catL, f_eqI, f_eqS, f_neS, f_isN, f_isNN, f_ixT, f_ixL, f_ofS, f_seqT, f_seqL, f_seqC, f_enT, f_enL, f_isS, f_lenC, f_sumT, f_sumL, f_sumF, f_allF, f_anyF, f_min, f_max, ho_rt, ho_nx, ho_exc, ho_ok, lp_nx, lp_ct, lp_bk, lp_rt, lp_exc, wipeE, a_pure, a_stuck, f_mkF, f_mkT, l_L, l_C, l_F, l_ap, l_pf, l_mk, l_seqOf, l_seqOfT, l_seqOfL, l_ix, l_seqIt, l_en, l_tup, l_isL, l_app, l_set, l_fld, l_insC, l_putF, l_lst, l_cutT, l_cutL, l_cutR, l_cutC, l_catRR, at_0, at_1, at_2, at_3, at_last, st_0, st_1, st_2, Option.isSome_some, List.map_cons, List.map_nil, List.length_cons, List.length_nil, List.cons_append, List.nil_append, List.getElem?_cons_zero, List.getElem?_cons_succ, List.set_cons_zero, List.set_cons_succ, List.replicate_succ, List.replicate_zero, List.zip_cons_cons, List.zip_nil_left, List.zip_nil_right, List.foldl_cons, List.foldl_nil, Nat.reduceAdd, Nat.reduceSub, Nat.zero_add, if_true, if_false, Bool.false_eq_true, reduceIte, reduceCtorEq, decide_true, decide_false, decide_eq_true_eq, Bool.not_eq_eq_eq_not, Bool.not_true, Bool.not_false, decide_eq_false_iff_not, ite_not, Bool.true_and, Bool.and_true, Bool.false_and, Bool.and_false, Option.bind_some, Option.map_some, and_self, true_and, and_true, line_pos0, line_pos1, line_pos2, line_pos3, Int.reduceEq, Int.reduceLT, Int.reduceLE, Int.reduceAdd, Int.reduceSub, Int.reduceMul, Int.reduceNeg, Int.reduceToNat, Int.reduceNe, Int.reducePow, Nat.reduceLeDiff, Nat.reduceLT, Nat.reduceEqDiff, ← hp]
      refine es_of (dealt_ok n hW3 (k := k) (p := p) (by omega) (by omega)) ?_
      rintro _ S4 ⟨⟨cs, rfl, c1, c2, c3⟩, hW4, hF4⟩
      have hcs := le_sum c2
      try simp -implicitDefEqProofs only [f_bind, f_noX, f_sSeq, f_eS, f_sIf, f_sRet, a_sRetN, f_sSet, f_sPar, f_sAsg, f_sEx, a_sNil, f_sFor, f_sFldP, f_x2, f_x2F, f_x1, f_xIf, f_xAn, f_xOo, f_xNo, f_xTru, f_xBl, f_tNo, f_tAn, f_tOo, f_xCons, f_xNil, f_xTup, f_xMk, f_xP, f_xCall, f_xCallK, f_x3, f_ch3, f_var, f_gv, f_xC, f_xComp, f_itSeq, f_itEnum, f_itR1, f_itR2, f_toInt, f_xBM, f_xCut, f_xPart, f_xNoP, f_xFld, f_prC, f_xProp, f_gNm, f_gTp, f_gCn, f_gNl, f_gSb, f_xNew, bd_ok, bd_bad, bd_exc, es_ok, es_exc, st_ok, nex_ok, sq_nx, sq_rt, sq_bk, sq_ct, sq_exc, bd_bd, es_bd, st_bd, sq_es, sq_st, sq_sq, a_ev1, a_ev2, f_truB, f_truI, f_toBl, f_add, f_sub, f_mul, f_div, f_mod, f_pow, f_neg, f_lt, f_le, f_gt, f_ge, f_int, f_abs, f_lenT, f_lenL, f_tupT, f_divmod, f_catT, f_catL, f_eqI, f_eqS, f_neS, f_isN, f_isNN, f_ixT, f_ixL, f_ofS, f_seqT, f_seqL, f_seqC, f_enT, f_enL, f_isS, f_lenC, f_sumT, f_sumL, f_sumF, f_allF, f_anyF, f_min, f_max, ho_rt, ho_nx, ho_exc, ho_ok, lp_nx, lp_ct, lp_bk, lp_rt, lp_exc, wipeE, a_pure, a_stuck, f_mkF, f_mkT, l_L, l_C, l_F, l_ap, l_pf, l_mk, l_seqOf, l_seqOfT, l_seqOfL, l_ix, l_seqIt, l_en, l_tup, l_isL, l_app, l_set, l_fld, l_insC, l_putF, l_lst, l_cutT, l_cutL, l_cutR, l_cutC, l_catRR, at_0, at_1, at_2, at_3, at_last, st_0, st_1, st_2, Option.isSome_some, List.map_cons, List.map_nil, List.length_cons, List.length_nil, List.cons_append, List.nil_append, List.getElem?_cons_zero, List.getElem?_cons_succ, List.set_cons_zero, List.set_cons_succ, List.replicate_succ, List.replicate_zero, List.zip_cons_cons, List.zip_nil_left, List.zip_nil_right, List.foldl_cons, List.foldl_nil, Nat.reduceAdd, Nat.reduceSub, Nat.zero_add, if_true, if_false, Bool.false_eq_true, reduceIte, reduceCtorEq, decide_true, decide_false, decide_eq_true_eq, Bool.not_eq_eq_eq_not, Bool.not_true, Bool.not_false, decide_eq_false_iff_not, ite_not, Bool.true_and, Bool.and_true, Bool.false_and, Bool.and_false, Option.bind_some, Option.map_some, and_self, true_and, and_true, line_pos0, line_pos1, line_pos2, line_pos3, Int.reduceEq, Int.reduceLT, Int.reduceLE, Int.reduceAdd, Int.reduceSub, Int.reduceMul, Int.reduceNeg, Int.reduceToNat, Int.reduceNe, Int.reducePow, Nat.reduceLeDiff, Nat.reduceLT, Nat.reduceEqDiff]
      refine es_of (near_all (n + 1) (u := u) (p := p) (cs := cs) hu (by omega) (by omega) rfl (by unfold line; omega) ?_) ?_
      · intro c
        try simp -implicitDefEqProofs only [f_bind, f_noX, f_sSeq, f_eS, f_sIf, f_sRet, a_sRetN, f_sSet, f_sPar, f_sAsg, f_sEx, a_sNil, f_sFor, f_sFldP, f_x2, f_x2F, f_x1, f_xIf, f_xAn, f_xOo, f_xNo, f_xTru, f_xBl, f_tNo, f_tAn, f_tOo, f_xCons, f_xNil, f_xTup, f_xMk, f_xP, f_xCall, f_xCallK, f_x3, f_ch3, f_var, f_gv, f_xC, f_xComp, f_itSeq, f_itEnum, f_itR1, f_itR2, f_toInt, f_xBM, f_xCut, f_xPart, f_xNoP, f_xFld, f_prC, f_xProp, f_gNm, f_gTp, f_gCn, f_gNl, f_gSb, f_xNew, bd_ok, bd_bad, bd_exc, es_ok, es_exc, st_ok, nex_ok, sq_nx, sq_rt, sq_bk, sq_ct, sq_exc, bd_bd, es_bd, st_bd, sq_es, sq_st, sq_sq, a_ev1, a_ev2, f_truB, f_truI, f_toBl, f_add, f_sub, f_mul, f_div, f_mod, f_pow, f_neg, f_lt, f_le, f_gt, f_ge, f_int, f_abs, f_lenT, f_lenL, f_tupT, f_divmod, f_catT, f_catL, f_eqI, f_eqS, f_neS, f_isN, f_isNN, f_ixT, f_ixL, f_ofS, f_seqT, f_seqL, f_seqC, f_enT, f_enL, f_isS, f_lenC, f_sumT, f_sumL, f_sumF, f_allF, f_anyF, f_min, f_max, ho_rt, ho_nx, ho_exc, ho_ok, lp_nx, lp_ct, lp_bk, lp_rt, lp_exc, wipeE, a_pure, a_stuck, f_mkF, f_mkT, l_L, l_C, l_F, l_ap, l_pf, l_mk, l_seqOf, l_seqOfT, l_seqOfL, l_ix, l_seqIt, l_en, l_tup, l_isL, l_app, l_set, l_fld, l_insC, l_putF, l_lst, l_cutT, l_cutL, l_cutR, l_cutC, l_catRR, at_0, at_1, at_2, at_3, at_last, st_0, st_1, st_2, Option.isSome_some, List.map_cons, List.map_nil, List.length_cons, List.length_nil, List.cons_append, List.nil_append, List.getElem?_cons_zero, List.getElem?_cons_succ, List.set_cons_zero, List.set_cons_succ, List.replicate_succ, List.replicate_zero, List.zip_cons_cons, List.zip_nil_left, List.zip_nil_right, List.foldl_cons, List.foldl_nil, Nat.reduceAdd, Nat.reduceSub, Nat.zero_add, if_true, if_false, Bool.false_eq_true, reduceIte, reduceCtorEq, decide_true, decide_false, decide_eq_true_eq, Bool.not_eq_eq_eq_not, Bool.not_true, Bool.not_false, decide_eq_false_iff_not, ite_not, Bool.true_and, Bool.and_true, Bool.false_and, Bool.and_false, Option.bind_some, Option.map_some, and_self, true_and, and_true, line_pos0, line_pos1, line_pos2, line_pos3, Int.reduceEq, Int.reduceLT, Int.reduceLE, Int.reduceAdd, Int.reduceSub, Int.reduceMul, Int.reduceNeg, Int.reduceToNat, Int.reduceNe, Int.reducePow, Nat.reduceLeDiff, Nat.reduceLT, Nat.reduceEqDiff]
      rintro _ S5 ⟨rfl, h5, hll⟩
      subst h5
      have hss : ∀ z ∈ cs.map (fun c => Poll.near u c p), 0 ≤ z ∧ z ≤ u := by
        intro z hz
        obtain ⟨c, hc, rfl⟩ := List.mem_map.mp hz
        exact near_rng (by omega) (by omega) ⟨c2 c hc, by have := hcs.1 c hc; omega⟩
      have hsl : (cs.map fun c => Poll.near u c p).length = k := by rw [List.length_map, c1]
      generalize (cs.map fun c => Poll.near u c p) = ss at *
      have g5 := get_last S5 (.lst (ss.map .int))
      have hW5 := hW4.app [.lst (ss.map .int)]
      have hF5 := ((hF.trans hF3).trans hF4).trans (Fr.app w S5 [.lst (ss.map .int)])
      have hal : at_.toNat < (ss.map D.int).length := by rw [List.length_map]; omega
      have hget : L2.atI (ss.map D.int) at_ = some (.int (ss[at_.toNat]'(by omega))) := by rw [at_int a0, List.getElem?_eq_getElem hal, List.getElem_map]
      have hrng := hss (ss[at_.toNat]'(by omega)) (List.getElem_mem (by omega))
      have hix : ixN (ss.map D.int).length at_ = some at_.toNat := ix_int (by omega)
      have hfin : ∀ v : Int, 0 ≤ v ∧ v ≤ u → DrP w S (Shr u) (.tup ((ss.map D.int).set at_.toNat (.int v))) ((S5 ++ [O.lst (ss.map D.int)]).set S5.length (O.lst ((ss.map D.int).set at_.toNat (.int v)))) := by
        intro v hv
        refine ⟨⟨ss.set at_.toNat v, ?_, by simp [hsl]; omega, by simp [hsl]; omega, ?_⟩, hW5.ne (Nat.ne_of_gt hW4.lt), hF5.new _ ((hF.trans hF3).trans hF4).len⟩
        · rw [List.map_set]
        · intro z hz
          rcases List.mem_or_eq_of_mem_set hz with q | q
          · exact hss z q
          · rw [q]; exact hv
      generalize hv0 : (ss[at_.toNat]'(by omega)) = v0 at *
      by_cases h1 : way = 3
      · have h2 : ¬ way = 4 := by omega
        have g6 := get_set (u := .lst ((ss.map D.int).set at_.toNat (.int (min u (v0 + 1))))) g5
        try simp -implicitDefEqProofs only [f_bind, f_noX, f_sSeq, f_eS, f_sIf, f_sRet, a_sRetN, f_sSet, f_sPar, f_sAsg, f_sEx, a_sNil, f_sFor, f_sFldP, f_x2, f_x2F, f_x1, f_xIf, f_xAn, f_xOo, f_xNo, f_xTru, f_xBl, f_tNo, f_tAn, f_tOo, f_xCons, f_xNil, f_xTup, f_xMk, f_xP, f_xCall, f_xCallK, f_x3, f_ch3, f_var, f_gv, f_xC, f_xComp, f_itSeq, f_itEnum, f_itR1, f_itR2, f_toInt, f_xBM, f_xCut, f_xPart, f_xNoP, f_xFld, f_prC, f_xProp, f_gNm, f_gTp, f_gCn, f_gNl, f_gSb, f_xNew, bd_ok, bd_bad, bd_exc, es_ok, es_exc, st_ok, nex_ok, sq_nx, sq_rt, sq_bk, sq_ct, sq_exc, bd_bd, es_bd, st_bd, sq_es, sq_st, sq_sq, a_ev1, a_ev2, f_truB, f_truI, f_toBl, f_add, f_sub, f_mul, f_div, f_mod, f_pow, f_neg, f_lt, f_le, f_gt, f_ge, f_int, f_abs, f_lenT, f_lenL, f_tupT, f_divmod, f_catT, f_catL, f_eqI, f_eqS, f_neS, f_isN, f_isNN, f_ixT, f_ixL, f_ofS, f_seqT, f_seqL, f_seqC, f_enT, f_enL, f_isS, f_lenC, f_sumT, f_sumL, f_sumF, f_allF, f_anyF, f_min, f_max, ho_rt, ho_nx, ho_exc, ho_ok, lp_nx, lp_ct, lp_bk, lp_rt, lp_exc, wipeE, a_pure, a_stuck, f_mkF, f_mkT, l_L, l_C, l_F, l_ap, l_pf, l_mk, l_seqOf, l_seqOfT, l_seqOfL, l_ix, l_seqIt, l_en, l_tup, l_isL, l_app, l_set, l_fld, l_insC, l_putF, l_lst, l_cutT, l_cutL, l_cutR, l_cutC, l_catRR, at_0, at_1, at_2, at_3, at_last, st_0, st_1, st_2, Option.isSome_some, List.map_cons, List.map_nil, List.length_cons, List.length_nil, List.cons_append, List.nil_append, List.getElem?_cons_zero, List.getElem?_cons_succ, List.set_cons_zero, List.set_cons_succ, List.replicate_succ, List.replicate_zero, List.zip_cons_cons, List.zip_nil_left, List.zip_nil_right, List.foldl_cons, List.foldl_nil, Nat.reduceAdd, Nat.reduceSub, Nat.zero_add, if_true, if_false, Bool.false_eq_true, reduceIte, reduceCtorEq, decide_true, decide_false, decide_eq_true_eq, Bool.not_eq_eq_eq_not, Bool.not_true, Bool.not_false, decide_eq_false_iff_not, ite_not, Bool.true_and, Bool.and_true, Bool.false_and, Bool.and_false, Option.bind_some, Option.map_some, and_self, true_and, and_true, line_pos0, line_pos1, line_pos2, line_pos3, Int.reduceEq, Int.reduceLT, Int.reduceLE, Int.reduceAdd, Int.reduceSub, Int.reduceMul, Int.reduceNeg, Int.reduceToNat, Int.reduceNe, Int.reducePow, Nat.reduceLeDiff, Nat.reduceLT, Nat.reduceEqDiff, hll, h1, h2, g5, hget, l_st hix, g6]
        exact hfin _ (by omega)
      · by_cases h2 : way = 4
        · have g6 := get_set (u := .lst ((ss.map D.int).set at_.toNat (.int (max 0 (v0 - 1))))) g5
          try simp -implicitDefEqProofs only [f_bind, f_noX, f_sSeq, f_eS, f_sIf, f_sRet, a_sRetN, f_sSet, f_sPar, f_sAsg, f_sEx, a_sNil, f_sFor, f_sFldP, f_x2, f_x2F, f_x1, f_xIf, f_xAn, f_xOo, f_xNo, f_xTru, f_xBl, f_tNo, f_tAn, f_tOo, f_xCons, f_xNil, f_xTup, f_xMk, f_xP, f_xCall, f_xCallK, f_x3, f_ch3, f_var, f_gv, f_xC, f_xComp, f_itSeq, f_itEnum, f_itR1, f_itR2, f_toInt, f_xBM, f_xCut, f_xPart, f_xNoP, f_xFld, f_prC, f_xProp, f_gNm, f_gTp, f_gCn, f_gNl, f_gSb, f_xNew, bd_ok, bd_bad, bd_exc, es_ok, es_exc, st_ok, nex_ok, sq_nx, sq_rt, sq_bk, sq_ct, sq_exc, bd_bd, es_bd, st_bd, sq_es, sq_st, sq_sq, a_ev1, a_ev2, f_truB, f_truI, f_toBl, f_add, f_sub, f_mul, f_div, f_mod, f_pow, f_neg, f_lt, f_le, f_gt, f_ge, f_int, f_abs, f_lenT, f_lenL, f_tupT, f_divmod, f_catT, f_catL, f_eqI, f_eqS, f_neS, f_isN, f_isNN, f_ixT, f_ixL, f_ofS, f_seqT, f_seqL, f_seqC, f_enT, f_enL, f_isS, f_lenC, f_sumT, f_sumL, f_sumF, f_allF, f_anyF, f_min, f_max, ho_rt, ho_nx, ho_exc, ho_ok, lp_nx, lp_ct, lp_bk, lp_rt, lp_exc, wipeE, a_pure, a_stuck, f_mkF, f_mkT, l_L, l_C, l_F, l_ap, l_pf, l_mk, l_seqOf, l_seqOfT, l_seqOfL, l_ix, l_seqIt, l_en, l_tup, l_isL, l_app, l_set, l_fld, l_insC, l_putF, l_lst, l_cutT, l_cutL, l_cutR, l_cutC, l_catRR, at_0, at_1, at_2, at_3, at_last, st_0, st_1, st_2, Option.isSome_some, List.map_cons, List.map_nil, List.length_cons, List.length_nil, List.cons_append, List.nil_append, List.getElem?_cons_zero, List.getElem?_cons_succ, List.set_cons_zero, List.set_cons_succ, List.replicate_succ, List.replicate_zero, List.zip_cons_cons, List.zip_nil_left, List.zip_nil_right, List.foldl_cons, List.foldl_nil, Nat.reduceAdd, Nat.reduceSub, Nat.zero_add, if_true, if_false, Bool.false_eq_true, reduceIte, reduceCtorEq, decide_true, decide_false, decide_eq_true_eq, Bool.not_eq_eq_eq_not, Bool.not_true, Bool.not_false, decide_eq_false_iff_not, ite_not, Bool.true_and, Bool.and_true, Bool.false_and, Bool.and_false, Option.bind_some, Option.map_some, and_self, true_and, and_true, line_pos0, line_pos1, line_pos2, line_pos3, Int.reduceEq, Int.reduceLT, Int.reduceLE, Int.reduceAdd, Int.reduceSub, Int.reduceMul, Int.reduceNeg, Int.reduceToNat, Int.reduceNe, Int.reducePow, Nat.reduceLeDiff, Nat.reduceLT, Nat.reduceEqDiff, hll, h1, h2, g5, hget, l_st hix, g6]
          exact hfin _ (by omega)
        · try simp -implicitDefEqProofs only [f_bind, f_noX, f_sSeq, f_eS, f_sIf, f_sRet, a_sRetN, f_sSet, f_sPar, f_sAsg, f_sEx, a_sNil, f_sFor, f_sFldP, f_x2, f_x2F, f_x1, f_xIf, f_xAn, f_xOo, f_xNo, f_xTru, f_xBl, f_tNo, f_tAn, f_tOo, f_xCons, f_xNil, f_xTup, f_xMk, f_xP, f_xCall, f_xCallK, f_x3, f_ch3, f_var, f_gv, f_xC, f_xComp, f_itSeq, f_itEnum, f_itR1, f_itR2, f_toInt, f_xBM, f_xCut, f_xPart, f_xNoP, f_xFld, f_prC, f_xProp, f_gNm, f_gTp, f_gCn, f_gNl, f_gSb, f_xNew, bd_ok, bd_bad, bd_exc, es_ok, es_exc, st_ok, nex_ok, sq_nx, sq_rt, sq_bk, sq_ct, sq_exc, bd_bd, es_bd, st_bd, sq_es, sq_st, sq_sq, a_ev1, a_ev2, f_truB, f_truI, f_toBl, f_add, f_sub, f_mul, f_div, f_mod, f_pow, f_neg, f_lt, f_le, f_gt, f_ge, f_int, f_abs, f_lenT, f_lenL, f_tupT, f_divmod, f_catT, f_catL, f_eqI, f_eqS, f_neS, f_isN, f_isNN, f_ixT, f_ixL, f_ofS, f_seqT, f_seqL, f_seqC, f_enT, f_enL, f_isS, f_lenC, f_sumT, f_sumL, f_sumF, f_allF, f_anyF, f_min, f_max, ho_rt, ho_nx, ho_exc, ho_ok, lp_nx, lp_ct, lp_bk, lp_rt, lp_exc, wipeE, a_pure, a_stuck, f_mkF, f_mkT, l_L, l_C, l_F, l_ap, l_pf, l_mk, l_seqOf, l_seqOfT, l_seqOfL, l_ix, l_seqIt, l_en, l_tup, l_isL, l_app, l_set, l_fld, l_insC, l_putF, l_lst, l_cutT, l_cutL, l_cutR, l_cutC, l_catRR, at_0, at_1, at_2, at_3, at_last, st_0, st_1, st_2, Option.isSome_some, List.map_cons, List.map_nil, List.length_cons, List.length_nil, List.cons_append, List.nil_append, List.getElem?_cons_zero, List.getElem?_cons_succ, List.set_cons_zero, List.set_cons_succ, List.replicate_succ, List.replicate_zero, List.zip_cons_cons, List.zip_nil_left, List.zip_nil_right, List.foldl_cons, List.foldl_nil, Nat.reduceAdd, Nat.reduceSub, Nat.zero_add, if_true, if_false, Bool.false_eq_true, reduceIte, reduceCtorEq, decide_true, decide_false, decide_eq_true_eq, Bool.not_eq_eq_eq_not, Bool.not_true, Bool.not_false, decide_eq_false_iff_not, ite_not, Bool.true_and, Bool.and_true, Bool.false_and, Bool.and_false, Option.bind_some, Option.map_some, and_self, true_and, and_true, line_pos0, line_pos1, line_pos2, line_pos3, Int.reduceEq, Int.reduceLT, Int.reduceLE, Int.reduceAdd, Int.reduceSub, Int.reduceMul, Int.reduceNeg, Int.reduceToNat, Int.reduceNe, Int.reducePow, Nat.reduceLeDiff, Nat.reduceLT, Nat.reduceEqDiff, hll, h1, h2, g5]
          exact ⟨⟨ss, rfl, by omega, by omega, hss⟩, hW5, hF5⟩
end K69

set_option Elab.async false
set_option linter.all false
set_option maxRecDepth 100000
set_option maxHeartbeats 1000000
namespace K69
open PySem PySem.Spec PyProof.Rows L2 Dn
theorem nums_mem {u : Int} {ss : List Int} {m : Nat} (hm : m ≤ 3000) : (nums u ss m).length ≤ 3000 ∧ ∀ z ∈ nums u ss m, z.natAbs < 2 ^ 150 := by
  unfold nums
  refine ⟨?_, fun z hz => ?_⟩
  · have := List.length_filter_le (fun p => Fit u ss p) ((List.range m).map fun (i : Nat) => (1 : Int) + i)
    rw [List.length_map, List.length_range] at this
    omega
  · obtain ⟨i, hi, rfl⟩ := List.mem_map.mp (List.mem_filter.mp hz).1
    have := List.mem_range.mp hi
    omega
theorem IsP.fr {S S' : Sto} {j w : Nat} {pl : Int} {ss : List Int} (h : IsP S j pl ss) (hF : Dn.Fr w S S') (hj : j ≠ w) : IsP S' j pl ss := hF.get h hj
theorem numbers_ok (n : Nat) {S : Sto} {w j : Nat} {pl u : Int} {ss : List Int} (hW : Well S w) (hj : j ≠ w) (hu : PU pl u) (h : IsP S j pl ss) (hs : ∀ z ∈ ss, 0 ≤ z ∧ z ≤ u) (hl : ss.length ≤ 6) :
    Ho (cal g (n + 6) 34 [.ref w, .int u, .tup (ss.map D.int), .ref j] S) (OkP fun d S' => d = .bl true ∧ Well S' w ∧ Dn.Fr w S S') := by
  have hu' := hu.u
  rw [c_law_numbers_right]; refine ho_run ?_; unfold x_law_numbers_right; simp -implicitDefEqProofs only [f_bind, f_noX, f_sSeq, f_eS, f_sIf, f_sRet, a_sRetN, f_sSet, f_sPar, f_sAsg, f_sEx, a_sNil, f_sFor, f_sFldP, f_x2, f_x2F, f_x1, f_xIf, f_xAn, f_xOo, f_xNo, f_xTru, f_xBl, f_tNo, f_tAn, f_tOo, f_xCons, f_xNil, f_xTup, f_xMk, f_xP, f_xCall, f_xCallK, f_x3, f_ch3, f_var, f_gv, f_xC, f_xComp, f_itSeq, f_itEnum, f_itR1, f_itR2, f_toInt, f_xBM, f_xCut, f_xPart, f_xNoP, f_xFld, f_prC, f_xProp, f_gNm, f_gTp, f_gCn, f_gNl, f_gSb, f_xNew, bd_ok, bd_bad, bd_exc, es_ok, es_exc, st_ok, nex_ok, sq_nx, sq_rt, sq_bk, sq_ct, sq_exc, bd_bd, es_bd, st_bd, sq_es, sq_st, sq_sq, a_ev1, a_ev2, f_truB, f_truI, f_toBl, f_add, f_sub, f_mul, f_div, f_mod, f_pow, f_neg, f_lt, f_le, f_gt, f_ge, f_int, f_abs, f_lenT, f_lenL, f_tupT, f_divmod, f_catT, f_catL, f_eqI, f_eqS, f_neS, f_isN, f_isNN, f_ixT, f_ixL, f_ofS, f_seqT, f_seqL, f_seqC, f_enT, f_enL, f_isS, f_lenC, f_sumT, f_sumL, f_sumF, f_allF, f_anyF, f_min, f_max, ho_rt, ho_nx, ho_exc, ho_ok, lp_nx, lp_ct, lp_bk, lp_rt, lp_exc, wipeE, a_pure, a_stuck, f_mkF, f_mkT, l_L, l_C, l_F, l_ap, l_pf, l_mk, l_seqOf, l_seqOfT, l_seqOfL, l_ix, l_seqIt, l_en, l_tup, l_isL, l_app, l_set, l_fld, l_insC, l_putF, l_lst, l_cutT, l_cutL, l_cutR, l_cutC, l_catRR, at_0, at_1, at_2, at_3, at_last, st_0, st_1, st_2, Option.isSome_some, List.map_cons, List.map_nil, List.length_cons, List.length_nil, List.cons_append, List.nil_append, List.getElem?_cons_zero, List.getElem?_cons_succ, List.set_cons_zero, List.set_cons_succ, List.replicate_succ, List.replicate_zero, List.zip_cons_cons, List.zip_nil_left, List.zip_nil_right, List.foldl_cons, List.foldl_nil, Nat.reduceAdd, Nat.reduceSub, Nat.zero_add, if_true, if_false, Bool.false_eq_true, reduceIte, reduceCtorEq, decide_true, decide_false, decide_eq_true_eq, Bool.not_eq_eq_eq_not, Bool.not_true, Bool.not_false, decide_eq_false_iff_not, ite_not, Bool.true_and, Bool.and_true, Bool.false_and, Bool.and_false, Option.bind_some, Option.map_some, and_self, true_and, and_true, line_pos0, line_pos1, line_pos2, line_pos3, Int.reduceEq, Int.reduceLT, Int.reduceLE, Int.reduceAdd, Int.reduceSub, Int.reduceMul, Int.reduceNeg, Int.reduceToNat, Int.reduceNe, Int.reducePow, Nat.reduceLeDiff, Nat.reduceLT, Nat.reduceEqDiff]
  refine es_of (draw_ok (n + 4) hW (by omega) (by omega)) ?_
  rintro _ S1 ⟨r, rfl, r0, r1, hW1, hF1⟩
  have h1 := h.fr hF1 hj
  obtain ⟨m, hm⟩ : ∃ m : Int, m = 1 + r := ⟨_, rfl⟩
  have i1 : i62 (m + 1) = true := i62_le (by omega)
  have i2 : i62 1 = true := by decide
  have e1 : m + 1 - 1 = m := by omega
  try simp -implicitDefEqProofs only [f_bind, f_noX, f_sSeq, f_eS, f_sIf, f_sRet, a_sRetN, f_sSet, f_sPar, f_sAsg, f_sEx, a_sNil, f_sFor, f_sFldP, f_x2, f_x2F, f_x1, f_xIf, f_xAn, f_xOo, f_xNo, f_xTru, f_xBl, f_tNo, f_tAn, f_tOo, f_xCons, f_xNil, f_xTup, f_xMk, f_xP, f_xCall, f_xCallK, f_x3, f_ch3, f_var, f_gv, f_xC, f_xComp, f_itSeq, f_itEnum, f_itR1, f_itR2, f_toInt, f_xBM, f_xCut, f_xPart, f_xNoP, f_xFld, f_prC, f_xProp, f_gNm, f_gTp, f_gCn, f_gNl, f_gSb, f_xNew, bd_ok, bd_bad, bd_exc, es_ok, es_exc, st_ok, nex_ok, sq_nx, sq_rt, sq_bk, sq_ct, sq_exc, bd_bd, es_bd, st_bd, sq_es, sq_st, sq_sq, a_ev1, a_ev2, f_truB, f_truI, f_toBl, f_add, f_sub, f_mul, f_div, f_mod, f_pow, f_neg, f_lt, f_le, f_gt, f_ge, f_int, f_abs, f_lenT, f_lenL, f_tupT, f_divmod, f_catT, f_catL, f_eqI, f_eqS, f_neS, f_isN, f_isNN, f_ixT, f_ixL, f_ofS, f_seqT, f_seqL, f_seqC, f_enT, f_enL, f_isS, f_lenC, f_sumT, f_sumL, f_sumF, f_allF, f_anyF, f_min, f_max, ho_rt, ho_nx, ho_exc, ho_ok, lp_nx, lp_ct, lp_bk, lp_rt, lp_exc, wipeE, a_pure, a_stuck, f_mkF, f_mkT, l_L, l_C, l_F, l_ap, l_pf, l_mk, l_seqOf, l_seqOfT, l_seqOfL, l_ix, l_seqIt, l_en, l_tup, l_isL, l_app, l_set, l_fld, l_insC, l_putF, l_lst, l_cutT, l_cutL, l_cutR, l_cutC, l_catRR, at_0, at_1, at_2, at_3, at_last, st_0, st_1, st_2, Option.isSome_some, List.map_cons, List.map_nil, List.length_cons, List.length_nil, List.cons_append, List.nil_append, List.getElem?_cons_zero, List.getElem?_cons_succ, List.set_cons_zero, List.set_cons_succ, List.replicate_succ, List.replicate_zero, List.zip_cons_cons, List.zip_nil_left, List.zip_nil_right, List.foldl_cons, List.foldl_nil, Nat.reduceAdd, Nat.reduceSub, Nat.zero_add, if_true, if_false, Bool.false_eq_true, reduceIte, reduceCtorEq, decide_true, decide_false, decide_eq_true_eq, Bool.not_eq_eq_eq_not, Bool.not_true, Bool.not_false, decide_eq_false_iff_not, ite_not, Bool.true_and, Bool.and_true, Bool.false_and, Bool.and_false, Option.bind_some, Option.map_some, and_self, true_and, and_true, line_pos0, line_pos1, line_pos2, line_pos3, Int.reduceEq, Int.reduceLT, Int.reduceLE, Int.reduceAdd, Int.reduceSub, Int.reduceMul, Int.reduceNeg, Int.reduceToNat, Int.reduceNe, Int.reducePow, Nat.reduceLeDiff, Nat.reduceLT, Nat.reduceEqDiff, ← hm, i1, i2, e1]
  refine es_of (comp_flt (List.range m.toNat) (fun (i : Nat) => D.int (1 + (i : Int))) (fun i => Fit u ss (1 + (i : Int))) (fun (i : Nat) => D.int (1 + (i : Int))) (rngL_1 1 _) rfl (by rw [List.length_range]; unfold line; omega) ?_) ?_
  · intro y hy
    have hy := List.mem_range.mp hy
    have k3 := fun S => tried_ok (n + 3) (S := S) (u := u) (ss := ss) (p := 1 + (y : Int)) hu' hs hl (by omega)
    try simp -implicitDefEqProofs only [f_bind, f_noX, f_sSeq, f_eS, f_sIf, f_sRet, a_sRetN, f_sSet, f_sPar, f_sAsg, f_sEx, a_sNil, f_sFor, f_sFldP, f_x2, f_x2F, f_x1, f_xIf, f_xAn, f_xOo, f_xNo, f_xTru, f_xBl, f_tNo, f_tAn, f_tOo, f_xCons, f_xNil, f_xTup, f_xMk, f_xP, f_xCall, f_xCallK, f_x3, f_ch3, f_var, f_gv, f_xC, f_xComp, f_itSeq, f_itEnum, f_itR1, f_itR2, f_toInt, f_xBM, f_xCut, f_xPart, f_xNoP, f_xFld, f_prC, f_xProp, f_gNm, f_gTp, f_gCn, f_gNl, f_gSb, f_xNew, bd_ok, bd_bad, bd_exc, es_ok, es_exc, st_ok, nex_ok, sq_nx, sq_rt, sq_bk, sq_ct, sq_exc, bd_bd, es_bd, st_bd, sq_es, sq_st, sq_sq, a_ev1, a_ev2, f_truB, f_truI, f_toBl, f_add, f_sub, f_mul, f_div, f_mod, f_pow, f_neg, f_lt, f_le, f_gt, f_ge, f_int, f_abs, f_lenT, f_lenL, f_tupT, f_divmod, f_catT, f_catL, f_eqI, f_eqS, f_neS, f_isN, f_isNN, f_ixT, f_ixL, f_ofS, f_seqT, f_seqL, f_seqC, f_enT, f_enL, f_isS, f_lenC, f_sumT, f_sumL, f_sumF, f_allF, f_anyF, f_min, f_max, ho_rt, ho_nx, ho_exc, ho_ok, lp_nx, lp_ct, lp_bk, lp_rt, lp_exc, wipeE, a_pure, a_stuck, f_mkF, f_mkT, l_L, l_C, l_F, l_ap, l_pf, l_mk, l_seqOf, l_seqOfT, l_seqOfL, l_ix, l_seqIt, l_en, l_tup, l_isL, l_app, l_set, l_fld, l_insC, l_putF, l_lst, l_cutT, l_cutL, l_cutR, l_cutC, l_catRR, at_0, at_1, at_2, at_3, at_last, st_0, st_1, st_2, Option.isSome_some, List.map_cons, List.map_nil, List.length_cons, List.length_nil, List.cons_append, List.nil_append, List.getElem?_cons_zero, List.getElem?_cons_succ, List.set_cons_zero, List.set_cons_succ, List.replicate_succ, List.replicate_zero, List.zip_cons_cons, List.zip_nil_left, List.zip_nil_right, List.foldl_cons, List.foldl_nil, Nat.reduceAdd, Nat.reduceSub, Nat.zero_add, if_true, if_false, Bool.false_eq_true, reduceIte, reduceCtorEq, decide_true, decide_false, decide_eq_true_eq, Bool.not_eq_eq_eq_not, Bool.not_true, Bool.not_false, decide_eq_false_iff_not, ite_not, Bool.true_and, Bool.and_true, Bool.false_and, Bool.and_false, Option.bind_some, Option.map_some, and_self, true_and, and_true, line_pos0, line_pos1, line_pos2, line_pos3, Int.reduceEq, Int.reduceLT, Int.reduceLE, Int.reduceAdd, Int.reduceSub, Int.reduceMul, Int.reduceNeg, Int.reduceToNat, Int.reduceNe, Int.reducePow, Nat.reduceLeDiff, Nat.reduceLT, Nat.reduceEqDiff, k3]
    exact ⟨is_refl, fun _ => is_refl⟩
  rintro _ S_ ⟨rfl, h_, q⟩; have h_ := h_.symm; subst h_
  rw [nums_eq] at q ⊢
  have k4 := people_for_ok n (m := m) hu h1 hs hl (by omega)
  have gk : gN ["most", "poll"] ["poll", "most"] [D.int m, D.ref j] = [D.ref j, D.int m] := rfl
  obtain ⟨b1, b2⟩ := nums_mem (u := u) (ss := ss) (m := m.toNat) (by omega)
  obtain ⟨t, ht⟩ := repr_pl (d := .tmp [.tup ((nums u ss m.toNat).map D.int), .tup ((nums u ss m.toNat).map D.int)]) (by simp [plD, plDL, plDL_ints b2]) (by have := dpDL_ints (nums u ss m.toNat); simp only [dpD, dpDL]; omega) (by have := szDL_ints (nums u ss m.toNat); simp only [szD, szDL]; omega)
  have hsl : ((ss.map D.int).length : Int) = (ss.length : Int) := by rw [List.length_map]
  try simp -implicitDefEqProofs only [f_bind, f_noX, f_sSeq, f_eS, f_sIf, f_sRet, a_sRetN, f_sSet, f_sPar, f_sAsg, f_sEx, a_sNil, f_sFor, f_sFldP, f_x2, f_x2F, f_x1, f_xIf, f_xAn, f_xOo, f_xNo, f_xTru, f_xBl, f_tNo, f_tAn, f_tOo, f_xCons, f_xNil, f_xTup, f_xMk, f_xP, f_xCall, f_xCallK, f_x3, f_ch3, f_var, f_gv, f_xC, f_xComp, f_itSeq, f_itEnum, f_itR1, f_itR2, f_toInt, f_xBM, f_xCut, f_xPart, f_xNoP, f_xFld, f_prC, f_xProp, f_gNm, f_gTp, f_gCn, f_gNl, f_gSb, f_xNew, bd_ok, bd_bad, bd_exc, es_ok, es_exc, st_ok, nex_ok, sq_nx, sq_rt, sq_bk, sq_ct, sq_exc, bd_bd, es_bd, st_bd, sq_es, sq_st, sq_sq, a_ev1, a_ev2, f_truB, f_truI, f_toBl, f_add, f_sub, f_mul, f_div, f_mod, f_pow, f_neg, f_lt, f_le, f_gt, f_ge, f_int, f_abs, f_lenT, f_lenL, f_tupT, f_divmod, f_catT, f_catL, f_eqI, f_eqS, f_neS, f_isN, f_isNN, f_ixT, f_ixL, f_ofS, f_seqT, f_seqL, f_seqC, f_enT, f_enL, f_isS, f_lenC, f_sumT, f_sumL, f_sumF, f_allF, f_anyF, f_min, f_max, ho_rt, ho_nx, ho_exc, ho_ok, lp_nx, lp_ct, lp_bk, lp_rt, lp_exc, wipeE, a_pure, a_stuck, f_mkF, f_mkT, l_L, l_C, l_F, l_ap, l_pf, l_mk, l_seqOf, l_seqOfT, l_seqOfL, l_ix, l_seqIt, l_en, l_tup, l_isL, l_app, l_set, l_fld, l_insC, l_putF, l_lst, l_cutT, l_cutL, l_cutR, l_cutC, l_catRR, at_0, at_1, at_2, at_3, at_last, st_0, st_1, st_2, Option.isSome_some, List.map_cons, List.map_nil, List.length_cons, List.length_nil, List.cons_append, List.nil_append, List.getElem?_cons_zero, List.getElem?_cons_succ, List.set_cons_zero, List.set_cons_succ, List.replicate_succ, List.replicate_zero, List.zip_cons_cons, List.zip_nil_left, List.zip_nil_right, List.foldl_cons, List.foldl_nil, Nat.reduceAdd, Nat.reduceSub, Nat.zero_add, if_true, if_false, Bool.false_eq_true, reduceIte, reduceCtorEq, decide_true, decide_false, decide_eq_true_eq, Bool.not_eq_eq_eq_not, Bool.not_true, Bool.not_false, decide_eq_false_iff_not, ite_not, Bool.true_and, Bool.and_true, Bool.false_and, Bool.and_false, Option.bind_some, Option.map_some, and_self, true_and, and_true, line_pos0, line_pos1, line_pos2, line_pos3, Int.reduceEq, Int.reduceLT, Int.reduceLE, Int.reduceAdd, Int.reduceSub, Int.reduceMul, Int.reduceNeg, Int.reduceToNat, Int.reduceNe, Int.reducePow, Nat.reduceLeDiff, Nat.reduceLT, Nat.reduceEqDiff, q, k4, gk, ht, eq_self, hsl]
  by_cases h2 : 2 < (ss.length : Int)
  · try simp -implicitDefEqProofs only [f_bind, f_noX, f_sSeq, f_eS, f_sIf, f_sRet, a_sRetN, f_sSet, f_sPar, f_sAsg, f_sEx, a_sNil, f_sFor, f_sFldP, f_x2, f_x2F, f_x1, f_xIf, f_xAn, f_xOo, f_xNo, f_xTru, f_xBl, f_tNo, f_tAn, f_tOo, f_xCons, f_xNil, f_xTup, f_xMk, f_xP, f_xCall, f_xCallK, f_x3, f_ch3, f_var, f_gv, f_xC, f_xComp, f_itSeq, f_itEnum, f_itR1, f_itR2, f_toInt, f_xBM, f_xCut, f_xPart, f_xNoP, f_xFld, f_prC, f_xProp, f_gNm, f_gTp, f_gCn, f_gNl, f_gSb, f_xNew, bd_ok, bd_bad, bd_exc, es_ok, es_exc, st_ok, nex_ok, sq_nx, sq_rt, sq_bk, sq_ct, sq_exc, bd_bd, es_bd, st_bd, sq_es, sq_st, sq_sq, a_ev1, a_ev2, f_truB, f_truI, f_toBl, f_add, f_sub, f_mul, f_div, f_mod, f_pow, f_neg, f_lt, f_le, f_gt, f_ge, f_int, f_abs, f_lenT, f_lenL, f_tupT, f_divmod, f_catT, f_catL, f_eqI, f_eqS, f_neS, f_isN, f_isNN, f_ixT, f_ixL, f_ofS, f_seqT, f_seqL, f_seqC, f_enT, f_enL, f_isS, f_lenC, f_sumT, f_sumL, f_sumF, f_allF, f_anyF, f_min, f_max, ho_rt, ho_nx, ho_exc, ho_ok, lp_nx, lp_ct, lp_bk, lp_rt, lp_exc, wipeE, a_pure, a_stuck, f_mkF, f_mkT, l_L, l_C, l_F, l_ap, l_pf, l_mk, l_seqOf, l_seqOfT, l_seqOfL, l_ix, l_seqIt, l_en, l_tup, l_isL, l_app, l_set, l_fld, l_insC, l_putF, l_lst, l_cutT, l_cutL, l_cutR, l_cutC, l_catRR, at_0, at_1, at_2, at_3, at_last, st_0, st_1, st_2, Option.isSome_some, List.map_cons, List.map_nil, List.length_cons, List.length_nil, List.cons_append, List.nil_append, List.getElem?_cons_zero, List.getElem?_cons_succ, List.set_cons_zero, List.set_cons_succ, List.replicate_succ, List.replicate_zero, List.zip_cons_cons, List.zip_nil_left, List.zip_nil_right, List.foldl_cons, List.foldl_nil, Nat.reduceAdd, Nat.reduceSub, Nat.zero_add, if_true, if_false, Bool.false_eq_true, reduceIte, reduceCtorEq, decide_true, decide_false, decide_eq_true_eq, Bool.not_eq_eq_eq_not, Bool.not_true, Bool.not_false, decide_eq_false_iff_not, ite_not, Bool.true_and, Bool.and_true, Bool.false_and, Bool.and_false, Option.bind_some, Option.map_some, and_self, true_and, and_true, line_pos0, line_pos1, line_pos2, line_pos3, Int.reduceEq, Int.reduceLT, Int.reduceLE, Int.reduceAdd, Int.reduceSub, Int.reduceMul, Int.reduceNeg, Int.reduceToNat, Int.reduceNe, Int.reducePow, Nat.reduceLeDiff, Nat.reduceLT, Nat.reduceEqDiff, h2]
    exact ⟨hW1, hF1⟩
  · try simp -implicitDefEqProofs only [f_bind, f_noX, f_sSeq, f_eS, f_sIf, f_sRet, a_sRetN, f_sSet, f_sPar, f_sAsg, f_sEx, a_sNil, f_sFor, f_sFldP, f_x2, f_x2F, f_x1, f_xIf, f_xAn, f_xOo, f_xNo, f_xTru, f_xBl, f_tNo, f_tAn, f_tOo, f_xCons, f_xNil, f_xTup, f_xMk, f_xP, f_xCall, f_xCallK, f_x3, f_ch3, f_var, f_gv, f_xC, f_xComp, f_itSeq, f_itEnum, f_itR1, f_itR2, f_toInt, f_xBM, f_xCut, f_xPart, f_xNoP, f_xFld, f_prC, f_xProp, f_gNm, f_gTp, f_gCn, f_gNl, f_gSb, f_xNew, bd_ok, bd_bad, bd_exc, es_ok, es_exc, st_ok, nex_ok, sq_nx, sq_rt, sq_bk, sq_ct, sq_exc, bd_bd, es_bd, st_bd, sq_es, sq_st, sq_sq, a_ev1, a_ev2, f_truB, f_truI, f_toBl, f_add, f_sub, f_mul, f_div, f_mod, f_pow, f_neg, f_lt, f_le, f_gt, f_ge, f_int, f_abs, f_lenT, f_lenL, f_tupT, f_divmod, f_catT, f_catL, f_eqI, f_eqS, f_neS, f_isN, f_isNN, f_ixT, f_ixL, f_ofS, f_seqT, f_seqL, f_seqC, f_enT, f_enL, f_isS, f_lenC, f_sumT, f_sumL, f_sumF, f_allF, f_anyF, f_min, f_max, ho_rt, ho_nx, ho_exc, ho_ok, lp_nx, lp_ct, lp_bk, lp_rt, lp_exc, wipeE, a_pure, a_stuck, f_mkF, f_mkT, l_L, l_C, l_F, l_ap, l_pf, l_mk, l_seqOf, l_seqOfT, l_seqOfL, l_ix, l_seqIt, l_en, l_tup, l_isL, l_app, l_set, l_fld, l_insC, l_putF, l_lst, l_cutT, l_cutL, l_cutR, l_cutC, l_catRR, at_0, at_1, at_2, at_3, at_last, st_0, st_1, st_2, Option.isSome_some, List.map_cons, List.map_nil, List.length_cons, List.length_nil, List.cons_append, List.nil_append, List.getElem?_cons_zero, List.getElem?_cons_succ, List.set_cons_zero, List.set_cons_succ, List.replicate_succ, List.replicate_zero, List.zip_cons_cons, List.zip_nil_left, List.zip_nil_right, List.foldl_cons, List.foldl_nil, Nat.reduceAdd, Nat.reduceSub, Nat.zero_add, if_true, if_false, Bool.false_eq_true, reduceIte, reduceCtorEq, decide_true, decide_false, decide_eq_true_eq, Bool.not_eq_eq_eq_not, Bool.not_true, Bool.not_false, decide_eq_false_iff_not, ite_not, Bool.true_and, Bool.and_true, Bool.false_and, Bool.and_false, Option.bind_some, Option.map_some, and_self, true_and, and_true, line_pos0, line_pos1, line_pos2, line_pos3, Int.reduceEq, Int.reduceLT, Int.reduceLE, Int.reduceAdd, Int.reduceSub, Int.reduceMul, Int.reduceNeg, Int.reduceToNat, Int.reduceNe, Int.reducePow, Nat.reduceLeDiff, Nat.reduceLT, Nat.reduceEqDiff, h2]
    refine es_of (draw_ok (n + 4) hW1 (by omega) (by omega)) ?_
    rintro _ S2 ⟨r', rfl, r0', r1', hW2, hF2⟩
    have h2' := h1.fr hF2 hj
    try simp -implicitDefEqProofs only [f_bind, f_noX, f_sSeq, f_eS, f_sIf, f_sRet, a_sRetN, f_sSet, f_sPar, f_sAsg, f_sEx, a_sNil, f_sFor, f_sFldP, f_x2, f_x2F, f_x1, f_xIf, f_xAn, f_xOo, f_xNo, f_xTru, f_xBl, f_tNo, f_tAn, f_tOo, f_xCons, f_xNil, f_xTup, f_xMk, f_xP, f_xCall, f_xCallK, f_x3, f_ch3, f_var, f_gv, f_xC, f_xComp, f_itSeq, f_itEnum, f_itR1, f_itR2, f_toInt, f_xBM, f_xCut, f_xPart, f_xNoP, f_xFld, f_prC, f_xProp, f_gNm, f_gTp, f_gCn, f_gNl, f_gSb, f_xNew, bd_ok, bd_bad, bd_exc, es_ok, es_exc, st_ok, nex_ok, sq_nx, sq_rt, sq_bk, sq_ct, sq_exc, bd_bd, es_bd, st_bd, sq_es, sq_st, sq_sq, a_ev1, a_ev2, f_truB, f_truI, f_toBl, f_add, f_sub, f_mul, f_div, f_mod, f_pow, f_neg, f_lt, f_le, f_gt, f_ge, f_int, f_abs, f_lenT, f_lenL, f_tupT, f_divmod, f_catT, f_catL, f_eqI, f_eqS, f_neS, f_isN, f_isNN, f_ixT, f_ixL, f_ofS, f_seqT, f_seqL, f_seqC, f_enT, f_enL, f_isS, f_lenC, f_sumT, f_sumL, f_sumF, f_allF, f_anyF, f_min, f_max, ho_rt, ho_nx, ho_exc, ho_ok, lp_nx, lp_ct, lp_bk, lp_rt, lp_exc, wipeE, a_pure, a_stuck, f_mkF, f_mkT, l_L, l_C, l_F, l_ap, l_pf, l_mk, l_seqOf, l_seqOfT, l_seqOfL, l_ix, l_seqIt, l_en, l_tup, l_isL, l_app, l_set, l_fld, l_insC, l_putF, l_lst, l_cutT, l_cutL, l_cutR, l_cutC, l_catRR, at_0, at_1, at_2, at_3, at_last, st_0, st_1, st_2, Option.isSome_some, List.map_cons, List.map_nil, List.length_cons, List.length_nil, List.cons_append, List.nil_append, List.getElem?_cons_zero, List.getElem?_cons_succ, List.set_cons_zero, List.set_cons_succ, List.replicate_succ, List.replicate_zero, List.zip_cons_cons, List.zip_nil_left, List.zip_nil_right, List.foldl_cons, List.foldl_nil, Nat.reduceAdd, Nat.reduceSub, Nat.zero_add, if_true, if_false, Bool.false_eq_true, reduceIte, reduceCtorEq, decide_true, decide_false, decide_eq_true_eq, Bool.not_eq_eq_eq_not, Bool.not_true, Bool.not_false, decide_eq_false_iff_not, ite_not, Bool.true_and, Bool.and_true, Bool.false_and, Bool.and_false, Option.bind_some, Option.map_some, and_self, true_and, and_true, line_pos0, line_pos1, line_pos2, line_pos3, Int.reduceEq, Int.reduceLT, Int.reduceLE, Int.reduceAdd, Int.reduceSub, Int.reduceMul, Int.reduceNeg, Int.reduceToNat, Int.reduceNe, Int.reducePow, Nat.reduceLeDiff, Nat.reduceLT, Nat.reduceEqDiff]
    by_cases h3 : 0 < r'
    · try simp -implicitDefEqProofs only [f_bind, f_noX, f_sSeq, f_eS, f_sIf, f_sRet, a_sRetN, f_sSet, f_sPar, f_sAsg, f_sEx, a_sNil, f_sFor, f_sFldP, f_x2, f_x2F, f_x1, f_xIf, f_xAn, f_xOo, f_xNo, f_xTru, f_xBl, f_tNo, f_tAn, f_tOo, f_xCons, f_xNil, f_xTup, f_xMk, f_xP, f_xCall, f_xCallK, f_x3, f_ch3, f_var, f_gv, f_xC, f_xComp, f_itSeq, f_itEnum, f_itR1, f_itR2, f_toInt, f_xBM, f_xCut, f_xPart, f_xNoP, f_xFld, f_prC, f_xProp, f_gNm, f_gTp, f_gCn, f_gNl, f_gSb, f_xNew, bd_ok, bd_bad, bd_exc, es_ok, es_exc, st_ok, nex_ok, sq_nx, sq_rt, sq_bk, sq_ct, sq_exc, bd_bd, es_bd, st_bd, sq_es, sq_st, sq_sq, a_ev1, a_ev2, f_truB, f_truI, f_toBl, f_add, f_sub, f_mul, f_div, f_mod, f_pow, f_neg, f_lt, f_le, f_gt, f_ge, f_int, f_abs, f_lenT, f_lenL, f_tupT, f_divmod, f_catT, f_catL, f_eqI, f_eqS, f_neS, f_isN, f_isNN, f_ixT, f_ixL, f_ofS, f_seqT, f_seqL, f_seqC, f_enT, f_enL, f_isS, f_lenC, f_sumT, f_sumL, f_sumF, f_allF, f_anyF, f_min, f_max, ho_rt, ho_nx, ho_exc, ho_ok, lp_nx, lp_ct, lp_bk, lp_rt, lp_exc, wipeE, a_pure, a_stuck, f_mkF, f_mkT, l_L, l_C, l_F, l_ap, l_pf, l_mk, l_seqOf, l_seqOfT, l_seqOfL, l_ix, l_seqIt, l_en, l_tup, l_isL, l_app, l_set, l_fld, l_insC, l_putF, l_lst, l_cutT, l_cutL, l_cutR, l_cutC, l_catRR, at_0, at_1, at_2, at_3, at_last, st_0, st_1, st_2, Option.isSome_some, List.map_cons, List.map_nil, List.length_cons, List.length_nil, List.cons_append, List.nil_append, List.getElem?_cons_zero, List.getElem?_cons_succ, List.set_cons_zero, List.set_cons_succ, List.replicate_succ, List.replicate_zero, List.zip_cons_cons, List.zip_nil_left, List.zip_nil_right, List.foldl_cons, List.foldl_nil, Nat.reduceAdd, Nat.reduceSub, Nat.zero_add, if_true, if_false, Bool.false_eq_true, reduceIte, reduceCtorEq, decide_true, decide_false, decide_eq_true_eq, Bool.not_eq_eq_eq_not, Bool.not_true, Bool.not_false, decide_eq_false_iff_not, ite_not, Bool.true_and, Bool.and_true, Bool.false_and, Bool.and_false, Option.bind_some, Option.map_some, and_self, true_and, and_true, line_pos0, line_pos1, line_pos2, line_pos3, Int.reduceEq, Int.reduceLT, Int.reduceLE, Int.reduceAdd, Int.reduceSub, Int.reduceMul, Int.reduceNeg, Int.reduceToNat, Int.reduceNe, Int.reducePow, Nat.reduceLeDiff, Nat.reduceLT, Nat.reduceEqDiff, h3]
      exact ⟨hW2, hF1.trans hF2⟩
    · have i3 : i62 3001 = true := by decide
      try simp -implicitDefEqProofs only [f_bind, f_noX, f_sSeq, f_eS, f_sIf, f_sRet, a_sRetN, f_sSet, f_sPar, f_sAsg, f_sEx, a_sNil, f_sFor, f_sFldP, f_x2, f_x2F, f_x1, f_xIf, f_xAn, f_xOo, f_xNo, f_xTru, f_xBl, f_tNo, f_tAn, f_tOo, f_xCons, f_xNil, f_xTup, f_xMk, f_xP, f_xCall, f_xCallK, f_x3, f_ch3, f_var, f_gv, f_xC, f_xComp, f_itSeq, f_itEnum, f_itR1, f_itR2, f_toInt, f_xBM, f_xCut, f_xPart, f_xNoP, f_xFld, f_prC, f_xProp, f_gNm, f_gTp, f_gCn, f_gNl, f_gSb, f_xNew, bd_ok, bd_bad, bd_exc, es_ok, es_exc, st_ok, nex_ok, sq_nx, sq_rt, sq_bk, sq_ct, sq_exc, bd_bd, es_bd, st_bd, sq_es, sq_st, sq_sq, a_ev1, a_ev2, f_truB, f_truI, f_toBl, f_add, f_sub, f_mul, f_div, f_mod, f_pow, f_neg, f_lt, f_le, f_gt, f_ge, f_int, f_abs, f_lenT, f_lenL, f_tupT, f_divmod, f_catT, f_catL, f_eqI, f_eqS, f_neS, f_isN, f_isNN, f_ixT, f_ixL, f_ofS, f_seqT, f_seqL, f_seqC, f_enT, f_enL, f_isS, f_lenC, f_sumT, f_sumL, f_sumF, f_allF, f_anyF, f_min, f_max, ho_rt, ho_nx, ho_exc, ho_ok, lp_nx, lp_ct, lp_bk, lp_rt, lp_exc, wipeE, a_pure, a_stuck, f_mkF, f_mkT, l_L, l_C, l_F, l_ap, l_pf, l_mk, l_seqOf, l_seqOfT, l_seqOfL, l_ix, l_seqIt, l_en, l_tup, l_isL, l_app, l_set, l_fld, l_insC, l_putF, l_lst, l_cutT, l_cutL, l_cutR, l_cutC, l_catRR, at_0, at_1, at_2, at_3, at_last, st_0, st_1, st_2, Option.isSome_some, List.map_cons, List.map_nil, List.length_cons, List.length_nil, List.cons_append, List.nil_append, List.getElem?_cons_zero, List.getElem?_cons_succ, List.set_cons_zero, List.set_cons_succ, List.replicate_succ, List.replicate_zero, List.zip_cons_cons, List.zip_nil_left, List.zip_nil_right, List.foldl_cons, List.foldl_nil, Nat.reduceAdd, Nat.reduceSub, Nat.zero_add, if_true, if_false, Bool.false_eq_true, reduceIte, reduceCtorEq, decide_true, decide_false, decide_eq_true_eq, Bool.not_eq_eq_eq_not, Bool.not_true, Bool.not_false, decide_eq_false_iff_not, ite_not, Bool.true_and, Bool.and_true, Bool.false_and, Bool.and_false, Option.bind_some, Option.map_some, and_self, true_and, and_true, line_pos0, line_pos1, line_pos2, line_pos3, Int.reduceEq, Int.reduceLT, Int.reduceLE, Int.reduceAdd, Int.reduceSub, Int.reduceMul, Int.reduceNeg, Int.reduceToNat, Int.reduceNe, Int.reducePow, Nat.reduceLeDiff, Nat.reduceLT, Nat.reduceEqDiff, h3, i2, i3]
      refine es_of (comp_flt (List.range 3000) (fun (i : Nat) => D.int (1 + (i : Int))) (fun i => Fit u ss (1 + (i : Int))) (fun (i : Nat) => D.int (1 + (i : Int))) (rngL_1 1 _) rfl (by rw [List.length_range]; unfold line; omega) ?_) ?_
      · intro y hy
        have hy := List.mem_range.mp hy
        have k3 := fun S => fits_ok (n + 4) (S := S) (u := u) (ss := ss) (p := 1 + (y : Int)) hu' hs (by omega)
        try simp -implicitDefEqProofs only [f_bind, f_noX, f_sSeq, f_eS, f_sIf, f_sRet, a_sRetN, f_sSet, f_sPar, f_sAsg, f_sEx, a_sNil, f_sFor, f_sFldP, f_x2, f_x2F, f_x1, f_xIf, f_xAn, f_xOo, f_xNo, f_xTru, f_xBl, f_tNo, f_tAn, f_tOo, f_xCons, f_xNil, f_xTup, f_xMk, f_xP, f_xCall, f_xCallK, f_x3, f_ch3, f_var, f_gv, f_xC, f_xComp, f_itSeq, f_itEnum, f_itR1, f_itR2, f_toInt, f_xBM, f_xCut, f_xPart, f_xNoP, f_xFld, f_prC, f_xProp, f_gNm, f_gTp, f_gCn, f_gNl, f_gSb, f_xNew, bd_ok, bd_bad, bd_exc, es_ok, es_exc, st_ok, nex_ok, sq_nx, sq_rt, sq_bk, sq_ct, sq_exc, bd_bd, es_bd, st_bd, sq_es, sq_st, sq_sq, a_ev1, a_ev2, f_truB, f_truI, f_toBl, f_add, f_sub, f_mul, f_div, f_mod, f_pow, f_neg, f_lt, f_le, f_gt, f_ge, f_int, f_abs, f_lenT, f_lenL, f_tupT, f_divmod, f_catT, f_catL, f_eqI, f_eqS, f_neS, f_isN, f_isNN, f_ixT, f_ixL, f_ofS, f_seqT, f_seqL, f_seqC, f_enT, f_enL, f_isS, f_lenC, f_sumT, f_sumL, f_sumF, f_allF, f_anyF, f_min, f_max, ho_rt, ho_nx, ho_exc, ho_ok, lp_nx, lp_ct, lp_bk, lp_rt, lp_exc, wipeE, a_pure, a_stuck, f_mkF, f_mkT, l_L, l_C, l_F, l_ap, l_pf, l_mk, l_seqOf, l_seqOfT, l_seqOfL, l_ix, l_seqIt, l_en, l_tup, l_isL, l_app, l_set, l_fld, l_insC, l_putF, l_lst, l_cutT, l_cutL, l_cutR, l_cutC, l_catRR, at_0, at_1, at_2, at_3, at_last, st_0, st_1, st_2, Option.isSome_some, List.map_cons, List.map_nil, List.length_cons, List.length_nil, List.cons_append, List.nil_append, List.getElem?_cons_zero, List.getElem?_cons_succ, List.set_cons_zero, List.set_cons_succ, List.replicate_succ, List.replicate_zero, List.zip_cons_cons, List.zip_nil_left, List.zip_nil_right, List.foldl_cons, List.foldl_nil, Nat.reduceAdd, Nat.reduceSub, Nat.zero_add, if_true, if_false, Bool.false_eq_true, reduceIte, reduceCtorEq, decide_true, decide_false, decide_eq_true_eq, Bool.not_eq_eq_eq_not, Bool.not_true, Bool.not_false, decide_eq_false_iff_not, ite_not, Bool.true_and, Bool.and_true, Bool.false_and, Bool.and_false, Option.bind_some, Option.map_some, and_self, true_and, and_true, line_pos0, line_pos1, line_pos2, line_pos3, Int.reduceEq, Int.reduceLT, Int.reduceLE, Int.reduceAdd, Int.reduceSub, Int.reduceMul, Int.reduceNeg, Int.reduceToNat, Int.reduceNe, Int.reducePow, Nat.reduceLeDiff, Nat.reduceLT, Nat.reduceEqDiff, k3]
        exact ⟨is_refl, fun _ => is_refl⟩
      rintro _ S_ ⟨rfl, h_, q2⟩; have h_ := h_.symm; subst h_
      rw [nums_eq] at q2 ⊢
      have k5 := people_for_ok n (m := 3000) hu h2' hs hl (by omega)
      obtain ⟨b3, b4⟩ := nums_mem (u := u) (ss := ss) (m := 3000) (by omega)
      obtain ⟨t2, ht2⟩ := repr_pl (d := .tup ((nums u ss 3000).map D.int)) (by simp [plD, plDL_ints b4]) (by have := dpDL_ints (nums u ss 3000); simp only [dpD]; omega) (by have := szDL_ints (nums u ss 3000); simp only [szD]; omega)
      have e3 : (3000 : Int).toNat = 3000 := rfl
      rw [e3] at k5
      try simp -implicitDefEqProofs only [f_bind, f_noX, f_sSeq, f_eS, f_sIf, f_sRet, a_sRetN, f_sSet, f_sPar, f_sAsg, f_sEx, a_sNil, f_sFor, f_sFldP, f_x2, f_x2F, f_x1, f_xIf, f_xAn, f_xOo, f_xNo, f_xTru, f_xBl, f_tNo, f_tAn, f_tOo, f_xCons, f_xNil, f_xTup, f_xMk, f_xP, f_xCall, f_xCallK, f_x3, f_ch3, f_var, f_gv, f_xC, f_xComp, f_itSeq, f_itEnum, f_itR1, f_itR2, f_toInt, f_xBM, f_xCut, f_xPart, f_xNoP, f_xFld, f_prC, f_xProp, f_gNm, f_gTp, f_gCn, f_gNl, f_gSb, f_xNew, bd_ok, bd_bad, bd_exc, es_ok, es_exc, st_ok, nex_ok, sq_nx, sq_rt, sq_bk, sq_ct, sq_exc, bd_bd, es_bd, st_bd, sq_es, sq_st, sq_sq, a_ev1, a_ev2, f_truB, f_truI, f_toBl, f_add, f_sub, f_mul, f_div, f_mod, f_pow, f_neg, f_lt, f_le, f_gt, f_ge, f_int, f_abs, f_lenT, f_lenL, f_tupT, f_divmod, f_catT, f_catL, f_eqI, f_eqS, f_neS, f_isN, f_isNN, f_ixT, f_ixL, f_ofS, f_seqT, f_seqL, f_seqC, f_enT, f_enL, f_isS, f_lenC, f_sumT, f_sumL, f_sumF, f_allF, f_anyF, f_min, f_max, ho_rt, ho_nx, ho_exc, ho_ok, lp_nx, lp_ct, lp_bk, lp_rt, lp_exc, wipeE, a_pure, a_stuck, f_mkF, f_mkT, l_L, l_C, l_F, l_ap, l_pf, l_mk, l_seqOf, l_seqOfT, l_seqOfL, l_ix, l_seqIt, l_en, l_tup, l_isL, l_app, l_set, l_fld, l_insC, l_putF, l_lst, l_cutT, l_cutL, l_cutR, l_cutC, l_catRR, at_0, at_1, at_2, at_3, at_last, st_0, st_1, st_2, Option.isSome_some, List.map_cons, List.map_nil, List.length_cons, List.length_nil, List.cons_append, List.nil_append, List.getElem?_cons_zero, List.getElem?_cons_succ, List.set_cons_zero, List.set_cons_succ, List.replicate_succ, List.replicate_zero, List.zip_cons_cons, List.zip_nil_left, List.zip_nil_right, List.foldl_cons, List.foldl_nil, Nat.reduceAdd, Nat.reduceSub, Nat.zero_add, if_true, if_false, Bool.false_eq_true, reduceIte, reduceCtorEq, decide_true, decide_false, decide_eq_true_eq, Bool.not_eq_eq_eq_not, Bool.not_true, Bool.not_false, decide_eq_false_iff_not, ite_not, Bool.true_and, Bool.and_true, Bool.false_and, Bool.and_false, Option.bind_some, Option.map_some, and_self, true_and, and_true, line_pos0, line_pos1, line_pos2, line_pos3, Int.reduceEq, Int.reduceLT, Int.reduceLE, Int.reduceAdd, Int.reduceSub, Int.reduceMul, Int.reduceNeg, Int.reduceToNat, Int.reduceNe, Int.reducePow, Nat.reduceLeDiff, Nat.reduceLT, Nat.reduceEqDiff, q2, k5, ht2, eq_self]
      exact ⟨hW2, hF1.trans hF2⟩
theorem least_pl {u : Int} {ss : List Int} {d : D} (h : LeastP u ss d) : plD d = true ∧ dpD d = 1 ∧ szD d ≤ 152 := by
  rcases h with ⟨rfl, _⟩ | ⟨m, rfl, h1, h2, _⟩
  · simp [plD, dpD, szD]
  · refine ⟨?_, rfl, Nat.le_refl _⟩
    simp only [plD, decide_eq_true_eq]
    omega
theorem from_pl {u : Int} {ss : List Int} {d : D} (h : FromP u ss d) : plD d = true ∧ dpD d = 1 ∧ szD d ≤ 152 := by
  rcases h with ⟨rfl, _⟩ | ⟨m, rfl, h1, h2, _⟩
  · simp [plD, dpD, szD]
  · refine ⟨?_, rfl, Nat.le_refl _⟩
    simp only [plD, decide_eq_true_eq]
    omega
theorem isNon_int (i : Int) : Dn.isNon (.int i) = false := rfl
theorem isNon_non : Dn.isNon .non = true := rfl
theorem ends_right_ok (n : Nat) {S : Sto} {w j : Nat} {pl u : Int} {ss : List Int} (hW : Well S w) (hj : j ≠ w) (hu : PU pl u) (h : IsP S j pl ss) (hs : ∀ z ∈ ss, 0 ≤ z ∧ z ≤ u) (hl : 2 ≤ ss.length ∧ ss.length ≤ 6) :
    Ho (cal g (n + 6) 35 [.ref w, .int u, .tup (ss.map D.int), .ref j] S) (OkP fun d S' => d = .bl true ∧ Well S' w) := by
  have hu' := hu.u
  have gk1 : gN ["poll"] ["poll"] [D.ref j] = [D.ref j] := rfl
  rw [c_law_ends_right]; refine ho_run ?_; unfold x_law_ends_right; simp -implicitDefEqProofs only [f_bind, f_noX, f_sSeq, f_eS, f_sIf, f_sRet, a_sRetN, f_sSet, f_sPar, f_sAsg, f_sEx, a_sNil, f_sFor, f_sFldP, f_x2, f_x2F, f_x1, f_xIf, f_xAn, f_xOo, f_xNo, f_xTru, f_xBl, f_tNo, f_tAn, f_tOo, f_xCons, f_xNil, f_xTup, f_xMk, f_xP, f_xCall, f_xCallK, f_x3, f_ch3, f_var, f_gv, f_xC, f_xComp, f_itSeq, f_itEnum, f_itR1, f_itR2, f_toInt, f_xBM, f_xCut, f_xPart, f_xNoP, f_xFld, f_prC, f_xProp, f_gNm, f_gTp, f_gCn, f_gNl, f_gSb, f_xNew, bd_ok, bd_bad, bd_exc, es_ok, es_exc, st_ok, nex_ok, sq_nx, sq_rt, sq_bk, sq_ct, sq_exc, bd_bd, es_bd, st_bd, sq_es, sq_st, sq_sq, a_ev1, a_ev2, f_truB, f_truI, f_toBl, f_add, f_sub, f_mul, f_div, f_mod, f_pow, f_neg, f_lt, f_le, f_gt, f_ge, f_int, f_abs, f_lenT, f_lenL, f_tupT, f_divmod, f_catT, f_catL, f_eqI, f_eqS, f_neS, f_isN, f_isNN, f_ixT, f_ixL, f_ofS, f_seqT, f_seqL, f_seqC, f_enT, f_enL, f_isS, f_lenC, f_sumT, f_sumL, f_sumF, f_allF, f_anyF, f_min, f_max, ho_rt, ho_nx, ho_exc, ho_ok, lp_nx, lp_ct, lp_bk, lp_rt, lp_exc, wipeE, a_pure, a_stuck, f_mkF, f_mkT, l_L, l_C, l_F, l_ap, l_pf, l_mk, l_seqOf, l_seqOfT, l_seqOfL, l_ix, l_seqIt, l_en, l_tup, l_isL, l_app, l_set, l_fld, l_insC, l_putF, l_lst, l_cutT, l_cutL, l_cutR, l_cutC, l_catRR, at_0, at_1, at_2, at_3, at_last, st_0, st_1, st_2, Option.isSome_some, List.map_cons, List.map_nil, List.length_cons, List.length_nil, List.cons_append, List.nil_append, List.getElem?_cons_zero, List.getElem?_cons_succ, List.set_cons_zero, List.set_cons_succ, List.replicate_succ, List.replicate_zero, List.zip_cons_cons, List.zip_nil_left, List.zip_nil_right, List.foldl_cons, List.foldl_nil, Nat.reduceAdd, Nat.reduceSub, Nat.zero_add, if_true, if_false, Bool.false_eq_true, reduceIte, reduceCtorEq, decide_true, decide_false, decide_eq_true_eq, Bool.not_eq_eq_eq_not, Bool.not_true, Bool.not_false, decide_eq_false_iff_not, ite_not, Bool.true_and, Bool.and_true, Bool.false_and, Bool.and_false, Option.bind_some, Option.map_some, and_self, true_and, and_true, line_pos0, line_pos1, line_pos2, line_pos3, Int.reduceEq, Int.reduceLT, Int.reduceLE, Int.reduceAdd, Int.reduceSub, Int.reduceMul, Int.reduceNeg, Int.reduceToNat, Int.reduceNe, Int.reducePow, Nat.reduceLeDiff, Nat.reduceLT, Nat.reduceEqDiff]
  refine es_of (law_least_ok (n + 2) hu' hs hl.2) ?_
  rintro dl _ ⟨hL, rfl⟩
  try simp -implicitDefEqProofs only [f_bind, f_noX, f_sSeq, f_eS, f_sIf, f_sRet, a_sRetN, f_sSet, f_sPar, f_sAsg, f_sEx, a_sNil, f_sFor, f_sFldP, f_x2, f_x2F, f_x1, f_xIf, f_xAn, f_xOo, f_xNo, f_xTru, f_xBl, f_tNo, f_tAn, f_tOo, f_xCons, f_xNil, f_xTup, f_xMk, f_xP, f_xCall, f_xCallK, f_x3, f_ch3, f_var, f_gv, f_xC, f_xComp, f_itSeq, f_itEnum, f_itR1, f_itR2, f_toInt, f_xBM, f_xCut, f_xPart, f_xNoP, f_xFld, f_prC, f_xProp, f_gNm, f_gTp, f_gCn, f_gNl, f_gSb, f_xNew, bd_ok, bd_bad, bd_exc, es_ok, es_exc, st_ok, nex_ok, sq_nx, sq_rt, sq_bk, sq_ct, sq_exc, bd_bd, es_bd, st_bd, sq_es, sq_st, sq_sq, a_ev1, a_ev2, f_truB, f_truI, f_toBl, f_add, f_sub, f_mul, f_div, f_mod, f_pow, f_neg, f_lt, f_le, f_gt, f_ge, f_int, f_abs, f_lenT, f_lenL, f_tupT, f_divmod, f_catT, f_catL, f_eqI, f_eqS, f_neS, f_isN, f_isNN, f_ixT, f_ixL, f_ofS, f_seqT, f_seqL, f_seqC, f_enT, f_enL, f_isS, f_lenC, f_sumT, f_sumL, f_sumF, f_allF, f_anyF, f_min, f_max, ho_rt, ho_nx, ho_exc, ho_ok, lp_nx, lp_ct, lp_bk, lp_rt, lp_exc, wipeE, a_pure, a_stuck, f_mkF, f_mkT, l_L, l_C, l_F, l_ap, l_pf, l_mk, l_seqOf, l_seqOfT, l_seqOfL, l_ix, l_seqIt, l_en, l_tup, l_isL, l_app, l_set, l_fld, l_insC, l_putF, l_lst, l_cutT, l_cutL, l_cutR, l_cutC, l_catRR, at_0, at_1, at_2, at_3, at_last, st_0, st_1, st_2, Option.isSome_some, List.map_cons, List.map_nil, List.length_cons, List.length_nil, List.cons_append, List.nil_append, List.getElem?_cons_zero, List.getElem?_cons_succ, List.set_cons_zero, List.set_cons_succ, List.replicate_succ, List.replicate_zero, List.zip_cons_cons, List.zip_nil_left, List.zip_nil_right, List.foldl_cons, List.foldl_nil, Nat.reduceAdd, Nat.reduceSub, Nat.zero_add, if_true, if_false, Bool.false_eq_true, reduceIte, reduceCtorEq, decide_true, decide_false, decide_eq_true_eq, Bool.not_eq_eq_eq_not, Bool.not_true, Bool.not_false, decide_eq_false_iff_not, ite_not, Bool.true_and, Bool.and_true, Bool.false_and, Bool.and_false, Option.bind_some, Option.map_some, and_self, true_and, and_true, line_pos0, line_pos1, line_pos2, line_pos3, Int.reduceEq, Int.reduceLT, Int.reduceLE, Int.reduceAdd, Int.reduceSub, Int.reduceMul, Int.reduceNeg, Int.reduceToNat, Int.reduceNe, Int.reducePow, Nat.reduceLeDiff, Nat.reduceLT, Nat.reduceEqDiff]
  refine es_of (law_from_ok (n + 2) hu' hs hl.2) ?_
  rintro df _ ⟨hFr, rfl⟩
  try simp -implicitDefEqProofs only [f_bind, f_noX, f_sSeq, f_eS, f_sIf, f_sRet, a_sRetN, f_sSet, f_sPar, f_sAsg, f_sEx, a_sNil, f_sFor, f_sFldP, f_x2, f_x2F, f_x1, f_xIf, f_xAn, f_xOo, f_xNo, f_xTru, f_xBl, f_tNo, f_tAn, f_tOo, f_xCons, f_xNil, f_xTup, f_xMk, f_xP, f_xCall, f_xCallK, f_x3, f_ch3, f_var, f_gv, f_xC, f_xComp, f_itSeq, f_itEnum, f_itR1, f_itR2, f_toInt, f_xBM, f_xCut, f_xPart, f_xNoP, f_xFld, f_prC, f_xProp, f_gNm, f_gTp, f_gCn, f_gNl, f_gSb, f_xNew, bd_ok, bd_bad, bd_exc, es_ok, es_exc, st_ok, nex_ok, sq_nx, sq_rt, sq_bk, sq_ct, sq_exc, bd_bd, es_bd, st_bd, sq_es, sq_st, sq_sq, a_ev1, a_ev2, f_truB, f_truI, f_toBl, f_add, f_sub, f_mul, f_div, f_mod, f_pow, f_neg, f_lt, f_le, f_gt, f_ge, f_int, f_abs, f_lenT, f_lenL, f_tupT, f_divmod, f_catT, f_catL, f_eqI, f_eqS, f_neS, f_isN, f_isNN, f_ixT, f_ixL, f_ofS, f_seqT, f_seqL, f_seqC, f_enT, f_enL, f_isS, f_lenC, f_sumT, f_sumL, f_sumF, f_allF, f_anyF, f_min, f_max, ho_rt, ho_nx, ho_exc, ho_ok, lp_nx, lp_ct, lp_bk, lp_rt, lp_exc, wipeE, a_pure, a_stuck, f_mkF, f_mkT, l_L, l_C, l_F, l_ap, l_pf, l_mk, l_seqOf, l_seqOfT, l_seqOfL, l_ix, l_seqIt, l_en, l_tup, l_isL, l_app, l_set, l_fld, l_insC, l_putF, l_lst, l_cutT, l_cutL, l_cutR, l_cutC, l_catRR, at_0, at_1, at_2, at_3, at_last, st_0, st_1, st_2, Option.isSome_some, List.map_cons, List.map_nil, List.length_cons, List.length_nil, List.cons_append, List.nil_append, List.getElem?_cons_zero, List.getElem?_cons_succ, List.set_cons_zero, List.set_cons_succ, List.replicate_succ, List.replicate_zero, List.zip_cons_cons, List.zip_nil_left, List.zip_nil_right, List.foldl_cons, List.foldl_nil, Nat.reduceAdd, Nat.reduceSub, Nat.zero_add, if_true, if_false, Bool.false_eq_true, reduceIte, reduceCtorEq, decide_true, decide_false, decide_eq_true_eq, Bool.not_eq_eq_eq_not, Bool.not_true, Bool.not_false, decide_eq_false_iff_not, ite_not, Bool.true_and, Bool.and_true, Bool.false_and, Bool.and_false, Option.bind_some, Option.map_some, and_self, true_and, and_true, line_pos0, line_pos1, line_pos2, line_pos3, Int.reduceEq, Int.reduceLT, Int.reduceLE, Int.reduceAdd, Int.reduceSub, Int.reduceMul, Int.reduceNeg, Int.reduceToNat, Int.reduceNe, Int.reducePow, Nat.reduceLeDiff, Nat.reduceLT, Nat.reduceEqDiff]
  refine es_of (least_ok n hu h hs hl.2) ?_
  rintro d _ ⟨hq, rfl⟩
  have e := hq.eq hL
  subst e
  try simp -implicitDefEqProofs only [f_bind, f_noX, f_sSeq, f_eS, f_sIf, f_sRet, a_sRetN, f_sSet, f_sPar, f_sAsg, f_sEx, a_sNil, f_sFor, f_sFldP, f_x2, f_x2F, f_x1, f_xIf, f_xAn, f_xOo, f_xNo, f_xTru, f_xBl, f_tNo, f_tAn, f_tOo, f_xCons, f_xNil, f_xTup, f_xMk, f_xP, f_xCall, f_xCallK, f_x3, f_ch3, f_var, f_gv, f_xC, f_xComp, f_itSeq, f_itEnum, f_itR1, f_itR2, f_toInt, f_xBM, f_xCut, f_xPart, f_xNoP, f_xFld, f_prC, f_xProp, f_gNm, f_gTp, f_gCn, f_gNl, f_gSb, f_xNew, bd_ok, bd_bad, bd_exc, es_ok, es_exc, st_ok, nex_ok, sq_nx, sq_rt, sq_bk, sq_ct, sq_exc, bd_bd, es_bd, st_bd, sq_es, sq_st, sq_sq, a_ev1, a_ev2, f_truB, f_truI, f_toBl, f_add, f_sub, f_mul, f_div, f_mod, f_pow, f_neg, f_lt, f_le, f_gt, f_ge, f_int, f_abs, f_lenT, f_lenL, f_tupT, f_divmod, f_catT, f_catL, f_eqI, f_eqS, f_neS, f_isN, f_isNN, f_ixT, f_ixL, f_ofS, f_seqT, f_seqL, f_seqC, f_enT, f_enL, f_isS, f_lenC, f_sumT, f_sumL, f_sumF, f_allF, f_anyF, f_min, f_max, ho_rt, ho_nx, ho_exc, ho_ok, lp_nx, lp_ct, lp_bk, lp_rt, lp_exc, wipeE, a_pure, a_stuck, f_mkF, f_mkT, l_L, l_C, l_F, l_ap, l_pf, l_mk, l_seqOf, l_seqOfT, l_seqOfL, l_ix, l_seqIt, l_en, l_tup, l_isL, l_app, l_set, l_fld, l_insC, l_putF, l_lst, l_cutT, l_cutL, l_cutR, l_cutC, l_catRR, at_0, at_1, at_2, at_3, at_last, st_0, st_1, st_2, Option.isSome_some, List.map_cons, List.map_nil, List.length_cons, List.length_nil, List.cons_append, List.nil_append, List.getElem?_cons_zero, List.getElem?_cons_succ, List.set_cons_zero, List.set_cons_succ, List.replicate_succ, List.replicate_zero, List.zip_cons_cons, List.zip_nil_left, List.zip_nil_right, List.foldl_cons, List.foldl_nil, Nat.reduceAdd, Nat.reduceSub, Nat.zero_add, if_true, if_false, Bool.false_eq_true, reduceIte, reduceCtorEq, decide_true, decide_false, decide_eq_true_eq, Bool.not_eq_eq_eq_not, Bool.not_true, Bool.not_false, decide_eq_false_iff_not, ite_not, Bool.true_and, Bool.and_true, Bool.false_and, Bool.and_false, Option.bind_some, Option.map_some, and_self, true_and, and_true, line_pos0, line_pos1, line_pos2, line_pos3, Int.reduceEq, Int.reduceLT, Int.reduceLE, Int.reduceAdd, Int.reduceSub, Int.reduceMul, Int.reduceNeg, Int.reduceToNat, Int.reduceNe, Int.reducePow, Nat.reduceLeDiff, Nat.reduceLT, Nat.reduceEqDiff, gk1]
  refine es_of (least_ok n hu h hs hl.2) ?_
  rintro d2 _ ⟨hq2, rfl⟩
  have e := hq2.eq hL
  subst e
  try simp -implicitDefEqProofs only [f_bind, f_noX, f_sSeq, f_eS, f_sIf, f_sRet, a_sRetN, f_sSet, f_sPar, f_sAsg, f_sEx, a_sNil, f_sFor, f_sFldP, f_x2, f_x2F, f_x1, f_xIf, f_xAn, f_xOo, f_xNo, f_xTru, f_xBl, f_tNo, f_tAn, f_tOo, f_xCons, f_xNil, f_xTup, f_xMk, f_xP, f_xCall, f_xCallK, f_x3, f_ch3, f_var, f_gv, f_xC, f_xComp, f_itSeq, f_itEnum, f_itR1, f_itR2, f_toInt, f_xBM, f_xCut, f_xPart, f_xNoP, f_xFld, f_prC, f_xProp, f_gNm, f_gTp, f_gCn, f_gNl, f_gSb, f_xNew, bd_ok, bd_bad, bd_exc, es_ok, es_exc, st_ok, nex_ok, sq_nx, sq_rt, sq_bk, sq_ct, sq_exc, bd_bd, es_bd, st_bd, sq_es, sq_st, sq_sq, a_ev1, a_ev2, f_truB, f_truI, f_toBl, f_add, f_sub, f_mul, f_div, f_mod, f_pow, f_neg, f_lt, f_le, f_gt, f_ge, f_int, f_abs, f_lenT, f_lenL, f_tupT, f_divmod, f_catT, f_catL, f_eqI, f_eqS, f_neS, f_isN, f_isNN, f_ixT, f_ixL, f_ofS, f_seqT, f_seqL, f_seqC, f_enT, f_enL, f_isS, f_lenC, f_sumT, f_sumL, f_sumF, f_allF, f_anyF, f_min, f_max, ho_rt, ho_nx, ho_exc, ho_ok, lp_nx, lp_ct, lp_bk, lp_rt, lp_exc, wipeE, a_pure, a_stuck, f_mkF, f_mkT, l_L, l_C, l_F, l_ap, l_pf, l_mk, l_seqOf, l_seqOfT, l_seqOfL, l_ix, l_seqIt, l_en, l_tup, l_isL, l_app, l_set, l_fld, l_insC, l_putF, l_lst, l_cutT, l_cutL, l_cutR, l_cutC, l_catRR, at_0, at_1, at_2, at_3, at_last, st_0, st_1, st_2, Option.isSome_some, List.map_cons, List.map_nil, List.length_cons, List.length_nil, List.cons_append, List.nil_append, List.getElem?_cons_zero, List.getElem?_cons_succ, List.set_cons_zero, List.set_cons_succ, List.replicate_succ, List.replicate_zero, List.zip_cons_cons, List.zip_nil_left, List.zip_nil_right, List.foldl_cons, List.foldl_nil, Nat.reduceAdd, Nat.reduceSub, Nat.zero_add, if_true, if_false, Bool.false_eq_true, reduceIte, reduceCtorEq, decide_true, decide_false, decide_eq_true_eq, Bool.not_eq_eq_eq_not, Bool.not_true, Bool.not_false, decide_eq_false_iff_not, ite_not, Bool.true_and, Bool.and_true, Bool.false_and, Bool.and_false, Option.bind_some, Option.map_some, and_self, true_and, and_true, line_pos0, line_pos1, line_pos2, line_pos3, Int.reduceEq, Int.reduceLT, Int.reduceLE, Int.reduceAdd, Int.reduceSub, Int.reduceMul, Int.reduceNeg, Int.reduceToNat, Int.reduceNe, Int.reducePow, Nat.reduceLeDiff, Nat.reduceLT, Nat.reduceEqDiff]
  refine es_of (from_on_ok n hu h hs hl.2) ?_
  rintro d3 _ ⟨hq3, rfl⟩
  have e := hq3.eq hFr
  subst e
  try simp -implicitDefEqProofs only [f_bind, f_noX, f_sSeq, f_eS, f_sIf, f_sRet, a_sRetN, f_sSet, f_sPar, f_sAsg, f_sEx, a_sNil, f_sFor, f_sFldP, f_x2, f_x2F, f_x1, f_xIf, f_xAn, f_xOo, f_xNo, f_xTru, f_xBl, f_tNo, f_tAn, f_tOo, f_xCons, f_xNil, f_xTup, f_xMk, f_xP, f_xCall, f_xCallK, f_x3, f_ch3, f_var, f_gv, f_xC, f_xComp, f_itSeq, f_itEnum, f_itR1, f_itR2, f_toInt, f_xBM, f_xCut, f_xPart, f_xNoP, f_xFld, f_prC, f_xProp, f_gNm, f_gTp, f_gCn, f_gNl, f_gSb, f_xNew, bd_ok, bd_bad, bd_exc, es_ok, es_exc, st_ok, nex_ok, sq_nx, sq_rt, sq_bk, sq_ct, sq_exc, bd_bd, es_bd, st_bd, sq_es, sq_st, sq_sq, a_ev1, a_ev2, f_truB, f_truI, f_toBl, f_add, f_sub, f_mul, f_div, f_mod, f_pow, f_neg, f_lt, f_le, f_gt, f_ge, f_int, f_abs, f_lenT, f_lenL, f_tupT, f_divmod, f_catT, f_catL, f_eqI, f_eqS, f_neS, f_isN, f_isNN, f_ixT, f_ixL, f_ofS, f_seqT, f_seqL, f_seqC, f_enT, f_enL, f_isS, f_lenC, f_sumT, f_sumL, f_sumF, f_allF, f_anyF, f_min, f_max, ho_rt, ho_nx, ho_exc, ho_ok, lp_nx, lp_ct, lp_bk, lp_rt, lp_exc, wipeE, a_pure, a_stuck, f_mkF, f_mkT, l_L, l_C, l_F, l_ap, l_pf, l_mk, l_seqOf, l_seqOfT, l_seqOfL, l_ix, l_seqIt, l_en, l_tup, l_isL, l_app, l_set, l_fld, l_insC, l_putF, l_lst, l_cutT, l_cutL, l_cutR, l_cutC, l_catRR, at_0, at_1, at_2, at_3, at_last, st_0, st_1, st_2, Option.isSome_some, List.map_cons, List.map_nil, List.length_cons, List.length_nil, List.cons_append, List.nil_append, List.getElem?_cons_zero, List.getElem?_cons_succ, List.set_cons_zero, List.set_cons_succ, List.replicate_succ, List.replicate_zero, List.zip_cons_cons, List.zip_nil_left, List.zip_nil_right, List.foldl_cons, List.foldl_nil, Nat.reduceAdd, Nat.reduceSub, Nat.zero_add, if_true, if_false, Bool.false_eq_true, reduceIte, reduceCtorEq, decide_true, decide_false, decide_eq_true_eq, Bool.not_eq_eq_eq_not, Bool.not_true, Bool.not_false, decide_eq_false_iff_not, ite_not, Bool.true_and, Bool.and_true, Bool.false_and, Bool.and_false, Option.bind_some, Option.map_some, and_self, true_and, and_true, line_pos0, line_pos1, line_pos2, line_pos3, Int.reduceEq, Int.reduceLT, Int.reduceLE, Int.reduceAdd, Int.reduceSub, Int.reduceMul, Int.reduceNeg, Int.reduceToNat, Int.reduceNe, Int.reducePow, Nat.reduceLeDiff, Nat.reduceLT, Nat.reduceEqDiff, gk1]
  refine es_of (from_on_ok n hu h hs hl.2) ?_
  rintro d4 _ ⟨hq4, rfl⟩
  have e := hq4.eq hFr
  subst e
  obtain ⟨a1, a2, a3⟩ := least_pl hL
  obtain ⟨b1, b2, b3⟩ := from_pl hFr
  obtain ⟨t, ht⟩ := repr_pl (d := .tmp [d2, d2, d4, d4]) (by simp [plD, plDL, a1, b1]) (by simp only [dpD, dpDL]; omega) (by simp only [szD, szDL]; omega)
  have l4 : (4 : Nat) ≤ line := by unfold line; decide
  try simp -implicitDefEqProofs only [f_bind, f_noX, f_sSeq, f_eS, f_sIf, f_sRet, a_sRetN, f_sSet, f_sPar, f_sAsg, f_sEx, a_sNil, f_sFor, f_sFldP, f_x2, f_x2F, f_x1, f_xIf, f_xAn, f_xOo, f_xNo, f_xTru, f_xBl, f_tNo, f_tAn, f_tOo, f_xCons, f_xNil, f_xTup, f_xMk, f_xP, f_xCall, f_xCallK, f_x3, f_ch3, f_var, f_gv, f_xC, f_xComp, f_itSeq, f_itEnum, f_itR1, f_itR2, f_toInt, f_xBM, f_xCut, f_xPart, f_xNoP, f_xFld, f_prC, f_xProp, f_gNm, f_gTp, f_gCn, f_gNl, f_gSb, f_xNew, bd_ok, bd_bad, bd_exc, es_ok, es_exc, st_ok, nex_ok, sq_nx, sq_rt, sq_bk, sq_ct, sq_exc, bd_bd, es_bd, st_bd, sq_es, sq_st, sq_sq, a_ev1, a_ev2, f_truB, f_truI, f_toBl, f_add, f_sub, f_mul, f_div, f_mod, f_pow, f_neg, f_lt, f_le, f_gt, f_ge, f_int, f_abs, f_lenT, f_lenL, f_tupT, f_divmod, f_catT, f_catL, f_eqI, f_eqS, f_neS, f_isN, f_isNN, f_ixT, f_ixL, f_ofS, f_seqT, f_seqL, f_seqC, f_enT, f_enL, f_isS, f_lenC, f_sumT, f_sumL, f_sumF, f_allF, f_anyF, f_min, f_max, ho_rt, ho_nx, ho_exc, ho_ok, lp_nx, lp_ct, lp_bk, lp_rt, lp_exc, wipeE, a_pure, a_stuck, f_mkF, f_mkT, l_L, l_C, l_F, l_ap, l_pf, l_mk, l_seqOf, l_seqOfT, l_seqOfL, l_ix, l_seqIt, l_en, l_tup, l_isL, l_app, l_set, l_fld, l_insC, l_putF, l_lst, l_cutT, l_cutL, l_cutR, l_cutC, l_catRR, at_0, at_1, at_2, at_3, at_last, st_0, st_1, st_2, Option.isSome_some, List.map_cons, List.map_nil, List.length_cons, List.length_nil, List.cons_append, List.nil_append, List.getElem?_cons_zero, List.getElem?_cons_succ, List.set_cons_zero, List.set_cons_succ, List.replicate_succ, List.replicate_zero, List.zip_cons_cons, List.zip_nil_left, List.zip_nil_right, List.foldl_cons, List.foldl_nil, Nat.reduceAdd, Nat.reduceSub, Nat.zero_add, if_true, if_false, Bool.false_eq_true, reduceIte, reduceCtorEq, decide_true, decide_false, decide_eq_true_eq, Bool.not_eq_eq_eq_not, Bool.not_true, Bool.not_false, decide_eq_false_iff_not, ite_not, Bool.true_and, Bool.and_true, Bool.false_and, Bool.and_false, Option.bind_some, Option.map_some, and_self, true_and, and_true, line_pos0, line_pos1, line_pos2, line_pos3, Int.reduceEq, Int.reduceLT, Int.reduceLE, Int.reduceAdd, Int.reduceSub, Int.reduceMul, Int.reduceNeg, Int.reduceToNat, Int.reduceNe, Int.reducePow, Nat.reduceLeDiff, Nat.reduceLT, Nat.reduceEqDiff, l4, ht, eq_self]
  have hfit := fun (S' : Sto) (hS : IsP S' j pl ss) (p : Int) (hp : 1 ≤ p ∧ p ≤ 100000) => does_fit_people_ok n hu hS hs hl.2 hp
  rcases hFr with ⟨rfl, hN⟩ | ⟨m, rfl, m1, m2, m3, m4, m5, m6⟩
  · try simp -implicitDefEqProofs only [f_bind, f_noX, f_sSeq, f_eS, f_sIf, f_sRet, a_sRetN, f_sSet, f_sPar, f_sAsg, f_sEx, a_sNil, f_sFor, f_sFldP, f_x2, f_x2F, f_x1, f_xIf, f_xAn, f_xOo, f_xNo, f_xTru, f_xBl, f_tNo, f_tAn, f_tOo, f_xCons, f_xNil, f_xTup, f_xMk, f_xP, f_xCall, f_xCallK, f_x3, f_ch3, f_var, f_gv, f_xC, f_xComp, f_itSeq, f_itEnum, f_itR1, f_itR2, f_toInt, f_xBM, f_xCut, f_xPart, f_xNoP, f_xFld, f_prC, f_xProp, f_gNm, f_gTp, f_gCn, f_gNl, f_gSb, f_xNew, bd_ok, bd_bad, bd_exc, es_ok, es_exc, st_ok, nex_ok, sq_nx, sq_rt, sq_bk, sq_ct, sq_exc, bd_bd, es_bd, st_bd, sq_es, sq_st, sq_sq, a_ev1, a_ev2, f_truB, f_truI, f_toBl, f_add, f_sub, f_mul, f_div, f_mod, f_pow, f_neg, f_lt, f_le, f_gt, f_ge, f_int, f_abs, f_lenT, f_lenL, f_tupT, f_divmod, f_catT, f_catL, f_eqI, f_eqS, f_neS, f_isN, f_isNN, f_ixT, f_ixL, f_ofS, f_seqT, f_seqL, f_seqC, f_enT, f_enL, f_isS, f_lenC, f_sumT, f_sumL, f_sumF, f_allF, f_anyF, f_min, f_max, ho_rt, ho_nx, ho_exc, ho_ok, lp_nx, lp_ct, lp_bk, lp_rt, lp_exc, wipeE, a_pure, a_stuck, f_mkF, f_mkT, l_L, l_C, l_F, l_ap, l_pf, l_mk, l_seqOf, l_seqOfT, l_seqOfL, l_ix, l_seqIt, l_en, l_tup, l_isL, l_app, l_set, l_fld, l_insC, l_putF, l_lst, l_cutT, l_cutL, l_cutR, l_cutC, l_catRR, at_0, at_1, at_2, at_3, at_last, st_0, st_1, st_2, Option.isSome_some, List.map_cons, List.map_nil, List.length_cons, List.length_nil, List.cons_append, List.nil_append, List.getElem?_cons_zero, List.getElem?_cons_succ, List.set_cons_zero, List.set_cons_succ, List.replicate_succ, List.replicate_zero, List.zip_cons_cons, List.zip_nil_left, List.zip_nil_right, List.foldl_cons, List.foldl_nil, Nat.reduceAdd, Nat.reduceSub, Nat.zero_add, if_true, if_false, Bool.false_eq_true, reduceIte, reduceCtorEq, decide_true, decide_false, decide_eq_true_eq, Bool.not_eq_eq_eq_not, Bool.not_true, Bool.not_false, decide_eq_false_iff_not, ite_not, Bool.true_and, Bool.and_true, Bool.false_and, Bool.and_false, Option.bind_some, Option.map_some, and_self, true_and, and_true, line_pos0, line_pos1, line_pos2, line_pos3, Int.reduceEq, Int.reduceLT, Int.reduceLE, Int.reduceAdd, Int.reduceSub, Int.reduceMul, Int.reduceNeg, Int.reduceToNat, Int.reduceNe, Int.reducePow, Nat.reduceLeDiff, Nat.reduceLT, Nat.reduceEqDiff, isNon_non]
    refine es_of (draw_ok (n + 4) hW (by omega) (by omega)) ?_
    rintro _ S1 ⟨r, rfl, r0, r1, hW1, hF1⟩
    have h1 := h.fr hF1 hj
    obtain ⟨y, hy⟩ : ∃ y : Int, y = 1 + r := ⟨_, rfl⟩
    have k1 := hfit S1 h1 y (by omega)
    rcases hL with ⟨rfl, hM⟩ | ⟨x, rfl, x1, x2, x3, x4, x5, x6⟩
    · have hf : Poll.feas (ends u y ss) y = false := by
        rcases hM with q | q
        · exact Poll.unfit_low (by omega) (by omega) (fun z hz => (hs z hz).1) q
        · refine Poll.unfit_top (by omega) (by omega) (fun z => ?_) q
          rw [z] at hl
          exact absurd hl.1 (by decide)
      rw [hf] at k1
      obtain ⟨t2, ht2⟩ := repr_pl (d := .bl false) rfl (by decide) (by decide)
      try simp -implicitDefEqProofs only [f_bind, f_noX, f_sSeq, f_eS, f_sIf, f_sRet, a_sRetN, f_sSet, f_sPar, f_sAsg, f_sEx, a_sNil, f_sFor, f_sFldP, f_x2, f_x2F, f_x1, f_xIf, f_xAn, f_xOo, f_xNo, f_xTru, f_xBl, f_tNo, f_tAn, f_tOo, f_xCons, f_xNil, f_xTup, f_xMk, f_xP, f_xCall, f_xCallK, f_x3, f_ch3, f_var, f_gv, f_xC, f_xComp, f_itSeq, f_itEnum, f_itR1, f_itR2, f_toInt, f_xBM, f_xCut, f_xPart, f_xNoP, f_xFld, f_prC, f_xProp, f_gNm, f_gTp, f_gCn, f_gNl, f_gSb, f_xNew, bd_ok, bd_bad, bd_exc, es_ok, es_exc, st_ok, nex_ok, sq_nx, sq_rt, sq_bk, sq_ct, sq_exc, bd_bd, es_bd, st_bd, sq_es, sq_st, sq_sq, a_ev1, a_ev2, f_truB, f_truI, f_toBl, f_add, f_sub, f_mul, f_div, f_mod, f_pow, f_neg, f_lt, f_le, f_gt, f_ge, f_int, f_abs, f_lenT, f_lenL, f_tupT, f_divmod, f_catT, f_catL, f_eqI, f_eqS, f_neS, f_isN, f_isNN, f_ixT, f_ixL, f_ofS, f_seqT, f_seqL, f_seqC, f_enT, f_enL, f_isS, f_lenC, f_sumT, f_sumL, f_sumF, f_allF, f_anyF, f_min, f_max, ho_rt, ho_nx, ho_exc, ho_ok, lp_nx, lp_ct, lp_bk, lp_rt, lp_exc, wipeE, a_pure, a_stuck, f_mkF, f_mkT, l_L, l_C, l_F, l_ap, l_pf, l_mk, l_seqOf, l_seqOfT, l_seqOfL, l_ix, l_seqIt, l_en, l_tup, l_isL, l_app, l_set, l_fld, l_insC, l_putF, l_lst, l_cutT, l_cutL, l_cutR, l_cutC, l_catRR, at_0, at_1, at_2, at_3, at_last, st_0, st_1, st_2, Option.isSome_some, List.map_cons, List.map_nil, List.length_cons, List.length_nil, List.cons_append, List.nil_append, List.getElem?_cons_zero, List.getElem?_cons_succ, List.set_cons_zero, List.set_cons_succ, List.replicate_succ, List.replicate_zero, List.zip_cons_cons, List.zip_nil_left, List.zip_nil_right, List.foldl_cons, List.foldl_nil, Nat.reduceAdd, Nat.reduceSub, Nat.zero_add, if_true, if_false, Bool.false_eq_true, reduceIte, reduceCtorEq, decide_true, decide_false, decide_eq_true_eq, Bool.not_eq_eq_eq_not, Bool.not_true, Bool.not_false, decide_eq_false_iff_not, ite_not, Bool.true_and, Bool.and_true, Bool.false_and, Bool.and_false, Option.bind_some, Option.map_some, and_self, true_and, and_true, line_pos0, line_pos1, line_pos2, line_pos3, Int.reduceEq, Int.reduceLT, Int.reduceLE, Int.reduceAdd, Int.reduceSub, Int.reduceMul, Int.reduceNeg, Int.reduceToNat, Int.reduceNe, Int.reducePow, Nat.reduceLeDiff, Nat.reduceLT, Nat.reduceEqDiff, ← hy, isNon_non, k1, ht2, eq_self]
      exact hW1
    · have hlow : Poll.lowS ss = 2 * u := by omega
      have hdiv := fun p (hp : 1 ≤ p) => Poll.fit_just (u := u) (p := p) (by omega) hs hp hlow
      have hiff : Poll.feas (ends u y ss) y = decide (y.fmod x = 0) := by
        rw [Int.fmod_eq_emod_of_nonneg _ (by omega), Bool.eq_iff_iff, decide_eq_true_eq]
        rw [ends_eds, hdiv y (by omega)]
        refine Poll.Div.iff x1 ((hdiv x x1).mp x3) (fun i i1 i2 hd => ?_) (by omega)
        have := x4 i i1 i2
        rw [show Fit u ss i = true from (hdiv i i1).mpr hd] at this
        cases this
      rw [hiff] at k1
      have k2 := hfit S1 h1 (3 * x) (by omega)
      have hf3 : Poll.feas (ends u (3 * x) ss) (3 * x) = true := by
        rw [ends_eds, hdiv _ (by omega)]
        exact ((hdiv x x1).mp x3).mul 3
      rw [hf3] at k2
      obtain ⟨t2, ht2⟩ := repr_pl (d := .bl (decide (y.fmod x = 0))) rfl (by simp [dpD]) (by simp [szD])
      have hx0 : ¬ x = 0 := by omega
      have m3' : mulB 3 x = true := mulB_l (by decide)
      try simp -implicitDefEqProofs only [f_bind, f_noX, f_sSeq, f_eS, f_sIf, f_sRet, a_sRetN, f_sSet, f_sPar, f_sAsg, f_sEx, a_sNil, f_sFor, f_sFldP, f_x2, f_x2F, f_x1, f_xIf, f_xAn, f_xOo, f_xNo, f_xTru, f_xBl, f_tNo, f_tAn, f_tOo, f_xCons, f_xNil, f_xTup, f_xMk, f_xP, f_xCall, f_xCallK, f_x3, f_ch3, f_var, f_gv, f_xC, f_xComp, f_itSeq, f_itEnum, f_itR1, f_itR2, f_toInt, f_xBM, f_xCut, f_xPart, f_xNoP, f_xFld, f_prC, f_xProp, f_gNm, f_gTp, f_gCn, f_gNl, f_gSb, f_xNew, bd_ok, bd_bad, bd_exc, es_ok, es_exc, st_ok, nex_ok, sq_nx, sq_rt, sq_bk, sq_ct, sq_exc, bd_bd, es_bd, st_bd, sq_es, sq_st, sq_sq, a_ev1, a_ev2, f_truB, f_truI, f_toBl, f_add, f_sub, f_mul, f_div, f_mod, f_pow, f_neg, f_lt, f_le, f_gt, f_ge, f_int, f_abs, f_lenT, f_lenL, f_tupT, f_divmod, f_catT, f_catL, f_eqI, f_eqS, f_neS, f_isN, f_isNN, f_ixT, f_ixL, f_ofS, f_seqT, f_seqL, f_seqC, f_enT, f_enL, f_isS, f_lenC, f_sumT, f_sumL, f_sumF, f_allF, f_anyF, f_min, f_max, ho_rt, ho_nx, ho_exc, ho_ok, lp_nx, lp_ct, lp_bk, lp_rt, lp_exc, wipeE, a_pure, a_stuck, f_mkF, f_mkT, l_L, l_C, l_F, l_ap, l_pf, l_mk, l_seqOf, l_seqOfT, l_seqOfL, l_ix, l_seqIt, l_en, l_tup, l_isL, l_app, l_set, l_fld, l_insC, l_putF, l_lst, l_cutT, l_cutL, l_cutR, l_cutC, l_catRR, at_0, at_1, at_2, at_3, at_last, st_0, st_1, st_2, Option.isSome_some, List.map_cons, List.map_nil, List.length_cons, List.length_nil, List.cons_append, List.nil_append, List.getElem?_cons_zero, List.getElem?_cons_succ, List.set_cons_zero, List.set_cons_succ, List.replicate_succ, List.replicate_zero, List.zip_cons_cons, List.zip_nil_left, List.zip_nil_right, List.foldl_cons, List.foldl_nil, Nat.reduceAdd, Nat.reduceSub, Nat.zero_add, if_true, if_false, Bool.false_eq_true, reduceIte, reduceCtorEq, decide_true, decide_false, decide_eq_true_eq, Bool.not_eq_eq_eq_not, Bool.not_true, Bool.not_false, decide_eq_false_iff_not, ite_not, Bool.true_and, Bool.and_true, Bool.false_and, Bool.and_false, Option.bind_some, Option.map_some, and_self, true_and, and_true, line_pos0, line_pos1, line_pos2, line_pos3, Int.reduceEq, Int.reduceLT, Int.reduceLE, Int.reduceAdd, Int.reduceSub, Int.reduceMul, Int.reduceNeg, Int.reduceToNat, Int.reduceNe, Int.reducePow, Nat.reduceLeDiff, Nat.reduceLT, Nat.reduceEqDiff, ← hy, isNon_int, k1, ne_eq, hx0, ht2, eq_self, k2, m3', f_isB]
      exact hW1
  · try simp -implicitDefEqProofs only [f_bind, f_noX, f_sSeq, f_eS, f_sIf, f_sRet, a_sRetN, f_sSet, f_sPar, f_sAsg, f_sEx, a_sNil, f_sFor, f_sFldP, f_x2, f_x2F, f_x1, f_xIf, f_xAn, f_xOo, f_xNo, f_xTru, f_xBl, f_tNo, f_tAn, f_tOo, f_xCons, f_xNil, f_xTup, f_xMk, f_xP, f_xCall, f_xCallK, f_x3, f_ch3, f_var, f_gv, f_xC, f_xComp, f_itSeq, f_itEnum, f_itR1, f_itR2, f_toInt, f_xBM, f_xCut, f_xPart, f_xNoP, f_xFld, f_prC, f_xProp, f_gNm, f_gTp, f_gCn, f_gNl, f_gSb, f_xNew, bd_ok, bd_bad, bd_exc, es_ok, es_exc, st_ok, nex_ok, sq_nx, sq_rt, sq_bk, sq_ct, sq_exc, bd_bd, es_bd, st_bd, sq_es, sq_st, sq_sq, a_ev1, a_ev2, f_truB, f_truI, f_toBl, f_add, f_sub, f_mul, f_div, f_mod, f_pow, f_neg, f_lt, f_le, f_gt, f_ge, f_int, f_abs, f_lenT, f_lenL, f_tupT, f_divmod, f_catT, f_catL, f_eqI, f_eqS, f_neS, f_isN, f_isNN, f_ixT, f_ixL, f_ofS, f_seqT, f_seqL, f_seqC, f_enT, f_enL, f_isS, f_lenC, f_sumT, f_sumL, f_sumF, f_allF, f_anyF, f_min, f_max, ho_rt, ho_nx, ho_exc, ho_ok, lp_nx, lp_ct, lp_bk, lp_rt, lp_exc, wipeE, a_pure, a_stuck, f_mkF, f_mkT, l_L, l_C, l_F, l_ap, l_pf, l_mk, l_seqOf, l_seqOfT, l_seqOfL, l_ix, l_seqIt, l_en, l_tup, l_isL, l_app, l_set, l_fld, l_insC, l_putF, l_lst, l_cutT, l_cutL, l_cutR, l_cutC, l_catRR, at_0, at_1, at_2, at_3, at_last, st_0, st_1, st_2, Option.isSome_some, List.map_cons, List.map_nil, List.length_cons, List.length_nil, List.cons_append, List.nil_append, List.getElem?_cons_zero, List.getElem?_cons_succ, List.set_cons_zero, List.set_cons_succ, List.replicate_succ, List.replicate_zero, List.zip_cons_cons, List.zip_nil_left, List.zip_nil_right, List.foldl_cons, List.foldl_nil, Nat.reduceAdd, Nat.reduceSub, Nat.zero_add, if_true, if_false, Bool.false_eq_true, reduceIte, reduceCtorEq, decide_true, decide_false, decide_eq_true_eq, Bool.not_eq_eq_eq_not, Bool.not_true, Bool.not_false, decide_eq_false_iff_not, ite_not, Bool.true_and, Bool.and_true, Bool.false_and, Bool.and_false, Option.bind_some, Option.map_some, and_self, true_and, and_true, line_pos0, line_pos1, line_pos2, line_pos3, Int.reduceEq, Int.reduceLT, Int.reduceLE, Int.reduceAdd, Int.reduceSub, Int.reduceMul, Int.reduceNeg, Int.reduceToNat, Int.reduceNe, Int.reducePow, Nat.reduceLeDiff, Nat.reduceLT, Nat.reduceEqDiff, isNon_int]
    refine es_of (draw_ok (n + 4) hW (by omega) (by omega)) ?_
    rintro _ S1 ⟨r, rfl, r0, r1, hW1, hF1⟩
    have h1 := h.fr hF1 hj
    have k1 := hfit S1 h1 m (by omega)
    rw [show Poll.feas (ends u m ss) m = true from m3 m (by omega)] at k1
    have k2 := hfit S1 h1 (m + r) (by omega)
    rw [show Poll.feas (ends u (m + r) ss) (m + r) = true from m3 (m + r) (by omega)] at k2
    have gk2 : gN ["people", "poll"] ["poll", "people"] [D.int (m + r), D.ref j] = [D.ref j, D.int (m + r)] := rfl
    by_cases hm1 : m = 1
    · subst hm1
      try simp -implicitDefEqProofs only [f_bind, f_noX, f_sSeq, f_eS, f_sIf, f_sRet, a_sRetN, f_sSet, f_sPar, f_sAsg, f_sEx, a_sNil, f_sFor, f_sFldP, f_x2, f_x2F, f_x1, f_xIf, f_xAn, f_xOo, f_xNo, f_xTru, f_xBl, f_tNo, f_tAn, f_tOo, f_xCons, f_xNil, f_xTup, f_xMk, f_xP, f_xCall, f_xCallK, f_x3, f_ch3, f_var, f_gv, f_xC, f_xComp, f_itSeq, f_itEnum, f_itR1, f_itR2, f_toInt, f_xBM, f_xCut, f_xPart, f_xNoP, f_xFld, f_prC, f_xProp, f_gNm, f_gTp, f_gCn, f_gNl, f_gSb, f_xNew, bd_ok, bd_bad, bd_exc, es_ok, es_exc, st_ok, nex_ok, sq_nx, sq_rt, sq_bk, sq_ct, sq_exc, bd_bd, es_bd, st_bd, sq_es, sq_st, sq_sq, a_ev1, a_ev2, f_truB, f_truI, f_toBl, f_add, f_sub, f_mul, f_div, f_mod, f_pow, f_neg, f_lt, f_le, f_gt, f_ge, f_int, f_abs, f_lenT, f_lenL, f_tupT, f_divmod, f_catT, f_catL, f_eqI, f_eqS, f_neS, f_isN, f_isNN, f_ixT, f_ixL, f_ofS, f_seqT, f_seqL, f_seqC, f_enT, f_enL, f_isS, f_lenC, f_sumT, f_sumL, f_sumF, f_allF, f_anyF, f_min, f_max, ho_rt, ho_nx, ho_exc, ho_ok, lp_nx, lp_ct, lp_bk, lp_rt, lp_exc, wipeE, a_pure, a_stuck, f_mkF, f_mkT, l_L, l_C, l_F, l_ap, l_pf, l_mk, l_seqOf, l_seqOfT, l_seqOfL, l_ix, l_seqIt, l_en, l_tup, l_isL, l_app, l_set, l_fld, l_insC, l_putF, l_lst, l_cutT, l_cutL, l_cutR, l_cutC, l_catRR, at_0, at_1, at_2, at_3, at_last, st_0, st_1, st_2, Option.isSome_some, List.map_cons, List.map_nil, List.length_cons, List.length_nil, List.cons_append, List.nil_append, List.getElem?_cons_zero, List.getElem?_cons_succ, List.set_cons_zero, List.set_cons_succ, List.replicate_succ, List.replicate_zero, List.zip_cons_cons, List.zip_nil_left, List.zip_nil_right, List.foldl_cons, List.foldl_nil, Nat.reduceAdd, Nat.reduceSub, Nat.zero_add, if_true, if_false, Bool.false_eq_true, reduceIte, reduceCtorEq, decide_true, decide_false, decide_eq_true_eq, Bool.not_eq_eq_eq_not, Bool.not_true, Bool.not_false, decide_eq_false_iff_not, ite_not, Bool.true_and, Bool.and_true, Bool.false_and, Bool.and_false, Option.bind_some, Option.map_some, and_self, true_and, and_true, line_pos0, line_pos1, line_pos2, line_pos3, Int.reduceEq, Int.reduceLT, Int.reduceLE, Int.reduceAdd, Int.reduceSub, Int.reduceMul, Int.reduceNeg, Int.reduceToNat, Int.reduceNe, Int.reducePow, Nat.reduceLeDiff, Nat.reduceLT, Nat.reduceEqDiff, k1, k2, gk2, f_isNB, eq_self]
      exact hW1
    · have k3 := hfit S1 h1 (m - 1) (by omega)
      have m4' : Poll.feas (ends u (m - 1) ss) (m - 1) = false := by
        rcases m4 with q | q
        · exact absurd q hm1
        · exact q
      rw [m4'] at k3
      try simp -implicitDefEqProofs only [f_bind, f_noX, f_sSeq, f_eS, f_sIf, f_sRet, a_sRetN, f_sSet, f_sPar, f_sAsg, f_sEx, a_sNil, f_sFor, f_sFldP, f_x2, f_x2F, f_x1, f_xIf, f_xAn, f_xOo, f_xNo, f_xTru, f_xBl, f_tNo, f_tAn, f_tOo, f_xCons, f_xNil, f_xTup, f_xMk, f_xP, f_xCall, f_xCallK, f_x3, f_ch3, f_var, f_gv, f_xC, f_xComp, f_itSeq, f_itEnum, f_itR1, f_itR2, f_toInt, f_xBM, f_xCut, f_xPart, f_xNoP, f_xFld, f_prC, f_xProp, f_gNm, f_gTp, f_gCn, f_gNl, f_gSb, f_xNew, bd_ok, bd_bad, bd_exc, es_ok, es_exc, st_ok, nex_ok, sq_nx, sq_rt, sq_bk, sq_ct, sq_exc, bd_bd, es_bd, st_bd, sq_es, sq_st, sq_sq, a_ev1, a_ev2, f_truB, f_truI, f_toBl, f_add, f_sub, f_mul, f_div, f_mod, f_pow, f_neg, f_lt, f_le, f_gt, f_ge, f_int, f_abs, f_lenT, f_lenL, f_tupT, f_divmod, f_catT, f_catL, f_eqI, f_eqS, f_neS, f_isN, f_isNN, f_ixT, f_ixL, f_ofS, f_seqT, f_seqL, f_seqC, f_enT, f_enL, f_isS, f_lenC, f_sumT, f_sumL, f_sumF, f_allF, f_anyF, f_min, f_max, ho_rt, ho_nx, ho_exc, ho_ok, lp_nx, lp_ct, lp_bk, lp_rt, lp_exc, wipeE, a_pure, a_stuck, f_mkF, f_mkT, l_L, l_C, l_F, l_ap, l_pf, l_mk, l_seqOf, l_seqOfT, l_seqOfL, l_ix, l_seqIt, l_en, l_tup, l_isL, l_app, l_set, l_fld, l_insC, l_putF, l_lst, l_cutT, l_cutL, l_cutR, l_cutC, l_catRR, at_0, at_1, at_2, at_3, at_last, st_0, st_1, st_2, Option.isSome_some, List.map_cons, List.map_nil, List.length_cons, List.length_nil, List.cons_append, List.nil_append, List.getElem?_cons_zero, List.getElem?_cons_succ, List.set_cons_zero, List.set_cons_succ, List.replicate_succ, List.replicate_zero, List.zip_cons_cons, List.zip_nil_left, List.zip_nil_right, List.foldl_cons, List.foldl_nil, Nat.reduceAdd, Nat.reduceSub, Nat.zero_add, if_true, if_false, Bool.false_eq_true, reduceIte, reduceCtorEq, decide_true, decide_false, decide_eq_true_eq, Bool.not_eq_eq_eq_not, Bool.not_true, Bool.not_false, decide_eq_false_iff_not, ite_not, Bool.true_and, Bool.and_true, Bool.false_and, Bool.and_false, Option.bind_some, Option.map_some, and_self, true_and, and_true, line_pos0, line_pos1, line_pos2, line_pos3, Int.reduceEq, Int.reduceLT, Int.reduceLE, Int.reduceAdd, Int.reduceSub, Int.reduceMul, Int.reduceNeg, Int.reduceToNat, Int.reduceNe, Int.reducePow, Nat.reduceLeDiff, Nat.reduceLT, Nat.reduceEqDiff, k1, k2, k3, gk2, f_isNB, f_isB, eq_self, hm1]
      exact hW1
theorem right_ok (n : Nat) {S : Sto} {w : Nat} (h : Well S w) : Ho (cal g (n + 7) 36 [.ref w] S) (OkP fun d _ => d = .bl true) := by
  have h62 : i62 3 = true := by decide
  rw [c_law_right]; refine ho_run ?_; unfold x_law_right; simp -implicitDefEqProofs only [f_bind, f_noX, f_sSeq, f_eS, f_sIf, f_sRet, a_sRetN, f_sSet, f_sPar, f_sAsg, f_sEx, a_sNil, f_sFor, f_sFldP, f_x2, f_x2F, f_x1, f_xIf, f_xAn, f_xOo, f_xNo, f_xTru, f_xBl, f_tNo, f_tAn, f_tOo, f_xCons, f_xNil, f_xTup, f_xMk, f_xP, f_xCall, f_xCallK, f_x3, f_ch3, f_var, f_gv, f_xC, f_xComp, f_itSeq, f_itEnum, f_itR1, f_itR2, f_toInt, f_xBM, f_xCut, f_xPart, f_xNoP, f_xFld, f_prC, f_xProp, f_gNm, f_gTp, f_gCn, f_gNl, f_gSb, f_xNew, bd_ok, bd_bad, bd_exc, es_ok, es_exc, st_ok, nex_ok, sq_nx, sq_rt, sq_bk, sq_ct, sq_exc, bd_bd, es_bd, st_bd, sq_es, sq_st, sq_sq, a_ev1, a_ev2, f_truB, f_truI, f_toBl, f_add, f_sub, f_mul, f_div, f_mod, f_pow, f_neg, f_lt, f_le, f_gt, f_ge, f_int, f_abs, f_lenT, f_lenL, f_tupT, f_divmod, f_catT, f_catL, f_eqI, f_eqS, f_neS, f_isN, f_isNN, f_ixT, f_ixL, f_ofS, f_seqT, f_seqL, f_seqC, f_enT, f_enL, f_isS, f_lenC, f_sumT, f_sumL, f_sumF, f_allF, f_anyF, f_min, f_max, ho_rt, ho_nx, ho_exc, ho_ok, lp_nx, lp_ct, lp_bk, lp_rt, lp_exc, wipeE, a_pure, a_stuck, f_mkF, f_mkT, l_L, l_C, l_F, l_ap, l_pf, l_mk, l_seqOf, l_seqOfT, l_seqOfL, l_ix, l_seqIt, l_en, l_tup, l_isL, l_app, l_set, l_fld, l_insC, l_putF, l_lst, l_cutT, l_cutL, l_cutR, l_cutC, l_catRR, at_0, at_1, at_2, at_3, at_last, st_0, st_1, st_2, Option.isSome_some, List.map_cons, List.map_nil, List.length_cons, List.length_nil, List.cons_append, List.nil_append, List.getElem?_cons_zero, List.getElem?_cons_succ, List.set_cons_zero, List.set_cons_succ, List.replicate_succ, List.replicate_zero, List.zip_cons_cons, List.zip_nil_left, List.zip_nil_right, List.foldl_cons, List.foldl_nil, Nat.reduceAdd, Nat.reduceSub, Nat.zero_add, if_true, if_false, Bool.false_eq_true, reduceIte, reduceCtorEq, decide_true, decide_false, decide_eq_true_eq, Bool.not_eq_eq_eq_not, Bool.not_true, Bool.not_false, decide_eq_false_iff_not, ite_not, Bool.true_and, Bool.and_true, Bool.false_and, Bool.and_false, Option.bind_some, Option.map_some, and_self, true_and, and_true, line_pos0, line_pos1, line_pos2, line_pos3, Int.reduceEq, Int.reduceLT, Int.reduceLE, Int.reduceAdd, Int.reduceSub, Int.reduceMul, Int.reduceNeg, Int.reduceToNat, Int.reduceNe, Int.reducePow, Nat.reduceLeDiff, Nat.reduceLT, Nat.reduceEqDiff]
  try simp -implicitDefEqProofs only [f_bind, f_noX, f_sSeq, f_eS, f_sIf, f_sRet, a_sRetN, f_sSet, f_sPar, f_sAsg, f_sEx, a_sNil, f_sFor, f_sFldP, f_x2, f_x2F, f_x1, f_xIf, f_xAn, f_xOo, f_xNo, f_xTru, f_xBl, f_tNo, f_tAn, f_tOo, f_xCons, f_xNil, f_xTup, f_xMk, f_xP, f_xCall, f_xCallK, f_x3, f_ch3, f_var, f_gv, f_xC, f_xComp, f_itSeq, f_itEnum, f_itR1, f_itR2, f_toInt, f_xBM, f_xCut, f_xPart, f_xNoP, f_xFld, f_prC, f_xProp, f_gNm, f_gTp, f_gCn, f_gNl, f_gSb, f_xNew, bd_ok, bd_bad, bd_exc, es_ok, es_exc, st_ok, nex_ok, sq_nx, sq_rt, sq_bk, sq_ct, sq_exc, bd_bd, es_bd, st_bd, sq_es, sq_st, sq_sq, a_ev1, a_ev2, f_truB, f_truI, f_toBl, f_add, f_sub, f_mul, f_div, f_mod, f_pow, f_neg, f_lt, f_le, f_gt, f_ge, f_int, f_abs, f_lenT, f_lenL, f_tupT, f_divmod, f_catT, f_catL, f_eqI, f_eqS, f_neS, f_isN, f_isNN, f_ixT, f_ixL, f_ofS, f_seqT, f_seqL, f_seqC, f_enT, f_enL, f_isS, f_lenC, f_sumT, f_sumL, f_sumF, f_allF, f_anyF, f_min, f_max, ho_rt, ho_nx, ho_exc, ho_ok, lp_nx, lp_ct, lp_bk, lp_rt, lp_exc, wipeE, a_pure, a_stuck, f_mkF, f_mkT, l_L, l_C, l_F, l_ap, l_pf, l_mk, l_seqOf, l_seqOfT, l_seqOfL, l_ix, l_seqIt, l_en, l_tup, l_isL, l_app, l_set, l_fld, l_insC, l_putF, l_lst, l_cutT, l_cutL, l_cutR, l_cutC, l_catRR, at_0, at_1, at_2, at_3, at_last, st_0, st_1, st_2, Option.isSome_some, List.map_cons, List.map_nil, List.length_cons, List.length_nil, List.cons_append, List.nil_append, List.getElem?_cons_zero, List.getElem?_cons_succ, List.set_cons_zero, List.set_cons_succ, List.replicate_succ, List.replicate_zero, List.zip_cons_cons, List.zip_nil_left, List.zip_nil_right, List.foldl_cons, List.foldl_nil, Nat.reduceAdd, Nat.reduceSub, Nat.zero_add, if_true, if_false, Bool.false_eq_true, reduceIte, reduceCtorEq, decide_true, decide_false, decide_eq_true_eq, Bool.not_eq_eq_eq_not, Bool.not_true, Bool.not_false, decide_eq_false_iff_not, ite_not, Bool.true_and, Bool.and_true, Bool.false_and, Bool.and_false, Option.bind_some, Option.map_some, and_self, true_and, and_true, line_pos0, line_pos1, line_pos2, line_pos3, Int.reduceEq, Int.reduceLT, Int.reduceLE, Int.reduceAdd, Int.reduceSub, Int.reduceMul, Int.reduceNeg, Int.reduceToNat, Int.reduceNe, Int.reducePow, Nat.reduceLeDiff, Nat.reduceLT, Nat.reduceEqDiff, h62]
  refine for_rng (fun i e S' => (∃ y1 y2 y3 y4 y5 : Option D, e = [some (.ref w), y1, y2, y3, y4, y5]) ∧ Well S' w) ⟨⟨none, none, none, none, none, rfl⟩, h⟩ ?_ ?_
  · rintro i e S1 hi ⟨⟨y1, y2, y3, y4, y5, rfl⟩, hW1⟩
    try simp -implicitDefEqProofs only [f_bind, f_noX, f_sSeq, f_eS, f_sIf, f_sRet, a_sRetN, f_sSet, f_sPar, f_sAsg, f_sEx, a_sNil, f_sFor, f_sFldP, f_x2, f_x2F, f_x1, f_xIf, f_xAn, f_xOo, f_xNo, f_xTru, f_xBl, f_tNo, f_tAn, f_tOo, f_xCons, f_xNil, f_xTup, f_xMk, f_xP, f_xCall, f_xCallK, f_x3, f_ch3, f_var, f_gv, f_xC, f_xComp, f_itSeq, f_itEnum, f_itR1, f_itR2, f_toInt, f_xBM, f_xCut, f_xPart, f_xNoP, f_xFld, f_prC, f_xProp, f_gNm, f_gTp, f_gCn, f_gNl, f_gSb, f_xNew, bd_ok, bd_bad, bd_exc, es_ok, es_exc, st_ok, nex_ok, sq_nx, sq_rt, sq_bk, sq_ct, sq_exc, bd_bd, es_bd, st_bd, sq_es, sq_st, sq_sq, a_ev1, a_ev2, f_truB, f_truI, f_toBl, f_add, f_sub, f_mul, f_div, f_mod, f_pow, f_neg, f_lt, f_le, f_gt, f_ge, f_int, f_abs, f_lenT, f_lenL, f_tupT, f_divmod, f_catT, f_catL, f_eqI, f_eqS, f_neS, f_isN, f_isNN, f_ixT, f_ixL, f_ofS, f_seqT, f_seqL, f_seqC, f_enT, f_enL, f_isS, f_lenC, f_sumT, f_sumL, f_sumF, f_allF, f_anyF, f_min, f_max, ho_rt, ho_nx, ho_exc, ho_ok, lp_nx, lp_ct, lp_bk, lp_rt, lp_exc, wipeE, a_pure, a_stuck, f_mkF, f_mkT, l_L, l_C, l_F, l_ap, l_pf, l_mk, l_seqOf, l_seqOfT, l_seqOfL, l_ix, l_seqIt, l_en, l_tup, l_isL, l_app, l_set, l_fld, l_insC, l_putF, l_lst, l_cutT, l_cutL, l_cutR, l_cutC, l_catRR, at_0, at_1, at_2, at_3, at_last, st_0, st_1, st_2, Option.isSome_some, List.map_cons, List.map_nil, List.length_cons, List.length_nil, List.cons_append, List.nil_append, List.getElem?_cons_zero, List.getElem?_cons_succ, List.set_cons_zero, List.set_cons_succ, List.replicate_succ, List.replicate_zero, List.zip_cons_cons, List.zip_nil_left, List.zip_nil_right, List.foldl_cons, List.foldl_nil, Nat.reduceAdd, Nat.reduceSub, Nat.zero_add, if_true, if_false, Bool.false_eq_true, reduceIte, reduceCtorEq, decide_true, decide_false, decide_eq_true_eq, Bool.not_eq_eq_eq_not, Bool.not_true, Bool.not_false, decide_eq_false_iff_not, ite_not, Bool.true_and, Bool.and_true, Bool.false_and, Bool.and_false, Option.bind_some, Option.map_some, and_self, true_and, and_true, line_pos0, line_pos1, line_pos2, line_pos3, Int.reduceEq, Int.reduceLT, Int.reduceLE, Int.reduceAdd, Int.reduceSub, Int.reduceMul, Int.reduceNeg, Int.reduceToNat, Int.reduceNe, Int.reducePow, Nat.reduceLeDiff, Nat.reduceLT, Nat.reduceEqDiff]
    refine es_of (draw_ok (n + 5) hW1 (by omega) (by omega)) ?_
    rintro _ S2 ⟨r, rfl, r0, r1, hW2, -⟩
    obtain ⟨u, pl, c, hu, c0, c5, hpick, hp5, hpl⟩ : ∃ u pl c : Int, PU pl u ∧ 0 < c ∧ c ≤ 5 ∧ (∀ (e : Dn.Env) (S : Sto) (K : D → Sto → RS), (if r = 0 then Res.ok (D.int 1000) S else Res.ok (D.int 100) S).es e K = K (D.int u) S) ∧
        (∀ (e : Dn.Env) (S : Sto) (K : D → Sto → RS), (if u = 100 then Res.ok (D.int 5) S else Res.ok (D.int 2) S).es e K = K (D.int c) S) ∧ (∀ (e : Dn.Env) (S : Sto) (K : D → Sto → RS), (if u = 1000 then Res.ok (D.int 1) S else Res.ok (D.int 0) S).es e K = K (D.int pl) S) := by
      by_cases q : r = 0
      · exact ⟨1000, 1, 2, .inr ⟨rfl, rfl⟩, by decide, by decide, fun e S K => by rw [if_pos q]; rfl, fun e S K => rfl, fun e S K => rfl⟩
      · exact ⟨100, 0, 5, .inl ⟨rfl, rfl⟩, by decide, by decide, fun e S K => by rw [if_neg q]; rfl, fun e S K => rfl, fun e S K => rfl⟩
    try simp -implicitDefEqProofs only [f_bind, f_noX, f_sSeq, f_eS, f_sIf, f_sRet, a_sRetN, f_sSet, f_sPar, f_sAsg, f_sEx, a_sNil, f_sFor, f_sFldP, f_x2, f_x2F, f_x1, f_xIf, f_xAn, f_xOo, f_xNo, f_xTru, f_xBl, f_tNo, f_tAn, f_tOo, f_xCons, f_xNil, f_xTup, f_xMk, f_xP, f_xCall, f_xCallK, f_x3, f_ch3, f_var, f_gv, f_xC, f_xComp, f_itSeq, f_itEnum, f_itR1, f_itR2, f_toInt, f_xBM, f_xCut, f_xPart, f_xNoP, f_xFld, f_prC, f_xProp, f_gNm, f_gTp, f_gCn, f_gNl, f_gSb, f_xNew, bd_ok, bd_bad, bd_exc, es_ok, es_exc, st_ok, nex_ok, sq_nx, sq_rt, sq_bk, sq_ct, sq_exc, bd_bd, es_bd, st_bd, sq_es, sq_st, sq_sq, a_ev1, a_ev2, f_truB, f_truI, f_toBl, f_add, f_sub, f_mul, f_div, f_mod, f_pow, f_neg, f_lt, f_le, f_gt, f_ge, f_int, f_abs, f_lenT, f_lenL, f_tupT, f_divmod, f_catT, f_catL, f_eqI, f_eqS, f_neS, f_isN, f_isNN, f_ixT, f_ixL, f_ofS, f_seqT, f_seqL, f_seqC, f_enT, f_enL, f_isS, f_lenC, f_sumT, f_sumL, f_sumF, f_allF, f_anyF, f_min, f_max, ho_rt, ho_nx, ho_exc, ho_ok, lp_nx, lp_ct, lp_bk, lp_rt, lp_exc, wipeE, a_pure, a_stuck, f_mkF, f_mkT, l_L, l_C, l_F, l_ap, l_pf, l_mk, l_seqOf, l_seqOfT, l_seqOfL, l_ix, l_seqIt, l_en, l_tup, l_isL, l_app, l_set, l_fld, l_insC, l_putF, l_lst, l_cutT, l_cutL, l_cutR, l_cutC, l_catRR, at_0, at_1, at_2, at_3, at_last, st_0, st_1, st_2, Option.isSome_some, List.map_cons, List.map_nil, List.length_cons, List.length_nil, List.cons_append, List.nil_append, List.getElem?_cons_zero, List.getElem?_cons_succ, List.set_cons_zero, List.set_cons_succ, List.replicate_succ, List.replicate_zero, List.zip_cons_cons, List.zip_nil_left, List.zip_nil_right, List.foldl_cons, List.foldl_nil, Nat.reduceAdd, Nat.reduceSub, Nat.zero_add, if_true, if_false, Bool.false_eq_true, reduceIte, reduceCtorEq, decide_true, decide_false, decide_eq_true_eq, Bool.not_eq_eq_eq_not, Bool.not_true, Bool.not_false, decide_eq_false_iff_not, ite_not, Bool.true_and, Bool.and_true, Bool.false_and, Bool.and_false, Option.bind_some, Option.map_some, and_self, true_and, and_true, line_pos0, line_pos1, line_pos2, line_pos3, Int.reduceEq, Int.reduceLT, Int.reduceLE, Int.reduceAdd, Int.reduceSub, Int.reduceMul, Int.reduceNeg, Int.reduceToNat, Int.reduceNe, Int.reducePow, Nat.reduceLeDiff, Nat.reduceLT, Nat.reduceEqDiff, hpick, hp5]
    refine es_of (draw_ok (n + 5) hW2 c0 (by omega)) ?_
    rintro _ S3 ⟨m, rfl, m0, m1, hW3, -⟩
    obtain ⟨k, hk⟩ : ∃ k : Nat, 2 + m = (k : Int) := ⟨(2 + m).toNat, by omega⟩
    try simp -implicitDefEqProofs only [f_bind, f_noX, f_sSeq, f_eS, f_sIf, f_sRet, a_sRetN, f_sSet, f_sPar, f_sAsg, f_sEx, a_sNil, f_sFor, f_sFldP, f_x2, f_x2F, f_x1, f_xIf, f_xAn, f_xOo, f_xNo, f_xTru, f_xBl, f_tNo, f_tAn, f_tOo, f_xCons, f_xNil, f_xTup, f_xMk, f_xP, f_xCall, f_xCallK, f_x3, f_ch3, f_var, f_gv, f_xC, f_xComp, f_itSeq, f_itEnum, f_itR1, f_itR2, f_toInt, f_xBM, f_xCut, f_xPart, f_xNoP, f_xFld, f_prC, f_xProp, f_gNm, f_gTp, f_gCn, f_gNl, f_gSb, f_xNew, bd_ok, bd_bad, bd_exc, es_ok, es_exc, st_ok, nex_ok, sq_nx, sq_rt, sq_bk, sq_ct, sq_exc, bd_bd, es_bd, st_bd, sq_es, sq_st, sq_sq, a_ev1, a_ev2, f_truB, f_truI, f_toBl, f_add, f_sub, f_mul, f_div, f_mod, f_pow, f_neg, f_lt, f_le, f_gt, f_ge, f_int, f_abs, f_lenT, f_lenL, f_tupT, f_divmod, f_catT, f_catL, f_eqI, f_eqS, f_neS, f_isN, f_isNN, f_ixT, f_ixL, f_ofS, f_seqT, f_seqL, f_seqC, f_enT, f_enL, f_isS, f_lenC, f_sumT, f_sumL, f_sumF, f_allF, f_anyF, f_min, f_max, ho_rt, ho_nx, ho_exc, ho_ok, lp_nx, lp_ct, lp_bk, lp_rt, lp_exc, wipeE, a_pure, a_stuck, f_mkF, f_mkT, l_L, l_C, l_F, l_ap, l_pf, l_mk, l_seqOf, l_seqOfT, l_seqOfL, l_ix, l_seqIt, l_en, l_tup, l_isL, l_app, l_set, l_fld, l_insC, l_putF, l_lst, l_cutT, l_cutL, l_cutR, l_cutC, l_catRR, at_0, at_1, at_2, at_3, at_last, st_0, st_1, st_2, Option.isSome_some, List.map_cons, List.map_nil, List.length_cons, List.length_nil, List.cons_append, List.nil_append, List.getElem?_cons_zero, List.getElem?_cons_succ, List.set_cons_zero, List.set_cons_succ, List.replicate_succ, List.replicate_zero, List.zip_cons_cons, List.zip_nil_left, List.zip_nil_right, List.foldl_cons, List.foldl_nil, Nat.reduceAdd, Nat.reduceSub, Nat.zero_add, if_true, if_false, Bool.false_eq_true, reduceIte, reduceCtorEq, decide_true, decide_false, decide_eq_true_eq, Bool.not_eq_eq_eq_not, Bool.not_true, Bool.not_false, decide_eq_false_iff_not, ite_not, Bool.true_and, Bool.and_true, Bool.false_and, Bool.and_false, Option.bind_some, Option.map_some, and_self, true_and, and_true, line_pos0, line_pos1, line_pos2, line_pos3, Int.reduceEq, Int.reduceLT, Int.reduceLE, Int.reduceAdd, Int.reduceSub, Int.reduceMul, Int.reduceNeg, Int.reduceToNat, Int.reduceNe, Int.reducePow, Nat.reduceLeDiff, Nat.reduceLT, Nat.reduceEqDiff, hk]
    refine es_of (law_shares_ok (n + 3) hW3 hu.u (k := k) (by omega)) ?_
    rintro _ S4 ⟨⟨ss, rfl, hl1, hl2, hss⟩, hW4, -⟩
    have hnew := init_ok (n + 2) pl u ss hu hss ⟨hl1, hl2⟩ S4
    have h1 : IsP (S4 ++ [.ins "Poll" (pollF pl ss)]) S4.length pl ss := get_last _ _
    have hW5 := hW4.app [.ins "Poll" (pollF pl ss)]
    have hne : S4.length ≠ w := Nat.ne_of_gt hW4.lt
    try simp -implicitDefEqProofs only [f_bind, f_noX, f_sSeq, f_eS, f_sIf, f_sRet, a_sRetN, f_sSet, f_sPar, f_sAsg, f_sEx, a_sNil, f_sFor, f_sFldP, f_x2, f_x2F, f_x1, f_xIf, f_xAn, f_xOo, f_xNo, f_xTru, f_xBl, f_tNo, f_tAn, f_tOo, f_xCons, f_xNil, f_xTup, f_xMk, f_xP, f_xCall, f_xCallK, f_x3, f_ch3, f_var, f_gv, f_xC, f_xComp, f_itSeq, f_itEnum, f_itR1, f_itR2, f_toInt, f_xBM, f_xCut, f_xPart, f_xNoP, f_xFld, f_prC, f_xProp, f_gNm, f_gTp, f_gCn, f_gNl, f_gSb, f_xNew, bd_ok, bd_bad, bd_exc, es_ok, es_exc, st_ok, nex_ok, sq_nx, sq_rt, sq_bk, sq_ct, sq_exc, bd_bd, es_bd, st_bd, sq_es, sq_st, sq_sq, a_ev1, a_ev2, f_truB, f_truI, f_toBl, f_add, f_sub, f_mul, f_div, f_mod, f_pow, f_neg, f_lt, f_le, f_gt, f_ge, f_int, f_abs, f_lenT, f_lenL, f_tupT, f_divmod, f_catT, f_catL, f_eqI, f_eqS, f_neS, f_isN, f_isNN, f_ixT, f_ixL, f_ofS, f_seqT, f_seqL, f_seqC, f_enT, f_enL, f_isS, f_lenC, f_sumT, f_sumL, f_sumF, f_allF, f_anyF, f_min, f_max, ho_rt, ho_nx, ho_exc, ho_ok, lp_nx, lp_ct, lp_bk, lp_rt, lp_exc, wipeE, a_pure, a_stuck, f_mkF, f_mkT, l_L, l_C, l_F, l_ap, l_pf, l_mk, l_seqOf, l_seqOfT, l_seqOfL, l_ix, l_seqIt, l_en, l_tup, l_isL, l_app, l_set, l_fld, l_insC, l_putF, l_lst, l_cutT, l_cutL, l_cutR, l_cutC, l_catRR, at_0, at_1, at_2, at_3, at_last, st_0, st_1, st_2, Option.isSome_some, List.map_cons, List.map_nil, List.length_cons, List.length_nil, List.cons_append, List.nil_append, List.getElem?_cons_zero, List.getElem?_cons_succ, List.set_cons_zero, List.set_cons_succ, List.replicate_succ, List.replicate_zero, List.zip_cons_cons, List.zip_nil_left, List.zip_nil_right, List.foldl_cons, List.foldl_nil, Nat.reduceAdd, Nat.reduceSub, Nat.zero_add, if_true, if_false, Bool.false_eq_true, reduceIte, reduceCtorEq, decide_true, decide_false, decide_eq_true_eq, Bool.not_eq_eq_eq_not, Bool.not_true, Bool.not_false, decide_eq_false_iff_not, ite_not, Bool.true_and, Bool.and_true, Bool.false_and, Bool.and_false, Option.bind_some, Option.map_some, and_self, true_and, and_true, line_pos0, line_pos1, line_pos2, line_pos3, Int.reduceEq, Int.reduceLT, Int.reduceLE, Int.reduceAdd, Int.reduceSub, Int.reduceMul, Int.reduceNeg, Int.reduceToNat, Int.reduceNe, Int.reducePow, Nat.reduceLeDiff, Nat.reduceLT, Nat.reduceEqDiff, hpl, hnew]
    refine es_of (numbers_ok n hW5 hne hu h1 hss hl2) ?_
    rintro _ S6 ⟨rfl, hW6, hF6⟩
    try simp -implicitDefEqProofs only [f_bind, f_noX, f_sSeq, f_eS, f_sIf, f_sRet, a_sRetN, f_sSet, f_sPar, f_sAsg, f_sEx, a_sNil, f_sFor, f_sFldP, f_x2, f_x2F, f_x1, f_xIf, f_xAn, f_xOo, f_xNo, f_xTru, f_xBl, f_tNo, f_tAn, f_tOo, f_xCons, f_xNil, f_xTup, f_xMk, f_xP, f_xCall, f_xCallK, f_x3, f_ch3, f_var, f_gv, f_xC, f_xComp, f_itSeq, f_itEnum, f_itR1, f_itR2, f_toInt, f_xBM, f_xCut, f_xPart, f_xNoP, f_xFld, f_prC, f_xProp, f_gNm, f_gTp, f_gCn, f_gNl, f_gSb, f_xNew, bd_ok, bd_bad, bd_exc, es_ok, es_exc, st_ok, nex_ok, sq_nx, sq_rt, sq_bk, sq_ct, sq_exc, bd_bd, es_bd, st_bd, sq_es, sq_st, sq_sq, a_ev1, a_ev2, f_truB, f_truI, f_toBl, f_add, f_sub, f_mul, f_div, f_mod, f_pow, f_neg, f_lt, f_le, f_gt, f_ge, f_int, f_abs, f_lenT, f_lenL, f_tupT, f_divmod, f_catT, f_catL, f_eqI, f_eqS, f_neS, f_isN, f_isNN, f_ixT, f_ixL, f_ofS, f_seqT, f_seqL, f_seqC, f_enT, f_enL, f_isS, f_lenC, f_sumT, f_sumL, f_sumF, f_allF, f_anyF, f_min, f_max, ho_rt, ho_nx, ho_exc, ho_ok, lp_nx, lp_ct, lp_bk, lp_rt, lp_exc, wipeE, a_pure, a_stuck, f_mkF, f_mkT, l_L, l_C, l_F, l_ap, l_pf, l_mk, l_seqOf, l_seqOfT, l_seqOfL, l_ix, l_seqIt, l_en, l_tup, l_isL, l_app, l_set, l_fld, l_insC, l_putF, l_lst, l_cutT, l_cutL, l_cutR, l_cutC, l_catRR, at_0, at_1, at_2, at_3, at_last, st_0, st_1, st_2, Option.isSome_some, List.map_cons, List.map_nil, List.length_cons, List.length_nil, List.cons_append, List.nil_append, List.getElem?_cons_zero, List.getElem?_cons_succ, List.set_cons_zero, List.set_cons_succ, List.replicate_succ, List.replicate_zero, List.zip_cons_cons, List.zip_nil_left, List.zip_nil_right, List.foldl_cons, List.foldl_nil, Nat.reduceAdd, Nat.reduceSub, Nat.zero_add, if_true, if_false, Bool.false_eq_true, reduceIte, reduceCtorEq, decide_true, decide_false, decide_eq_true_eq, Bool.not_eq_eq_eq_not, Bool.not_true, Bool.not_false, decide_eq_false_iff_not, ite_not, Bool.true_and, Bool.and_true, Bool.false_and, Bool.and_false, Option.bind_some, Option.map_some, and_self, true_and, and_true, line_pos0, line_pos1, line_pos2, line_pos3, Int.reduceEq, Int.reduceLT, Int.reduceLE, Int.reduceAdd, Int.reduceSub, Int.reduceMul, Int.reduceNeg, Int.reduceToNat, Int.reduceNe, Int.reducePow, Nat.reduceLeDiff, Nat.reduceLT, Nat.reduceEqDiff]
    refine es_of (ends_right_ok n hW6 hne hu (h1.fr hF6 hne) hss ⟨hl1, hl2⟩) ?_
    rintro _ S7 ⟨rfl, hW7⟩
    try simp -implicitDefEqProofs only [f_bind, f_noX, f_sSeq, f_eS, f_sIf, f_sRet, a_sRetN, f_sSet, f_sPar, f_sAsg, f_sEx, a_sNil, f_sFor, f_sFldP, f_x2, f_x2F, f_x1, f_xIf, f_xAn, f_xOo, f_xNo, f_xTru, f_xBl, f_tNo, f_tAn, f_tOo, f_xCons, f_xNil, f_xTup, f_xMk, f_xP, f_xCall, f_xCallK, f_x3, f_ch3, f_var, f_gv, f_xC, f_xComp, f_itSeq, f_itEnum, f_itR1, f_itR2, f_toInt, f_xBM, f_xCut, f_xPart, f_xNoP, f_xFld, f_prC, f_xProp, f_gNm, f_gTp, f_gCn, f_gNl, f_gSb, f_xNew, bd_ok, bd_bad, bd_exc, es_ok, es_exc, st_ok, nex_ok, sq_nx, sq_rt, sq_bk, sq_ct, sq_exc, bd_bd, es_bd, st_bd, sq_es, sq_st, sq_sq, a_ev1, a_ev2, f_truB, f_truI, f_toBl, f_add, f_sub, f_mul, f_div, f_mod, f_pow, f_neg, f_lt, f_le, f_gt, f_ge, f_int, f_abs, f_lenT, f_lenL, f_tupT, f_divmod, f_catT, f_catL, f_eqI, f_eqS, f_neS, f_isN, f_isNN, f_ixT, f_ixL, f_ofS, f_seqT, f_seqL, f_seqC, f_enT, f_enL, f_isS, f_lenC, f_sumT, f_sumL, f_sumF, f_allF, f_anyF, f_min, f_max, ho_rt, ho_nx, ho_exc, ho_ok, lp_nx, lp_ct, lp_bk, lp_rt, lp_exc, wipeE, a_pure, a_stuck, f_mkF, f_mkT, l_L, l_C, l_F, l_ap, l_pf, l_mk, l_seqOf, l_seqOfT, l_seqOfL, l_ix, l_seqIt, l_en, l_tup, l_isL, l_app, l_set, l_fld, l_insC, l_putF, l_lst, l_cutT, l_cutL, l_cutR, l_cutC, l_catRR, at_0, at_1, at_2, at_3, at_last, st_0, st_1, st_2, Option.isSome_some, List.map_cons, List.map_nil, List.length_cons, List.length_nil, List.cons_append, List.nil_append, List.getElem?_cons_zero, List.getElem?_cons_succ, List.set_cons_zero, List.set_cons_succ, List.replicate_succ, List.replicate_zero, List.zip_cons_cons, List.zip_nil_left, List.zip_nil_right, List.foldl_cons, List.foldl_nil, Nat.reduceAdd, Nat.reduceSub, Nat.zero_add, if_true, if_false, Bool.false_eq_true, reduceIte, reduceCtorEq, decide_true, decide_false, decide_eq_true_eq, Bool.not_eq_eq_eq_not, Bool.not_true, Bool.not_false, decide_eq_false_iff_not, ite_not, Bool.true_and, Bool.and_true, Bool.false_and, Bool.and_false, Option.bind_some, Option.map_some, and_self, true_and, and_true, line_pos0, line_pos1, line_pos2, line_pos3, Int.reduceEq, Int.reduceLT, Int.reduceLE, Int.reduceAdd, Int.reduceSub, Int.reduceMul, Int.reduceNeg, Int.reduceToNat, Int.reduceNe, Int.reducePow, Nat.reduceLeDiff, Nat.reduceLT, Nat.reduceEqDiff]
    exact ⟨⟨_, _, _, _, _, rfl⟩, hW7⟩
  · rintro e S1 ⟨⟨y1, y2, y3, y4, y5, rfl⟩, hW1⟩
    try simp -implicitDefEqProofs only [f_bind, f_noX, f_sSeq, f_eS, f_sIf, f_sRet, a_sRetN, f_sSet, f_sPar, f_sAsg, f_sEx, a_sNil, f_sFor, f_sFldP, f_x2, f_x2F, f_x1, f_xIf, f_xAn, f_xOo, f_xNo, f_xTru, f_xBl, f_tNo, f_tAn, f_tOo, f_xCons, f_xNil, f_xTup, f_xMk, f_xP, f_xCall, f_xCallK, f_x3, f_ch3, f_var, f_gv, f_xC, f_xComp, f_itSeq, f_itEnum, f_itR1, f_itR2, f_toInt, f_xBM, f_xCut, f_xPart, f_xNoP, f_xFld, f_prC, f_xProp, f_gNm, f_gTp, f_gCn, f_gNl, f_gSb, f_xNew, bd_ok, bd_bad, bd_exc, es_ok, es_exc, st_ok, nex_ok, sq_nx, sq_rt, sq_bk, sq_ct, sq_exc, bd_bd, es_bd, st_bd, sq_es, sq_st, sq_sq, a_ev1, a_ev2, f_truB, f_truI, f_toBl, f_add, f_sub, f_mul, f_div, f_mod, f_pow, f_neg, f_lt, f_le, f_gt, f_ge, f_int, f_abs, f_lenT, f_lenL, f_tupT, f_divmod, f_catT, f_catL, f_eqI, f_eqS, f_neS, f_isN, f_isNN, f_ixT, f_ixL, f_ofS, f_seqT, f_seqL, f_seqC, f_enT, f_enL, f_isS, f_lenC, f_sumT, f_sumL, f_sumF, f_allF, f_anyF, f_min, f_max, ho_rt, ho_nx, ho_exc, ho_ok, lp_nx, lp_ct, lp_bk, lp_rt, lp_exc, wipeE, a_pure, a_stuck, f_mkF, f_mkT, l_L, l_C, l_F, l_ap, l_pf, l_mk, l_seqOf, l_seqOfT, l_seqOfL, l_ix, l_seqIt, l_en, l_tup, l_isL, l_app, l_set, l_fld, l_insC, l_putF, l_lst, l_cutT, l_cutL, l_cutR, l_cutC, l_catRR, at_0, at_1, at_2, at_3, at_last, st_0, st_1, st_2, Option.isSome_some, List.map_cons, List.map_nil, List.length_cons, List.length_nil, List.cons_append, List.nil_append, List.getElem?_cons_zero, List.getElem?_cons_succ, List.set_cons_zero, List.set_cons_succ, List.replicate_succ, List.replicate_zero, List.zip_cons_cons, List.zip_nil_left, List.zip_nil_right, List.foldl_cons, List.foldl_nil, Nat.reduceAdd, Nat.reduceSub, Nat.zero_add, if_true, if_false, Bool.false_eq_true, reduceIte, reduceCtorEq, decide_true, decide_false, decide_eq_true_eq, Bool.not_eq_eq_eq_not, Bool.not_true, Bool.not_false, decide_eq_false_iff_not, ite_not, Bool.true_and, Bool.and_true, Bool.false_and, Bool.and_false, Option.bind_some, Option.map_some, and_self, true_and, and_true, line_pos0, line_pos1, line_pos2, line_pos3, Int.reduceEq, Int.reduceLT, Int.reduceLE, Int.reduceAdd, Int.reduceSub, Int.reduceMul, Int.reduceNeg, Int.reduceToNat, Int.reduceNe, Int.reducePow, Nat.reduceLeDiff, Nat.reduceLT, Nat.reduceEqDiff]
theorem law_ok (n : Nat) (ns : List Int) : ∃ S, cal g (n + 8) 37 [.scr ns] [] = .ok (.bl true) S := by
  have h62 : i62 2 = true := by decide
  have key : Ho (cal g (n + 8) 37 [.scr ns] []) (OkP fun d _ => d = .bl true) := by
    rw [c_law]; refine ho_run ?_; unfold x_law; simp -implicitDefEqProofs only [f_bind, f_noX, f_sSeq, f_eS, f_sIf, f_sRet, a_sRetN, f_sSet, f_sPar, f_sAsg, f_sEx, a_sNil, f_sFor, f_sFldP, f_x2, f_x2F, f_x1, f_xIf, f_xAn, f_xOo, f_xNo, f_xTru, f_xBl, f_tNo, f_tAn, f_tOo, f_xCons, f_xNil, f_xTup, f_xMk, f_xP, f_xCall, f_xCallK, f_x3, f_ch3, f_var, f_gv, f_xC, f_xComp, f_itSeq, f_itEnum, f_itR1, f_itR2, f_toInt, f_xBM, f_xCut, f_xPart, f_xNoP, f_xFld, f_prC, f_xProp, f_gNm, f_gTp, f_gCn, f_gNl, f_gSb, f_xNew, bd_ok, bd_bad, bd_exc, es_ok, es_exc, st_ok, nex_ok, sq_nx, sq_rt, sq_bk, sq_ct, sq_exc, bd_bd, es_bd, st_bd, sq_es, sq_st, sq_sq, a_ev1, a_ev2, f_truB, f_truI, f_toBl, f_add, f_sub, f_mul, f_div, f_mod, f_pow, f_neg, f_lt, f_le, f_gt, f_ge, f_int, f_abs, f_lenT, f_lenL, f_tupT, f_divmod, f_catT, f_catL, f_eqI, f_eqS, f_neS, f_isN, f_isNN, f_ixT, f_ixL, f_ofS, f_seqT, f_seqL, f_seqC, f_enT, f_enL, f_isS, f_lenC, f_sumT, f_sumL, f_sumF, f_allF, f_anyF, f_min, f_max, ho_rt, ho_nx, ho_exc, ho_ok, lp_nx, lp_ct, lp_bk, lp_rt, lp_exc, wipeE, a_pure, a_stuck, f_mkF, f_mkT, l_L, l_C, l_F, l_ap, l_pf, l_mk, l_seqOf, l_seqOfT, l_seqOfL, l_ix, l_seqIt, l_en, l_tup, l_isL, l_app, l_set, l_fld, l_insC, l_putF, l_lst, l_cutT, l_cutL, l_cutR, l_cutC, l_catRR, at_0, at_1, at_2, at_3, at_last, st_0, st_1, st_2, Option.isSome_some, List.map_cons, List.map_nil, List.length_cons, List.length_nil, List.cons_append, List.nil_append, List.getElem?_cons_zero, List.getElem?_cons_succ, List.set_cons_zero, List.set_cons_succ, List.replicate_succ, List.replicate_zero, List.zip_cons_cons, List.zip_nil_left, List.zip_nil_right, List.foldl_cons, List.foldl_nil, Nat.reduceAdd, Nat.reduceSub, Nat.zero_add, if_true, if_false, Bool.false_eq_true, reduceIte, reduceCtorEq, decide_true, decide_false, decide_eq_true_eq, Bool.not_eq_eq_eq_not, Bool.not_true, Bool.not_false, decide_eq_false_iff_not, ite_not, Bool.true_and, Bool.and_true, Bool.false_and, Bool.and_false, Option.bind_some, Option.map_some, and_self, true_and, and_true, line_pos0, line_pos1, line_pos2, line_pos3, Int.reduceEq, Int.reduceLT, Int.reduceLE, Int.reduceAdd, Int.reduceSub, Int.reduceMul, Int.reduceNeg, Int.reduceToNat, Int.reduceNe, Int.reducePow, Nat.reduceLeDiff, Nat.reduceLT, Nat.reduceEqDiff]
    try simp -implicitDefEqProofs only [f_bind, f_noX, f_sSeq, f_eS, f_sIf, f_sRet, a_sRetN, f_sSet, f_sPar, f_sAsg, f_sEx, a_sNil, f_sFor, f_sFldP, f_x2, f_x2F, f_x1, f_xIf, f_xAn, f_xOo, f_xNo, f_xTru, f_xBl, f_tNo, f_tAn, f_tOo, f_xCons, f_xNil, f_xTup, f_xMk, f_xP, f_xCall, f_xCallK, f_x3, f_ch3, f_var, f_gv, f_xC, f_xComp, f_itSeq, f_itEnum, f_itR1, f_itR2, f_toInt, f_xBM, f_xCut, f_xPart, f_xNoP, f_xFld, f_prC, f_xProp, f_gNm, f_gTp, f_gCn, f_gNl, f_gSb, f_xNew, bd_ok, bd_bad, bd_exc, es_ok, es_exc, st_ok, nex_ok, sq_nx, sq_rt, sq_bk, sq_ct, sq_exc, bd_bd, es_bd, st_bd, sq_es, sq_st, sq_sq, a_ev1, a_ev2, f_truB, f_truI, f_toBl, f_add, f_sub, f_mul, f_div, f_mod, f_pow, f_neg, f_lt, f_le, f_gt, f_ge, f_int, f_abs, f_lenT, f_lenL, f_tupT, f_divmod, f_catT, f_catL, f_eqI, f_eqS, f_neS, f_isN, f_isNN, f_ixT, f_ixL, f_ofS, f_seqT, f_seqL, f_seqC, f_enT, f_enL, f_isS, f_lenC, f_sumT, f_sumL, f_sumF, f_allF, f_anyF, f_min, f_max, ho_rt, ho_nx, ho_exc, ho_ok, lp_nx, lp_ct, lp_bk, lp_rt, lp_exc, wipeE, a_pure, a_stuck, f_mkF, f_mkT, l_L, l_C, l_F, l_ap, l_pf, l_mk, l_seqOf, l_seqOfT, l_seqOfL, l_ix, l_seqIt, l_en, l_tup, l_isL, l_app, l_set, l_fld, l_insC, l_putF, l_lst, l_cutT, l_cutL, l_cutR, l_cutC, l_catRR, at_0, at_1, at_2, at_3, at_last, st_0, st_1, st_2, Option.isSome_some, List.map_cons, List.map_nil, List.length_cons, List.length_nil, List.cons_append, List.nil_append, List.getElem?_cons_zero, List.getElem?_cons_succ, List.set_cons_zero, List.set_cons_succ, List.replicate_succ, List.replicate_zero, List.zip_cons_cons, List.zip_nil_left, List.zip_nil_right, List.foldl_cons, List.foldl_nil, Nat.reduceAdd, Nat.reduceSub, Nat.zero_add, if_true, if_false, Bool.false_eq_true, reduceIte, reduceCtorEq, decide_true, decide_false, decide_eq_true_eq, Bool.not_eq_eq_eq_not, Bool.not_true, Bool.not_false, decide_eq_false_iff_not, ite_not, Bool.true_and, Bool.and_true, Bool.false_and, Bool.and_false, Option.bind_some, Option.map_some, and_self, true_and, and_true, line_pos0, line_pos1, line_pos2, line_pos3, Int.reduceEq, Int.reduceLT, Int.reduceLE, Int.reduceAdd, Int.reduceSub, Int.reduceMul, Int.reduceNeg, Int.reduceToNat, Int.reduceNe, Int.reducePow, Nat.reduceLeDiff, Nat.reduceLT, Nat.reduceEqDiff, h62]
    refine es_of (comp_st (List.range 2) (fun (i : Nat) => D.int (i : Int)) (fun done ys S => ys = done.map fun _ => .bl true) (rngL_0 2) (fun _ _ _ _ => rfl) (by decide) rfl ?_) ?_
    · rintro done y left ys S hd rfl
      obtain ⟨h1, h2⟩ := range_at hd
      try simp -implicitDefEqProofs only [f_bind, f_noX, f_sSeq, f_eS, f_sIf, f_sRet, a_sRetN, f_sSet, f_sPar, f_sAsg, f_sEx, a_sNil, f_sFor, f_sFldP, f_x2, f_x2F, f_x1, f_xIf, f_xAn, f_xOo, f_xNo, f_xTru, f_xBl, f_tNo, f_tAn, f_tOo, f_xCons, f_xNil, f_xTup, f_xMk, f_xP, f_xCall, f_xCallK, f_x3, f_ch3, f_var, f_gv, f_xC, f_xComp, f_itSeq, f_itEnum, f_itR1, f_itR2, f_toInt, f_xBM, f_xCut, f_xPart, f_xNoP, f_xFld, f_prC, f_xProp, f_gNm, f_gTp, f_gCn, f_gNl, f_gSb, f_xNew, bd_ok, bd_bad, bd_exc, es_ok, es_exc, st_ok, nex_ok, sq_nx, sq_rt, sq_bk, sq_ct, sq_exc, bd_bd, es_bd, st_bd, sq_es, sq_st, sq_sq, a_ev1, a_ev2, f_truB, f_truI, f_toBl, f_add, f_sub, f_mul, f_div, f_mod, f_pow, f_neg, f_lt, f_le, f_gt, f_ge, f_int, f_abs, f_lenT, f_lenL, f_tupT, f_divmod, f_catT, f_catL, f_eqI, f_eqS, f_neS, f_isN, f_isNN, f_ixT, f_ixL, f_ofS, f_seqT, f_seqL, f_seqC, f_enT, f_enL, f_isS, f_lenC, f_sumT, f_sumL, f_sumF, f_allF, f_anyF, f_min, f_max, ho_rt, ho_nx, ho_exc, ho_ok, lp_nx, lp_ct, lp_bk, lp_rt, lp_exc, wipeE, a_pure, a_stuck, f_mkF, f_mkT, l_L, l_C, l_F, l_ap, l_pf, l_mk, l_seqOf, l_seqOfT, l_seqOfL, l_ix, l_seqIt, l_en, l_tup, l_isL, l_app, l_set, l_fld, l_insC, l_putF, l_lst, l_cutT, l_cutL, l_cutR, l_cutC, l_catRR, at_0, at_1, at_2, at_3, at_last, st_0, st_1, st_2, Option.isSome_some, List.map_cons, List.map_nil, List.length_cons, List.length_nil, List.cons_append, List.nil_append, List.getElem?_cons_zero, List.getElem?_cons_succ, List.set_cons_zero, List.set_cons_succ, List.replicate_succ, List.replicate_zero, List.zip_cons_cons, List.zip_nil_left, List.zip_nil_right, List.foldl_cons, List.foldl_nil, Nat.reduceAdd, Nat.reduceSub, Nat.zero_add, if_true, if_false, Bool.false_eq_true, reduceIte, reduceCtorEq, decide_true, decide_false, decide_eq_true_eq, Bool.not_eq_eq_eq_not, Bool.not_true, Bool.not_false, decide_eq_false_iff_not, ite_not, Bool.true_and, Bool.and_true, Bool.false_and, Bool.and_false, Option.bind_some, Option.map_some, and_self, true_and, and_true, line_pos0, line_pos1, line_pos2, line_pos3, Int.reduceEq, Int.reduceLT, Int.reduceLE, Int.reduceAdd, Int.reduceSub, Int.reduceMul, Int.reduceNeg, Int.reduceToNat, Int.reduceNe, Int.reducePow, Nat.reduceLeDiff, Nat.reduceLT, Nat.reduceEqDiff]
      refine bd_of (well_ok (n + 6) ns y S h2 0) ?_
      rintro _ S1 ⟨rfl, hW, -⟩
      try simp -implicitDefEqProofs only [f_bind, f_noX, f_sSeq, f_eS, f_sIf, f_sRet, a_sRetN, f_sSet, f_sPar, f_sAsg, f_sEx, a_sNil, f_sFor, f_sFldP, f_x2, f_x2F, f_x1, f_xIf, f_xAn, f_xOo, f_xNo, f_xTru, f_xBl, f_tNo, f_tAn, f_tOo, f_xCons, f_xNil, f_xTup, f_xMk, f_xP, f_xCall, f_xCallK, f_x3, f_ch3, f_var, f_gv, f_xC, f_xComp, f_itSeq, f_itEnum, f_itR1, f_itR2, f_toInt, f_xBM, f_xCut, f_xPart, f_xNoP, f_xFld, f_prC, f_xProp, f_gNm, f_gTp, f_gCn, f_gNl, f_gSb, f_xNew, bd_ok, bd_bad, bd_exc, es_ok, es_exc, st_ok, nex_ok, sq_nx, sq_rt, sq_bk, sq_ct, sq_exc, bd_bd, es_bd, st_bd, sq_es, sq_st, sq_sq, a_ev1, a_ev2, f_truB, f_truI, f_toBl, f_add, f_sub, f_mul, f_div, f_mod, f_pow, f_neg, f_lt, f_le, f_gt, f_ge, f_int, f_abs, f_lenT, f_lenL, f_tupT, f_divmod, f_catT, f_catL, f_eqI, f_eqS, f_neS, f_isN, f_isNN, f_ixT, f_ixL, f_ofS, f_seqT, f_seqL, f_seqC, f_enT, f_enL, f_isS, f_lenC, f_sumT, f_sumL, f_sumF, f_allF, f_anyF, f_min, f_max, ho_rt, ho_nx, ho_exc, ho_ok, lp_nx, lp_ct, lp_bk, lp_rt, lp_exc, wipeE, a_pure, a_stuck, f_mkF, f_mkT, l_L, l_C, l_F, l_ap, l_pf, l_mk, l_seqOf, l_seqOfT, l_seqOfL, l_ix, l_seqIt, l_en, l_tup, l_isL, l_app, l_set, l_fld, l_insC, l_putF, l_lst, l_cutT, l_cutL, l_cutR, l_cutC, l_catRR, at_0, at_1, at_2, at_3, at_last, st_0, st_1, st_2, Option.isSome_some, List.map_cons, List.map_nil, List.length_cons, List.length_nil, List.cons_append, List.nil_append, List.getElem?_cons_zero, List.getElem?_cons_succ, List.set_cons_zero, List.set_cons_succ, List.replicate_succ, List.replicate_zero, List.zip_cons_cons, List.zip_nil_left, List.zip_nil_right, List.foldl_cons, List.foldl_nil, Nat.reduceAdd, Nat.reduceSub, Nat.zero_add, if_true, if_false, Bool.false_eq_true, reduceIte, reduceCtorEq, decide_true, decide_false, decide_eq_true_eq, Bool.not_eq_eq_eq_not, Bool.not_true, Bool.not_false, decide_eq_false_iff_not, ite_not, Bool.true_and, Bool.and_true, Bool.false_and, Bool.and_false, Option.bind_some, Option.map_some, and_self, true_and, and_true, line_pos0, line_pos1, line_pos2, line_pos3, Int.reduceEq, Int.reduceLT, Int.reduceLE, Int.reduceAdd, Int.reduceSub, Int.reduceMul, Int.reduceNeg, Int.reduceToNat, Int.reduceNe, Int.reducePow, Nat.reduceLeDiff, Nat.reduceLT, Nat.reduceEqDiff]
      refine ok_imp (right_ok n hW) ?_
      rintro _ S2 rfl
      rw [List.map_append]
      rfl
    · rintro ys S1 ⟨rfl, -, hl⟩
      try simp -implicitDefEqProofs only [f_bind, f_noX, f_sSeq, f_eS, f_sIf, f_sRet, a_sRetN, f_sSet, f_sPar, f_sAsg, f_sEx, a_sNil, f_sFor, f_sFldP, f_x2, f_x2F, f_x1, f_xIf, f_xAn, f_xOo, f_xNo, f_xTru, f_xBl, f_tNo, f_tAn, f_tOo, f_xCons, f_xNil, f_xTup, f_xMk, f_xP, f_xCall, f_xCallK, f_x3, f_ch3, f_var, f_gv, f_xC, f_xComp, f_itSeq, f_itEnum, f_itR1, f_itR2, f_toInt, f_xBM, f_xCut, f_xPart, f_xNoP, f_xFld, f_prC, f_xProp, f_gNm, f_gTp, f_gCn, f_gNl, f_gSb, f_xNew, bd_ok, bd_bad, bd_exc, es_ok, es_exc, st_ok, nex_ok, sq_nx, sq_rt, sq_bk, sq_ct, sq_exc, bd_bd, es_bd, st_bd, sq_es, sq_st, sq_sq, a_ev1, a_ev2, f_truB, f_truI, f_toBl, f_add, f_sub, f_mul, f_div, f_mod, f_pow, f_neg, f_lt, f_le, f_gt, f_ge, f_int, f_abs, f_lenT, f_lenL, f_tupT, f_divmod, f_catT, f_catL, f_eqI, f_eqS, f_neS, f_isN, f_isNN, f_ixT, f_ixL, f_ofS, f_seqT, f_seqL, f_seqC, f_enT, f_enL, f_isS, f_lenC, f_sumT, f_sumL, f_sumF, f_allF, f_anyF, f_min, f_max, ho_rt, ho_nx, ho_exc, ho_ok, lp_nx, lp_ct, lp_bk, lp_rt, lp_exc, wipeE, a_pure, a_stuck, f_mkF, f_mkT, l_L, l_C, l_F, l_ap, l_pf, l_mk, l_seqOf, l_seqOfT, l_seqOfL, l_ix, l_seqIt, l_en, l_tup, l_isL, l_app, l_set, l_fld, l_insC, l_putF, l_lst, l_cutT, l_cutL, l_cutR, l_cutC, l_catRR, at_0, at_1, at_2, at_3, at_last, st_0, st_1, st_2, Option.isSome_some, List.map_cons, List.map_nil, List.length_cons, List.length_nil, List.cons_append, List.nil_append, List.getElem?_cons_zero, List.getElem?_cons_succ, List.set_cons_zero, List.set_cons_succ, List.replicate_succ, List.replicate_zero, List.zip_cons_cons, List.zip_nil_left, List.zip_nil_right, List.foldl_cons, List.foldl_nil, Nat.reduceAdd, Nat.reduceSub, Nat.zero_add, if_true, if_false, Bool.false_eq_true, reduceIte, reduceCtorEq, decide_true, decide_false, decide_eq_true_eq, Bool.not_eq_eq_eq_not, Bool.not_true, Bool.not_false, decide_eq_false_iff_not, ite_not, Bool.true_and, Bool.and_true, Bool.false_and, Bool.and_false, Option.bind_some, Option.map_some, and_self, true_and, and_true, line_pos0, line_pos1, line_pos2, line_pos3, Int.reduceEq, Int.reduceLT, Int.reduceLE, Int.reduceAdd, Int.reduceSub, Int.reduceMul, Int.reduceNeg, Int.reduceToNat, Int.reduceNe, Int.reducePow, Nat.reduceLeDiff, Nat.reduceLT, Nat.reduceEqDiff, hl]
      rw [List.all_eq_true.mpr (fun _ _ => rfl)]
  obtain ⟨d, S, h, rfl⟩ := ok_ho key
  exact ⟨S, h⟩
end K69
theorem PySem.Challenge.cw_toldcounts_k69_whole_numbers_of_people_holds : PySem.Challenge.rw_toldcounts_k69_whole_numbers_of_people.Holds :=
  K69.holds_of 7 (by decide) fun ns _ _ => by have h := K69.law_ok 0 ns; rw [Dn.cal_eq] at h; exact h

