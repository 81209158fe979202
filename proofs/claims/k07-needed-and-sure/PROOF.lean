import PyProof.Rows.All
import Wide.All
import OpenK.AllK
import Wide.FinOn
import HandS.ForMost
import HandS.ForExc
import HandS.HeadHook2
import HandS.Style
import HandS.NoneIn
import HandS.Wide
import HandS.Deep
import HandS.TupAny
import HandS.SortInts
import HandS.StrSplit
import HandS.Replace
import HandS.IsInst
import KE.KCallOwn
import KE.KOpsOwn
import HandS.SlotsOwn
import KE.GoesEnum
import KE.GoesZip
import KE.GoesMore
import HandS.Iter
import HandS.SetFor
import HandS.Strs
import HandS.Star
import HandS.Conv
import HandS.Head0
import HandS.Head1
import HandS.Head2
import HandS.HeadEnd
import HandS.HeadHook1
import KE.KStateDown
import PySem.Challenge.RW_longbough_k07_whole_needed_and_sure
set_option Elab.async false
set_option linter.all false
set_option maxRecDepth 100000
set_option maxHeartbeats 4000000
set_option autoImplicit false
/-! VA: plain data F, values W (data or a cell of the store), the store, how they stand in the abstract heap. -/
namespace VS
open PySem PySem.Spec PyProof.Rows L2

/-- plain data: a text is the list of its code points; scr: the script as it is handed in -/
inductive F where
  | non | bl (b : Bool) | int (i : Int) | str (s : List Nat)
  | tup (xs : List F) | lst (xs : List F) | dct (kvs : List (F × F)) | obj (c : Nat) (fs : List (Nat × F)) | scr (ns : List Int)
inductive W where
  | f (x : F) | loc (n : Nat)
inductive Cell where
  | dead | lstF (xs : List F) | lstW (xs : List W) | dct (kvs : List (F × F)) | ins (c : Nat) (fs : List (Nat × W))
abbrev Store := List Cell
abbrev Env := List (Option W)
inductive Res (α : Type) where
  | ok (a : α) (st : Store) | exc (c : Nat) (fs : List (Nat × F)) (st : Store) | stuck
def Res.bind {α β : Type} (r : Res α) (k : α → Store → Res β) : Res β := match r with
  | .ok a st => k a st
  | .exc c fs st => .exc c fs st
  | .stuck => .stuck

structure ClsI where
  name : Str
  flds : List Nat
structure Tab where
  cls : List ClsI
  fld : List Str
def Tab.fn (T : Tab) (i : Nat) : Str := T.fld.getD i ⟨#[]⟩
def Tab.ca (T : Tab) (K : PySem.W.Frag) (c : Nat) : Addr := match T.cls[c]? with
  | some ci => He.ga K ci.name
  | none => 0
def Tab.okf (T : Tab) (c i : Nat) : Bool := match T.cls[c]? with
  | some ci => ci.flds.contains i && decide (i < T.fld.length)
  | none => false
structure TabOk (K : PySem.W.Frag) (T : Tab) : Prop where
  nodup : T.fld.Nodup
  cls : ∀ c, (T.cls[c]?).isSome = true → Cls K (T.ca K c)
  noat : ∀ c i, T.okf c i = true → NoAttr K (T.ca K c) (T.fn i)

def S (l : List Nat) : Str := ⟨l.toArray⟩
/-- a key of a dict -/
def keyF : F → Option Key
  | .int i => some (.inl i)
  | .str s => some (.inr (S s))
  | _ => none

mutual
inductive RepF (K : PySem.W.Frag) (T : Tab) (Z : Hp) : V → F → Prop
  | non : RepF K T Z .non .non
  | bl (b : Bool) : RepF K T Z (.bl b) (.bl b)
  | int (i : Int) : RepF K T Z (.int i) (.int i)
  | str (s : List Nat) : RepF K T Z (.str (S s)) (.str s)
  | tup {a : Addr} {vs : List V} {xs : List F} : SqT K Z a vs → RepFs K T Z vs xs → RepF K T Z (.ref a) (.tup xs)
  | lst {a : Addr} {vs : List V} {xs : List F} : Z a = some (.lst vs) → RepFs K T Z vs xs → RepF K T Z (.ref a) (.lst xs)
  | dct {a : Addr} {kvs : List (Key × V)} {kfs : List (F × F)} : Z a = some (.dK kvs) → RepFk K T Z kvs kfs → RepF K T Z (.ref a) (.dct kfs)
  | obj {a dx : Addr} {fvs : List (Str × V)} {c : Nat} {fs : List (Nat × F)} : Z a = some (.ins (T.ca K c) dx fvs) → (T.cls[c]?).isSome = true → RepFd K T Z c fvs fs → RepF K T Z (.ref a) (.obj c fs)
  | scr {a : Addr} {ns : List Int} : SqL K Z a (ns.map V.int) → RepF K T Z (.ref a) (.scr ns)
inductive RepFs (K : PySem.W.Frag) (T : Tab) (Z : Hp) : List V → List F → Prop
  | nil : RepFs K T Z [] []
  | cons {v : V} {x : F} {vs : List V} {xs : List F} : RepF K T Z v x → RepFs K T Z vs xs → RepFs K T Z (v :: vs) (x :: xs)
inductive RepFk (K : PySem.W.Frag) (T : Tab) (Z : Hp) : List (Key × V) → List (F × F) → Prop
  | nil : RepFk K T Z [] []
  | cons {k : Key} {v : V} {y x : F} {vs : List (Key × V)} {xs : List (F × F)} : keyF y = some k → RepF K T Z v x → RepFk K T Z vs xs → RepFk K T Z ((k, v) :: vs) ((y, x) :: xs)
inductive RepFd (K : PySem.W.Frag) (T : Tab) (Z : Hp) : Nat → List (Str × V) → List (Nat × F) → Prop
  | nil {c : Nat} : RepFd K T Z c [] []
  | cons {c i : Nat} {v : V} {x : F} {vs : List (Str × V)} {xs : List (Nat × F)} : T.okf c i = true → RepF K T Z v x → RepFd K T Z c vs xs → RepFd K T Z c ((T.fn i, v) :: vs) ((i, x) :: xs)
end

theorem same_sqt {K : PySem.W.Frag} {H H' : Hp} {a : Addr} {xs : List V} (e : Same H H') (h : SqT K H a xs) : SqT K H' a xs := by
  rcases h with (h | ⟨o, h⟩) | h
  · exact .inl (.inl (e _ _ h))
  · exact .inl (.inr ⟨o, e _ _ h⟩)
  · exact .inr h
mutual
theorem RepF.mono {K : PySem.W.Frag} {T : Tab} {Z Z' : Hp} (e : Same Z Z') : ∀ {v : V} {x : F}, RepF K T Z v x → RepF K T Z' v x
  | _, _, .non => .non
  | _, _, .bl b => .bl b
  | _, _, .int i => .int i
  | _, _, .str s => .str s
  | _, _, .tup h r => .tup (same_sqt e h) (RepFs.mono e r)
  | _, _, .lst h r => .lst (e _ _ h) (RepFs.mono e r)
  | _, _, .dct h r => .dct (e _ _ h) (RepFk.mono e r)
  | _, _, .obj h c r => .obj (e _ _ h) c (RepFd.mono e r)
  | _, _, .scr h => .scr (e.seq h)
theorem RepFs.mono {K : PySem.W.Frag} {T : Tab} {Z Z' : Hp} (e : Same Z Z') : ∀ {vs : List V} {xs : List F}, RepFs K T Z vs xs → RepFs K T Z' vs xs
  | _, _, .nil => .nil
  | _, _, .cons r t => .cons (RepF.mono e r) (RepFs.mono e t)
theorem RepFk.mono {K : PySem.W.Frag} {T : Tab} {Z Z' : Hp} (e : Same Z Z') : ∀ {vs : List (Key × V)} {xs : List (F × F)}, RepFk K T Z vs xs → RepFk K T Z' vs xs
  | _, _, .nil => .nil
  | _, _, .cons k r t => .cons k (RepF.mono e r) (RepFk.mono e t)
theorem RepFd.mono {K : PySem.W.Frag} {T : Tab} {Z Z' : Hp} (e : Same Z Z') : ∀ {c : Nat} {vs : List (Str × V)} {xs : List (Nat × F)}, RepFd K T Z c vs xs → RepFd K T Z' c vs xs
  | _, _, _, .nil => .nil
  | _, _, _, .cons k r t => .cons k (RepF.mono e r) (RepFd.mono e t)
end

section
variable {K : PySem.W.Frag} {T : Tab} {Z Z' : Hp}
theorem RepFs.length : ∀ {vs : List V} {xs : List F}, RepFs K T Z vs xs → vs.length = xs.length
  | _, _, .nil => rfl
  | _, _, .cons _ t => by rw [List.length_cons, List.length_cons, RepFs.length t]
theorem RepFs.append : ∀ {vs ws : List V} {xs ys : List F}, RepFs K T Z vs xs → RepFs K T Z ws ys → RepFs K T Z (vs ++ ws) (xs ++ ys)
  | _, _, _, _, .nil, s => s
  | _, _, _, _, .cons r t, s => .cons r (RepFs.append t s)
theorem RepFs.get : ∀ {vs : List V} {xs : List F} {i : Nat} {x : F}, RepFs K T Z vs xs → xs[i]? = some x → ∃ v, vs[i]? = some v ∧ RepF K T Z v x
  | _, _, _, _, .nil, h => by simp at h
  | _, _, 0, _, .cons r _, h => by simp at h; subst h; exact ⟨_, rfl, r⟩
  | _, _, i + 1, x, .cons _ t, h => by
    obtain ⟨v, e, r⟩ := RepFs.get (i := i) (x := x) t (by simpa using h)
    exact ⟨v, by simpa using e, r⟩
theorem RepFs.take : ∀ {vs : List V} {xs : List F} (n : Nat), RepFs K T Z vs xs → RepFs K T Z (vs.take n) (xs.take n)
  | _, _, 0, _ => .nil
  | _, _, _ + 1, .nil => .nil
  | _, _, n + 1, .cons r t => .cons r (RepFs.take n t)
theorem RepFs.drop : ∀ {vs : List V} {xs : List F} (n : Nat), RepFs K T Z vs xs → RepFs K T Z (vs.drop n) (xs.drop n)
  | _, _, 0, r => r
  | _, _, _ + 1, .nil => .nil
  | _, _, n + 1, .cons _ t => RepFs.drop n t
theorem RepFs.reverse : ∀ {vs : List V} {xs : List F}, RepFs K T Z vs xs → RepFs K T Z vs.reverse xs.reverse
  | _, _, .nil => .nil
  | _, _, .cons r t => by
    rw [List.reverse_cons, List.reverse_cons]
    exact (RepFs.reverse t).append (.cons r .nil)
theorem RepFs.set {v : V} {x : F} (r : RepF K T Z v x) : ∀ {vs : List V} {xs : List F} (n : Nat), RepFs K T Z vs xs → RepFs K T Z (vs.set n v) (xs.set n x)
  | _, _, _, .nil => .nil
  | _, _, 0, .cons _ t => .cons r t
  | _, _, n + 1, .cons q t => .cons q (RepFs.set r n t)
theorem RepFs.rep : ∀ {vs : List V} {xs : List F} (n : Nat), RepFs K T Z vs xs → RepFs K T Z (List.replicate n vs).flatten (List.replicate n xs).flatten
  | _, _, 0, _ => .nil
  | _, _, n + 1, r => by
    rw [List.replicate_succ, List.replicate_succ, List.flatten_cons, List.flatten_cons]
    exact r.append (RepFs.rep n r)
theorem RepFs.ints : ∀ {vs : List V} {ns : List Int}, RepFs K T Z vs (ns.map F.int) → vs = ns.map V.int
  | _, [], .nil => rfl
  | _, n :: ns, .cons r t => by
    cases r
    rw [RepFs.ints t]
    rfl
theorem RepFs.ofInts : ∀ (ns : List Int), RepFs K T Z (ns.map V.int) (ns.map F.int)
  | [] => .nil
  | n :: ns => .cons (.int n) (RepFs.ofInts ns)
theorem RepFs.bls : ∀ {vs : List V} {ns : List Bool}, RepFs K T Z vs (ns.map F.bl) → vs = ns.map V.bl
  | _, [], .nil => rfl
  | _, n :: ns, .cons r t => by
    cases r
    rw [RepFs.bls t]
    rfl
theorem RepFs.strs' : ∀ {vs : List V} {ns : List (List Nat)}, RepFs K T Z vs (ns.map F.str) → vs = (ns.map S).map V.str
  | _, [], .nil => rfl
  | _, n :: ns, .cons r t => by
    cases r
    rw [RepFs.strs' t]
    rfl
end

/-! ### values, cells, the store -/
inductive RepW (K : PySem.W.Frag) (T : Tab) (Z : Hp) (ι : List Addr) : V → W → Prop
  | f {v : V} {x : F} : RepF K T Z v x → RepW K T Z ι v (.f x)
  | loc {a : Addr} {n : Nat} : ι[n]? = some a → RepW K T Z ι (.ref a) (.loc n)
inductive RepWs (K : PySem.W.Frag) (T : Tab) (Z : Hp) (ι : List Addr) : List V → List W → Prop
  | nil : RepWs K T Z ι [] []
  | cons {v : V} {x : W} {vs : List V} {xs : List W} : RepW K T Z ι v x → RepWs K T Z ι vs xs → RepWs K T Z ι (v :: vs) (x :: xs)
inductive RepWd (K : PySem.W.Frag) (T : Tab) (Z : Hp) (ι : List Addr) : Nat → List (Str × V) → List (Nat × W) → Prop
  | nil {c : Nat} : RepWd K T Z ι c [] []
  | cons {c i : Nat} {v : V} {x : W} {vs : List (Str × V)} {xs : List (Nat × W)} : T.okf c i = true → RepW K T Z ι v x → RepWd K T Z ι c vs xs → RepWd K T Z ι c ((T.fn i, v) :: vs) ((i, x) :: xs)
/-- what a cell says of the object at a -/
def CellOk (K : PySem.W.Frag) (T : Tab) (Z : Hp) (ι : List Addr) (H : Hp) (a : Addr) : Cell → Prop
  | .dead => True
  | .lstF xs => Z a = none ∧ ∃ vs, H a = some (.lst vs) ∧ RepFs K T Z vs xs
  | .lstW xs => Z a = none ∧ ∃ vs, H a = some (.lst vs) ∧ RepWs K T Z ι vs xs
  | .dct kvs => Z a = none ∧ ∃ kvv, H a = some (.dK kvv) ∧ RepFk K T Z kvv kvs
  | .ins c fs => Z a = none ∧ ∃ dx fvs, H a = some (.ins (T.ca K c) dx fvs) ∧ (T.cls[c]?).isSome = true ∧ RepWd K T Z ι c fvs fs
structure SimS (K : PySem.W.Frag) (T : Tab) (Z : Hp) (ι : List Addr) (st : Store) (H : Hp) : Prop where
  sub : Same Z H
  len : ι.length = st.length
  nd : ι.Nodup
  cell : ∀ (n : Nat) (a : Addr) (c : Cell), ι[n]? = some a → st[n]? = some c → CellOk K T Z ι H a c
  /-- every cell's address is known to the heap -/
  there : ∀ a ∈ ι, ∃ o, H a = some o
structure Le (Z : Hp) (ι : List Addr) (Z' : Hp) (ι' : List Addr) : Prop where
  z : Same Z Z'
  i : ∀ (n : Nat) (a : Addr), ι[n]? = some a → ι'[n]? = some a
structure EnvR (K : PySem.W.Frag) (T : Tab) (Z : Hp) (ι : List Addr) (σ : L2.St) (env : Env) : Prop where
  len : σ.length = env.length
  get : ∀ (i : Nat) (w : W), env[i]? = some (some w) → ∃ v, σ[i]? = some (some v) ∧ RepW K T Z ι v w

section
variable {K : PySem.W.Frag} {T : Tab} {Z Z' Z1 Z2 H H' : Hp} {ι ι' ι1 ι2 : List Addr} {st : Store} {σ : L2.St} {env : Env}
theorem Le.refl : Le Z ι Z ι := ⟨Same.refl Z, fun _ _ h => h⟩
theorem Le.trans (a : Le Z ι Z1 ι1) (b : Le Z1 ι1 Z2 ι2) : Le Z ι Z2 ι2 := ⟨a.z.trans b.z, fun n c h => b.i n c (a.i n c h)⟩
theorem RepW.mono (e : Le Z ι Z' ι') {v : V} {w : W} (r : RepW K T Z ι v w) : RepW K T Z' ι' v w := by
  cases r with
  | f r => exact .f (r.mono e.z)
  | loc h => exact .loc (e.i _ _ h)
theorem RepWs.mono (e : Le Z ι Z' ι') : ∀ {vs : List V} {ws : List W}, RepWs K T Z ι vs ws → RepWs K T Z' ι' vs ws
  | _, _, .nil => .nil
  | _, _, .cons r t => .cons (r.mono e) (RepWs.mono e t)
theorem RepWd.mono (e : Le Z ι Z' ι') : ∀ {c : Nat} {vs : List (Str × V)} {ws : List (Nat × W)}, RepWd K T Z ι c vs ws → RepWd K T Z' ι' c vs ws
  | _, _, _, .nil => .nil
  | _, _, _, .cons k r t => .cons k (r.mono e) (RepWd.mono e t)
theorem EnvR.mono (e : Le Z ι Z' ι') (r : EnvR K T Z ι σ env) : EnvR K T Z' ι' σ env :=
  ⟨r.len, fun i w h => let ⟨v, q, p⟩ := r.get i w h; ⟨v, q, p.mono e⟩⟩
theorem EnvR.set {v : V} {w : W} (r : EnvR K T Z ι σ env) (q : RepW K T Z ι v w) (i : Nat) : EnvR K T Z ι (σ.set i (some v)) (env.set i (some w)) := by
  refine ⟨by simp [r.len], fun j u h => ?_⟩
  by_cases hj : i = j
  · subst hj
    by_cases hl : i < env.length
    · rw [List.getElem?_set_self hl] at h
      cases h
      exact ⟨v, List.getElem?_set_self (by rw [r.len]; exact hl), q⟩
    · rw [List.getElem?_eq_none (by simp; omega)] at h
      cases h
  · rw [List.getElem?_set_ne hj] at h
    obtain ⟨v', e, p⟩ := r.get j u h
    exact ⟨v', by rw [List.getElem?_set_ne hj]; exact e, p⟩
theorem RepWs.length : ∀ {vs : List V} {xs : List W}, RepWs K T Z ι vs xs → vs.length = xs.length
  | _, _, .nil => rfl
  | _, _, .cons _ t => by rw [List.length_cons, List.length_cons, RepWs.length t]
theorem RepWs.get : ∀ {vs : List V} {xs : List W} {i : Nat} {x : W}, RepWs K T Z ι vs xs → xs[i]? = some x → ∃ v, vs[i]? = some v ∧ RepW K T Z ι v x
  | _, _, _, _, .nil, h => by simp at h
  | _, _, 0, _, .cons r _, h => by simp at h; subst h; exact ⟨_, rfl, r⟩
  | _, _, i + 1, x, .cons _ t, h => by
    obtain ⟨v, e, r⟩ := RepWs.get (i := i) (x := x) t (by simpa using h)
    exact ⟨v, by simpa using e, r⟩
theorem RepWs.append : ∀ {vs ws : List V} {xs ys : List W}, RepWs K T Z ι vs xs → RepWs K T Z ι ws ys → RepWs K T Z ι (vs ++ ws) (xs ++ ys)
  | _, _, _, _, .nil, s => s
  | _, _, _, _, .cons r t, s => .cons r (RepWs.append t s)
theorem RepWs.set {v : V} {x : W} (r : RepW K T Z ι v x) : ∀ {vs : List V} {xs : List W} (n : Nat), RepWs K T Z ι vs xs → RepWs K T Z ι (vs.set n v) (xs.set n x)
  | _, _, _, .nil => .nil
  | _, _, 0, .cons _ t => .cons r t
  | _, _, n + 1, .cons q t => .cons q (RepWs.set r n t)
theorem RepWs.ofFs : ∀ {vs : List V} {xs : List F}, RepFs K T Z vs xs → RepWs K T Z ι vs (xs.map W.f)
  | _, _, .nil => .nil
  | _, _, .cons r t => .cons (.f r) (RepWs.ofFs t)
/-- all data -/
def allF : List W → Option (List F)
  | [] => some []
  | .f x :: ws => (allF ws).map (x :: ·)
  | .loc _ :: _ => none
theorem allF_map (xs : List F) : allF (xs.map W.f) = some xs := by
  induction xs with
  | nil => rfl
  | cons x xs ih => show (allF (xs.map W.f)).map (x :: ·) = _; rw [ih]; rfl
theorem RepWs.allF : ∀ {vs : List V} {ws : List W} {xs : List F}, RepWs K T Z ι vs ws → allF ws = some xs → RepFs K T Z vs xs
  | _, _, _, .nil, h => by cases h; exact .nil
  | _, _, _, .cons (.f r) t, h => by
    rename_i x _ ws
    have h : (VS.allF ws).map (x :: ·) = some _ := h
    cases q : VS.allF ws with
    | none => rw [q] at h; cases h
    | some ys =>
      rw [q] at h
      cases h
      exact .cons r (RepWs.allF t q)
  | _, _, _, .cons (.loc r) t, h => by cases h

/-- the heap has grown: new data stand where nothing stood -/
structure Grow (Z H Z' H' : Hp) : Prop where
  z : Same Z Z'
  h : Same H H'
  sub : Same Z' H'
  new : ∀ a o, H a = some o → Z' a = Z a
theorem Grow.refl (s : Same Z H) : Grow Z H Z H := ⟨Same.refl Z, Same.refl H, s, fun _ _ _ => rfl⟩
theorem Grow.trans (a : Grow Z H Z1 Z2) (b : Grow Z1 Z2 Z' H') : Grow Z H Z' H' :=
  ⟨a.z.trans b.z, a.h.trans b.h, b.sub, fun c o h => (b.new c o (a.h c o h)).trans (a.new c o h)⟩
theorem same_upd {p : Addr} {o : HO} (s : Same Z H) : Same (upd Z p o) (upd H p o) := fun b u e => by
  by_cases h : b = p
  · subst h
    rw [upd_same] at e
    rw [upd_same]
    exact e
  · rw [upd_ne h] at e
    rw [upd_ne h]
    exact s b u e
theorem same_new {p : Addr} {o : HO} (h : H p = none) : Same H (upd H p o) := fun b u e => by
  rw [upd_ne (ne_of_none e h)]
  exact e
theorem free_sub (s : Same Z H) {p : Addr} (h : H p = none) : Z p = none := s.free h
theorem Grow.laid {p : Addr} {o : HO} (s : Same Z H) (h : H p = none) : Grow Z H (upd Z p o) (upd H p o) :=
  ⟨same_new (free_sub s h), same_new h, same_upd s, fun a u e => by rw [upd_ne (ne_of_none e h)]⟩
theorem Grow.le (g : Grow Z H Z' H') : Le Z ι Z' ι := ⟨g.z, fun _ _ h => h⟩
theorem CellOk.grow (g : Grow Z H Z' H') (l : Le Z ι Z' ι') {a : Addr} {c : Cell} (h : CellOk K T Z ι H a c) : CellOk K T Z' ι' H' a c := by
  cases c with
  | dead => trivial
  | lstF xs => obtain ⟨n, vs, e, r⟩ := h; exact ⟨(g.new _ _ e).trans n, vs, g.h _ _ e, r.mono g.z⟩
  | lstW xs => obtain ⟨n, vs, e, r⟩ := h; exact ⟨(g.new _ _ e).trans n, vs, g.h _ _ e, r.mono l⟩
  | dct xs => obtain ⟨n, vs, e, r⟩ := h; exact ⟨(g.new _ _ e).trans n, vs, g.h _ _ e, r.mono g.z⟩
  | ins c fs => obtain ⟨n, dx, fvs, e, hc, r⟩ := h; exact ⟨(g.new _ _ e).trans n, dx, fvs, g.h _ _ e, hc, r.mono l⟩
theorem SimS.grow (s : SimS K T Z ι st H) (g : Grow Z H Z' H') : SimS K T Z' ι st H' :=
  ⟨g.sub, s.len, s.nd, fun n a c h1 h2 => (s.cell n a c h1 h2).grow g g.le, fun a h => let ⟨o, e⟩ := s.there a h; ⟨o, g.h _ _ e⟩⟩
theorem get_app {α : Type} {l : List α} {b : α} {n : Nat} {a : α} (h : l[n]? = some a) : (l ++ [b])[n]? = some a := by
  rw [List.getElem?_append_left (List.getElem?_eq_some_iff.mp h).1]
  exact h
theorem get_app_cases {α : Type} {l : List α} {b : α} {n : Nat} {a : α} (h : (l ++ [b])[n]? = some a) : l[n]? = some a ∨ (n = l.length ∧ a = b) := by
  by_cases hl : n < l.length
  · rw [List.getElem?_append_left hl] at h
    exact .inl h
  · rw [List.getElem?_append_right (by omega)] at h
    by_cases hn : n = l.length
    · subst hn
      simp at h
      exact .inr ⟨rfl, h.symm⟩
    · rw [List.getElem?_eq_none (by simp; omega)] at h
      cases h
/-- a new cell at p -/
theorem SimS.alloc {p : Addr} {o : HO} {c : Cell} (s : SimS K T Z ι st H) (hp : H p = none) (hc : CellOk K T Z (ι ++ [p]) (upd H p o) p c) :
    SimS K T Z (ι ++ [p]) (st ++ [c]) (upd H p o) := by
  have hz : Z p = none := free_sub s.sub hp
  have g : Grow Z H Z (upd H p o) := ⟨Same.refl Z, same_new hp, s.sub.trans (same_new hp), fun _ _ _ => rfl⟩
  have l : Le Z ι Z (ι ++ [p]) := ⟨Same.refl Z, fun _ _ h => get_app h⟩
  have hni : p ∉ ι := fun hm => by
    obtain ⟨u, e⟩ := s.there p hm
    rw [hp] at e; cases e
  refine ⟨g.sub, by simp [s.len], ?_, fun n a d h1 h2 => ?_, fun a ha => ?_⟩
  · rw [List.nodup_append]
    exact ⟨s.nd, by simp, fun a ha b hb => by simp at hb; subst hb; exact fun e => hni (e ▸ ha)⟩
  · rcases get_app_cases h1 with h1 | ⟨rfl, rfl⟩
    · rcases get_app_cases h2 with h2 | ⟨rfl, rfl⟩
      · exact (s.cell n a d h1 h2).grow g l
      · exact absurd (List.getElem?_eq_some_iff.mp h1).1 (by rw [s.len]; omega)
    · rcases get_app_cases h2 with h2 | ⟨_, rfl⟩
      · exact absurd (List.getElem?_eq_some_iff.mp h2).1 (by rw [s.len]; omega)
      · exact hc
  · rcases List.mem_append.mp ha with ha | ha
    · obtain ⟨u, e⟩ := s.there a ha
      exact ⟨u, g.h _ _ e⟩
    · simp at ha
      subst ha
      exact ⟨o, upd_same⟩
theorem Le.alloc {p : Addr} : Le Z ι Z (ι ++ [p]) := ⟨Same.refl Z, fun _ _ h => get_app h⟩
/-- a cell is changed; its object o' -/
theorem SimS.write {n : Nat} {a : Addr} {o : HO} {c : Cell} (s : SimS K T Z ι st H) (hn : ι[n]? = some a) (hz : Z a = none) (hc : CellOk K T Z ι (upd H a o) a c) : SimS K T Z ι (st.set n c) (upd H a o) := by
  refine ⟨fun b u e => ?_, by simp [s.len], s.nd, fun m b d h1 h2 => ?_, fun b hb => ?_⟩
  · have : b ≠ a := fun q => by subst q; rw [hz] at e; cases e
    rw [upd_ne this]
    exact s.sub b u e
  · by_cases hm : n = m
    · subst hm
      rw [hn] at h1; cases h1
      have hl : n < st.length := by rw [← s.len]; exact (List.getElem?_eq_some_iff.mp hn).1
      rw [List.getElem?_set_self hl] at h2
      cases h2
      exact hc
    · rw [List.getElem?_set_ne hm] at h2
      have hba : b ≠ a := fun q => by
        subst q
        obtain ⟨l1, e1⟩ := List.getElem?_eq_some_iff.mp hn
        obtain ⟨l2, e2⟩ := List.getElem?_eq_some_iff.mp h1
        exact hm ((List.getElem_inj s.nd).mp (e1.trans e2.symm))
      have q := s.cell m b d h1 h2
      cases d with
      | dead => trivial
      | lstF xs => obtain ⟨n, vs, e, r⟩ := q; exact ⟨n, vs, by rw [upd_ne hba]; exact e, r⟩
      | lstW xs => obtain ⟨n, vs, e, r⟩ := q; exact ⟨n, vs, by rw [upd_ne hba]; exact e, r⟩
      | dct xs => obtain ⟨n, vs, e, r⟩ := q; exact ⟨n, vs, by rw [upd_ne hba]; exact e, r⟩
      | ins c fs => obtain ⟨n, dx, fvs, e, hc, r⟩ := q; exact ⟨n, dx, fvs, by rw [upd_ne hba]; exact e, hc, r⟩
  · by_cases hba : b = a
    · subst hba
      exact ⟨o, upd_same⟩
    · obtain ⟨u, e⟩ := s.there b hb
      exact ⟨u, by rw [upd_ne hba]; exact e⟩
/-- a cell becomes data -/
theorem SimS.freeze {n : Nat} {a : Addr} {o : HO} (s : SimS K T Z ι st H) (hn : ι[n]? = some a) (hz : Z a = none) (ho : H a = some o) : SimS K T (upd Z a o) ι (st.set n .dead) H := by
  have hs : Same Z (upd Z a o) := same_new hz
  refine ⟨fun b u e => ?_, by simp [s.len], s.nd, fun m b d h1 h2 => ?_, s.there⟩
  · by_cases hb : b = a
    · subst hb; rw [upd_same] at e; cases e; exact ho
    · rw [upd_ne hb] at e; exact s.sub b u e
  · by_cases hm : n = m
    · subst hm
      have hl : n < st.length := by rw [← s.len]; exact (List.getElem?_eq_some_iff.mp hn).1
      rw [List.getElem?_set_self hl] at h2
      cases h2
      trivial
    · rw [List.getElem?_set_ne hm] at h2
      have hba : b ≠ a := fun q => by
        subst q
        obtain ⟨l1, e1⟩ := List.getElem?_eq_some_iff.mp hn
        obtain ⟨l2, e2⟩ := List.getElem?_eq_some_iff.mp h1
        exact hm ((List.getElem_inj s.nd).mp (e1.trans e2.symm))
      have l : Le Z ι (upd Z a o) ι := ⟨hs, fun _ _ h => h⟩
      have q := s.cell m b d h1 h2
      cases d with
      | dead => trivial
      | lstF xs => obtain ⟨n, vs, e, r⟩ := q; exact ⟨by rw [upd_ne hba]; exact n, vs, e, r.mono hs⟩
      | lstW xs => obtain ⟨n, vs, e, r⟩ := q; exact ⟨by rw [upd_ne hba]; exact n, vs, e, r.mono l⟩
      | dct xs => obtain ⟨n, vs, e, r⟩ := q; exact ⟨by rw [upd_ne hba]; exact n, vs, e, r.mono hs⟩
      | ins c fs => obtain ⟨n, dx, fvs, e, hc, r⟩ := q; exact ⟨by rw [upd_ne hba]; exact n, dx, fvs, e, hc, r.mono l⟩
/-! ### the store cut back -/
def W.below (b : Nat) : W → Bool
  | .f _ => true
  | .loc n => decide (n < b)
def Cell.below (b : Nat) : Cell → Bool
  | .lstW xs => xs.all (W.below b)
  | .ins _ fs => fs.all fun p => p.2.below b
  | _ => true
def clean (b : Nat) (st : Store) : Bool := st.all (Cell.below b)
theorem RepW.cut {b : Nat} {v : V} {w : W} (r : RepW K T Z ι v w) (h : w.below b = true) : RepW K T Z (ι.take b) v w := by
  cases r with
  | f r => exact .f r
  | loc e =>
    rename_i n
    have hb : n < b := of_decide_eq_true h
    exact .loc (by rw [List.getElem?_take_of_lt hb]; exact e)
theorem RepWs.cut {b : Nat} : ∀ {vs : List V} {ws : List W}, RepWs K T Z ι vs ws → ws.all (W.below b) = true → RepWs K T Z (ι.take b) vs ws
  | _, _, .nil, _ => .nil
  | _, _, .cons r t, h => by
    rw [List.all_cons, Bool.and_eq_true] at h
    exact .cons (r.cut h.1) (RepWs.cut t h.2)
theorem RepWd.cut {b : Nat} : ∀ {c : Nat} {vs : List (Str × V)} {ws : List (Nat × W)}, RepWd K T Z ι c vs ws → (ws.all fun p => p.2.below b) = true → RepWd K T Z (ι.take b) c vs ws
  | _, _, _, .nil, _ => .nil
  | _, _, _, .cons k r t, h => by
    rw [List.all_cons, Bool.and_eq_true] at h
    exact .cons k (r.cut h.1) (RepWd.cut t h.2)
theorem take_get {α : Type} {l : List α} {b n : Nat} {a : α} (h : (l.take b)[n]? = some a) : l[n]? = some a ∧ n < b := by
  by_cases hb : n < b
  · rw [List.getElem?_take_of_lt hb] at h
    exact ⟨h, hb⟩
  · rw [List.getElem?_eq_none (by simp; omega)] at h
    cases h
theorem SimS.cut {b : Nat} (s : SimS K T Z ι st H) (h : clean b (st.take b) = true) : SimS K T Z (ι.take b) (st.take b) H := by
  refine ⟨s.sub, by simp [s.len], s.nd.sublist (List.take_sublist b ι), fun n a c h1 h2 => ?_, fun a ha => s.there a (List.mem_of_mem_take ha)⟩
  obtain ⟨h1', hb⟩ := take_get h1
  obtain ⟨h2', _⟩ := take_get h2
  have q := s.cell n a c h1' h2'
  have hc : c.below b = true := List.all_eq_true.mp h c (List.mem_of_getElem? h2)
  cases c with
  | dead => trivial
  | lstF xs => exact q
  | dct xs => exact q
  | lstW xs => obtain ⟨n, vs, e, r⟩ := q; exact ⟨n, vs, e, r.cut hc⟩
  | ins c fs => obtain ⟨n, dx, fvs, e, hk, r⟩ := q; exact ⟨n, dx, fvs, e, hk, r.cut hc⟩
theorem Le.cut {b : Nat} (l : Le Z ι Z' ι') (h : ι.length ≤ b) : Le Z ι Z' (ι'.take b) := by
  refine ⟨l.z, fun n a e => ?_⟩
  have hn : n < ι.length := (List.getElem?_eq_some_iff.mp e).1
  rw [List.getElem?_take_of_lt (by omega)]
  exact l.i n a e
end
end VS

set_option Elab.async false
set_option linter.all false
set_option maxRecDepth 100000
set_option maxHeartbeats 4000000
set_option autoImplicit false
/-! VB: the judgements over plain data; names, constants, tests, statements. -/
namespace VS
open PySem PySem.Spec PyProof.Rows L2

/-- an exception's own dict at d -/
def XRep (K : PySem.W.Frag) (T : Tab) (Z H : Hp) (d : Addr) (fs : List (Nat × F)) : Prop :=
  ∃ fvs : List (Str × V), H d = some (.xd fvs) ∧ ∀ i x, (i, x) ∈ fs → ∃ v, fvs.lookup (T.fn i) = some v ∧ RepF K T Z v x
section
variable (K : PySem.W.Frag) (T : Tab) (E : XK)
def PX (Z : Hp) (ι : List Addr) (c : Nat) (fs : List (Nat × F)) (st : Store) : Prop :=
  ∀ H' Z' ι' d, Le Z ι Z' ι' → SimS K T Z' ι' st H' → XRep K T Z' H' d fs → E (.ref (T.ca K c)) (some d) H'
def Post {α : Type} (Z : Hp) (ι : List Addr) (r : Res α) (k : α → Store → Hp → Hp → List Addr → Prop) : Prop := match r with
  | .ok a st => ∀ H' Z' ι', Le Z ι Z' ι' → SimS K T Z' ι' st H' → k a st H' Z' ι'
  | .exc c fs st => PX K T E Z ι c fs st
  | .stuck => False
abbrev TEv := Env → Store → Res W
abbrev TTv := Env → Store → Res Bool
abbrev TAv := Env → Store → Res (List W)
def RdE (t : TEv) : TE := fun σ H Q => ∃ Z ι env st, SimS K T Z ι st H ∧ EnvR K T Z ι σ env ∧ Post K T E Z ι (t env st) fun w _ H' Z' ι' => ∀ v, RepW K T Z' ι' v w → Q v H'
def RdT (t : TTv) : TT := fun σ H Q => ∃ Z ι env st, SimS K T Z ι st H ∧ EnvR K T Z ι σ env ∧ Post K T E Z ι (t env st) fun b _ H' _ _ => Q b H'
def RdA (t : TAv) : TA := fun σ H Q => ∃ Z ι env st, SimS K T Z ι st H ∧ EnvR K T Z ι σ env ∧ Post K T E Z ι (t env st) fun ws _ H' Z' ι' => ∀ vs, RepWs K T Z' ι' vs ws → Q vs H'
inductive SR where
  | nx (env : Env) (st : Store) | rt (w : W) (st : Store) | bk (env : Env) (st : Store) | ct (env : Env) (st : Store) | exc (c : Nat) (fs : List (Nat × F)) (st : Store) | stuck
abbrev TSv := Env → Store → SR
def PostS (Z : Hp) (ι : List Addr) (r : SR) (D : Ends) : Prop := match r with
  | .nx env st => ∀ σ' H' Z' ι', Le Z ι Z' ι' → SimS K T Z' ι' st H' → EnvR K T Z' ι' σ' env → D.nx σ' H'
  | .rt w st => ∀ v H' Z' ι', Le Z ι Z' ι' → SimS K T Z' ι' st H' → RepW K T Z' ι' v w → D.rt v H'
  | .bk env st => ∀ σ' H' Z' ι', Le Z ι Z' ι' → SimS K T Z' ι' st H' → EnvR K T Z' ι' σ' env → D.bk σ' H'
  | .ct env st => ∀ σ' H' Z' ι', Le Z ι Z' ι' → SimS K T Z' ι' st H' → EnvR K T Z' ι' σ' env → D.ct σ' H'
  | .exc c fs st => PX K T E Z ι c fs st
  | .stuck => False
def RdS (t : TSv) : TS := fun D σ H => ∃ Z ι env st, SimS K T Z ι st H ∧ EnvR K T Z ι σ env ∧ PostS K T E Z ι (t env st) D
end
/-- a statement goes on with a value -/
def Res.thenS {α : Type} (r : Res α) (k : α → Store → SR) : SR := match r with
  | .ok a st => k a st
  | .exc c fs st => .exc c fs st
  | .stuck => .stuck

section
variable {K : PySem.W.Frag} {T : Tab} {E : XK} {Z Z' : Hp} {ι ι' : List Addr} {α β : Type}
theorem PX.le {c : Nat} {fs : List (Nat × F)} {st : Store} (l : Le Z ι Z' ι') (h : PX K T E Z ι c fs st) : PX K T E Z' ι' c fs st :=
  fun H' Z1 ι1 d l1 s x => h H' Z1 ι1 d (l.trans l1) s x
theorem Post.le {r : Res α} {k : α → Store → Hp → Hp → List Addr → Prop} (l : Le Z ι Z' ι') (h : Post K T E Z ι r k) : Post K T E Z' ι' r k := by
  cases r with
  | ok a st => exact fun H' Z1 ι1 l1 s => h H' Z1 ι1 (l.trans l1) s
  | exc c fs st => exact PX.le l h
  | stuck => exact h
theorem Post.bind {r : Res α} {f : α → Store → Res β} {k : β → Store → Hp → Hp → List Addr → Prop} (h : Post K T E Z ι (r.bind f) k) : Post K T E Z ι r (fun a st1 _ Z1 ι1 => Post K T E Z1 ι1 (f a st1) k) := by
  cases r with
  | ok a st => exact fun H' Z1 ι1 l1 s => Post.le l1 h
  | exc c fs st => exact h
  | stuck => exact h
theorem Post.imp {r : Res α} {k k' : α → Store → Hp → Hp → List Addr → Prop} (h : Post K T E Z ι r k) (hk : ∀ a st H' Z' ι', Le Z ι Z' ι' → SimS K T Z' ι' st H' → k a st H' Z' ι' → k' a st H' Z' ι') : Post K T E Z ι r k' := by
  cases r with
  | ok a st => exact fun H' Z1 ι1 l1 s => hk a st H' Z1 ι1 l1 s (h H' Z1 ι1 l1 s)
  | exc c fs st => exact h
  | stuck => exact h
theorem PostS.le {r : SR} {D : Ends} (l : Le Z ι Z' ι') (h : PostS K T E Z ι r D) : PostS K T E Z' ι' r D := by
  cases r with
  | nx env st => exact fun σ H' Z1 ι1 l1 s e => h σ H' Z1 ι1 (l.trans l1) s e
  | rt w st => exact fun v H' Z1 ι1 l1 s e => h v H' Z1 ι1 (l.trans l1) s e
  | bk env st => exact fun σ H' Z1 ι1 l1 s e => h σ H' Z1 ι1 (l.trans l1) s e
  | ct env st => exact fun σ H' Z1 ι1 l1 s e => h σ H' Z1 ι1 (l.trans l1) s e
  | exc c fs st => exact PX.le l h
  | stuck => exact h
theorem PostS.thenS {r : Res α} {f : α → Store → SR} {D : Ends} (h : PostS K T E Z ι (r.thenS f) D) : Post K T E Z ι r (fun a st1 _ Z1 ι1 => PostS K T E Z1 ι1 (f a st1) D) := by
  cases r with
  | ok a st => exact fun H' Z1 ι1 l1 s => PostS.le l1 h
  | exc c fs st => exact h
  | stuck => exact h
end

/-! ### weaker readings -/
theorem pe_weak {X : Cx} {e : Expr} {t t' : TE} (h : PE X e t) (w : ∀ σ H Q, t' σ H Q → t σ H Q) : PE X e t' := ⟨fun pins s σ H Q I q => h.run pins s σ H Q I (w σ H Q q)⟩
theorem pt_weak {X : Cx} {e : Expr} {t t' : TT} (h : PT X e t) (w : ∀ σ H Q, t' σ H Q → t σ H Q) : PT X e t' := ⟨fun pins s σ H Q I q => h.run pins s σ H Q I (w σ H Q q)⟩
theorem pw_weak {X : Cx} {e : Expr} {t t' : TT} (h : PW X e t) (w : ∀ σ H Q, t' σ H Q → t σ H Q) : PW X e t' := ⟨fun wh pins s σ H Q I q => h.run wh pins s σ H Q I (w σ H Q q)⟩
theorem pa_weak {X : Cx} {e : List Expr} {t t' : TA} (h : PA X e t) (w : ∀ σ H Q, t' σ H Q → t σ H Q) : PA X e t' := ⟨fun p pins s σ H Q I q => h.run p pins s σ H Q I (w σ H Q q)⟩
theorem ps_weak {X : Cx} {e : Stmt} {t t' : TS} (h : PS X e t) (w : ∀ D σ H, t' D σ H → t D σ H) : PS X e t' := ⟨fun pins s σ H Q I q => h.run pins s σ H Q I (w Q σ H q)⟩
theorem pss_weak {X : Cx} {e : List Stmt} {t t' : TS} (h : PSs X e t) (w : ∀ D σ H, t' D σ H → t D σ H) : PSs X e t' := ⟨fun pins s σ H Q I q => h.run pins s σ H Q I (w Q σ H q)⟩
theorem pi_weak {X : Cx} {tg e : Expr} {t t' : TI} (h : PI X tg e t) (w : ∀ σ H Q, t' σ H Q → t σ H Q) : PI X tg e t' := ⟨fun pins s σ H Q I q => h.run pins s σ H Q I (w σ H Q q)⟩
theorem pg_weak {X : Cx} {e : Expr} {t t' : TG} (h : PG X e t) (w : ∀ v σ H Q, t' v σ H Q → t v σ H Q) : PG X e t' := ⟨fun pins s σ H v u Q I r q => h.run pins s σ H v u Q I r (w v σ H Q q)⟩

/-! ### the judgements -/
abbrev VE (X : Cx) (T : Tab) (E : XK) (e : Expr) (t : TEv) : Prop := PE X e (RdE X.K T E t)
abbrev VT (X : Cx) (T : Tab) (E : XK) (e : Expr) (t : TTv) : Prop := PT X e (RdT X.K T E t)
abbrev VW (X : Cx) (T : Tab) (E : XK) (e : Expr) (t : TTv) : Prop := PW X e (RdT X.K T E t)
abbrev VA (X : Cx) (T : Tab) (E : XK) (e : List Expr) (t : TAv) : Prop := PA X e (RdA X.K T E t)
abbrev VS (X : Cx) (T : Tab) (E : XK) (e : Stmt) (t : TSv) : Prop := PS X e (RdS X.K T E t)
abbrev VB (X : Cx) (T : Tab) (E : XK) (e : List Stmt) (t : TSv) : Prop := PSs X e (RdS X.K T E t)

section
variable {X : Cx} {T : Tab} {E : XK} {a b c e : Expr} {ta tb tc te : TEv} {pos : Pos}
/-! ### names and constants -/
def eVar (i : Nat) : TEv := fun env st => match env[i]? with
  | some (some w) => .ok w st
  | _ => .stuck
def eC (x : F) : TEv := fun _ st => .ok (.f x) st
theorem ve_var {i : Nat} {x : Str} (hN : X.N[i]? = some x) (hv : Vis X.env.scope x) (hd : (x == ("__debug__" : Str)) = false := by decide) (hcd : (x == ("__classdict__" : Str)) = false := by decide) : VE X T E (.Name x pos) (eVar i) := by
  refine pe_weak (pe_var hN hv hd hcd) fun σ H Q h => ?_
  obtain ⟨Z, ι, env, st, s, r, p⟩ := h
  unfold eVar at p
  cases q : env[i]? with
  | none => rw [q] at p; exact p.elim
  | some o =>
    cases o with
    | none => rw [q] at p; exact p.elim
    | some w =>
      rw [q] at p
      obtain ⟨v, e, rv⟩ := r.get i w q
      exact ⟨v, e, p H Z ι Le.refl s v rv⟩
theorem rd_c {K : PySem.W.Frag} {x : F} {v : V} (hr : ∀ Z, RepF K T Z v x) {σ : L2.St} {H : Hp} {Q : VK} (h : RdE K T E (eC x) σ H Q) : tC v σ H Q := by
  obtain ⟨Z, ι, env, st, s, r, p⟩ := h
  exact p H Z ι Le.refl s v (.f (hr Z))
theorem ve_int {i : Int} {j : Nat} : VE X T E (.Constant (.int i) j pos) (eC (.int i)) := pe_weak pe_int fun _ _ _ h => rd_c (fun Z => .int i) h
theorem ve_bl {i : Bool} {j : Nat} : VE X T E (.Constant (.bool i) j pos) (eC (.bl i)) := pe_weak pe_bl fun _ _ _ h => rd_c (fun Z => .bl i) h
theorem ve_non {j : Nat} : VE X T E (.Constant .none j pos) (eC .non) := pe_weak pe_non fun _ _ _ h => rd_c (fun Z => .non) h
theorem ve_str {x : Str} {s : List Nat} {j : Nat} (hx : x = S s) : VE X T E (.Constant (.str x) j pos) (eC (.str s)) := by
  subst hx
  exact pe_weak pe_str fun _ _ _ h => rd_c (fun Z => .str s) h
/-- a module's constant -/
theorem ve_glob {x : Str} {v : V} {y : F} {u : Value} (hg : Gl X x) (hm : X.mg x = some u) (r : RelV v u) (hr : ∀ Z, RepF X.K T Z v y) (hd : (x == ("__debug__" : Str)) = false := by decide) : VE X T E (.Name x pos) (eC y) :=
  pe_weak (pe_glob hg hm r hd) fun _ _ _ h => rd_c hr h

/-! ### two values -/
/-- data out of the store: a cell's list or dict is looked at -/
def lookC : Option Cell → Option F
  | some (.lstF xs) => some (.lst xs)
  | some (.dct kvs) => some (.dct kvs)
  | _ => none
def look (st : Store) : W → Option F
  | .f x => some x
  | .loc n => lookC st[n]?
/-- data as it is to be seen in H -/
inductive View (K : PySem.W.Frag) (T : Tab) (Z H : Hp) : V → F → Prop
  | f {v : V} {x : F} : RepF K T Z v x → View K T Z H v x
  | lst {a : Addr} {vs : List V} {xs : List F} : H a = some (.lst vs) → RepFs K T Z vs xs → View K T Z H (.ref a) (.lst xs)
  | dct {a : Addr} {kvs : List (Key × V)} {kfs : List (F × F)} : H a = some (.dK kvs) → RepFk K T Z kvs kfs → View K T Z H (.ref a) (.dct kfs)
theorem RepW.view {K : PySem.W.Frag} {Z H : Hp} {ι : List Addr} {st : Store} {v : V} {w : W} {x : F} (s : SimS K T Z ι st H) (r : RepW K T Z ι v w) (h : look st w = some x) : View K T Z H v x := by
  cases r with
  | f r => cases h; exact .f r
  | loc e =>
    rename_i a n
    have h : lookC st[n]? = some x := h
    cases q : st[n]? with
    | none => rw [q] at h; cases h
    | some c =>
      rw [q] at h
      have k := s.cell n a c e q
      cases c with
      | dead => cases h
      | lstF xs => cases h; obtain ⟨_, vs, e1, r1⟩ := k; exact .lst e1 r1
      | lstW xs => cases h
      | dct xs => cases h; obtain ⟨_, vs, e1, r1⟩ := k; exact .dct e1 r1
      | ins c fs => cases h
/-- a reading that hands on data: nothing old is touched -/
def Give (K : PySem.W.Frag) (T : Tab) (Z H : Hp) (z : F) (Q : VK) : Prop := ∀ v H' Z', Grow Z H Z' H' → RepF K T Z' v z → Q v H'
theorem Give.here {K : PySem.W.Frag} {Z H : Hp} {z : F} {Q : VK} (g : Give K T Z H z Q) (s : Same Z H) {v : V} (r : RepF K T Z v z) : Q v H := g v H Z (Grow.refl s) r
theorem Give.new {K : PySem.W.Frag} {Z H : Hp} {z : F} {Q : VK} (g : Give K T Z H z Q) (s : Same Z H) {p : Addr} {o : HO} (hp : H p = none) (r : RepF K T (upd Z p o) (.ref p) z) : Q (.ref p) (upd H p o) := g _ _ _ (Grow.laid s hp) r
/-- an operation on two values does g on data -/
def Op2 (X : Cx) (T : Tab) (r : R2) (g : F → F → Option F) : Prop := ∀ Z H x y fx fy z Q, Same Z H → View X.K T Z H x fx → View X.K T Z H y fy → g fx fy = some z → Give X.K T Z H z Q → r x y H Q
def Op1 (X : Cx) (T : Tab) (r : V → Hp → VK → Prop) (g : F → Option F) : Prop := ∀ Z H x fx z Q, Same Z H → View X.K T Z H x fx → g fx = some z → Give X.K T Z H z Q → r x H Q
def ofOpt (o : Option F) (st : Store) : Res W := match o with
  | some z => .ok (.f z) st
  | none => .stuck
def lk1 (g : F → Option F) (w : W) (st : Store) : Res W := ofOpt ((look st w).bind g) st
def lk2 (g : F → F → Option F) (w u : W) (st : Store) : Res W := ofOpt ((look st w).bind fun x => (look st u).bind fun y => g x y) st
def eOp1 (g : F → Option F) (ta : TEv) : TEv := fun env st => (ta env st).bind fun w st1 => lk1 g w st1
def eOp2 (g : F → F → Option F) (ta tb : TEv) : TEv := fun env st => (ta env st).bind fun w st1 => (tb env st1).bind fun u st2 => lk2 g w u st2
theorem lk1_ok {K : PySem.W.Frag} {Z H : Hp} {ι : List Addr} {g : F → Option F} {w : W} {st : Store} {Q : VK} (s : SimS K T Z ι st H) (h : Post K T E Z ι (lk1 g w st) fun w _ H' Z' ι' => ∀ v, RepW K T Z' ι' v w → Q v H') :
    ∃ x z, look st w = some x ∧ g x = some z ∧ Give K T Z H z Q := by
  unfold lk1 at h
  cases q : look st w with
  | none => rw [q] at h; exact h.elim
  | some x =>
    rw [q] at h
    cases q1 : g x with
    | none => simp only [Option.bind_some, q1] at h; exact h.elim
    | some z =>
      simp only [Option.bind_some, q1] at h
      exact ⟨x, z, rfl, q1, fun v H' Z' gr r => h H' Z' ι gr.le (s.grow gr) v (.f r)⟩
theorem lk2_ok {K : PySem.W.Frag} {Z H : Hp} {ι : List Addr} {g : F → F → Option F} {w u : W} {st : Store} {Q : VK} (s : SimS K T Z ι st H) (h : Post K T E Z ι (lk2 g w u st) fun w _ H' Z' ι' => ∀ v, RepW K T Z' ι' v w → Q v H') :
    ∃ x y z, look st w = some x ∧ look st u = some y ∧ g x y = some z ∧ Give K T Z H z Q := by
  unfold lk2 at h
  cases q : look st w with
  | none => rw [q] at h; exact h.elim
  | some x =>
    rw [q] at h
    cases q0 : look st u with
    | none => rw [q0] at h; exact h.elim
    | some y =>
      rw [q0] at h
      cases q1 : g x y with
      | none => simp only [Option.bind_some, q1] at h; exact h.elim
      | some z =>
        simp only [Option.bind_some, q1] at h
        exact ⟨x, y, z, rfl, rfl, q1, fun v H' Z' gr r => h H' Z' ι gr.le (s.grow gr) v (.f r)⟩
theorem rd_op2 {r : R2} {g : F → F → Option F} (ho : Op2 X T r g) {σ : L2.St} {H : Hp} {Q : VK} (h : RdE X.K T E (eOp2 g ta tb) σ H Q) : tOp r (RdE X.K T E ta) (RdE X.K T E tb) σ H Q := by
  obtain ⟨Z, ι, env, st, s, re, p⟩ := h
  refine ⟨Z, ι, env, st, s, re, (Post.bind p).imp fun w st1 H1 Z1 ι1 l1 s1 p1 v rv => ?_⟩
  refine ⟨Z1, ι1, env, st1, s1, re.mono l1, (Post.bind p1).imp fun u st2 H2 Z2 ι2 l2 s2 p2 v2 rv2 => ?_⟩
  obtain ⟨x, y, z, e1, e2, e3, g⟩ := lk2_ok s2 p2
  exact ho Z2 H2 v v2 x y z Q s2.sub ((rv.mono l2).view s2 e1) (rv2.view s2 e2) e3 g
theorem rd_op1 {r : V → Hp → VK → Prop} {g : F → Option F} (ho : Op1 X T r g) {σ : L2.St} {H : Hp} {Q : VK} (h : RdE X.K T E (eOp1 g ta) σ H Q) : tUn r (RdE X.K T E ta) σ H Q := by
  obtain ⟨Z, ι, env, st, s, re, p⟩ := h
  refine ⟨Z, ι, env, st, s, re, (Post.bind p).imp fun w st1 H1 Z1 ι1 l1 s1 p1 v rv => ?_⟩
  obtain ⟨x, z, e1, e3, g⟩ := lk1_ok s1 p1
  exact ho Z1 H1 v x z Q s1.sub (rv.view s1 e1) e3 g
theorem ve_op {op : Operator} {r : R2} {g : F → F → Option F} (hr : OpR X (binaryOp op) r) (ho : Op2 X T r g) (ha : VE X T E a ta) (hb : VE X T E b tb) : VE X T E (.BinOp a op b pos) (eOp2 g ta tb) :=
  pe_weak (pe_op hr ha hb) fun _ _ _ h => rd_op2 ho h
theorem ve_un {op : UnaryOp} {r : V → Hp → VK → Prop} {g : F → Option F} (hr : UnR X (unaryOp op) r) (ho : Op1 X T r g) (ha : VE X T E a ta) : VE X T E (.UnaryOp op a pos) (eOp1 g ta) :=
  pe_weak (pe_un hr ha) fun _ _ _ h => rd_op1 ho h
theorem ve_cmp {op : CmpOp} {r : R2} {g : F → F → Option F} (hr : OpR X (compareOp op) r) (ho : Op2 X T r g) (ha : VE X T E a ta) (hb : VE X T E b tb) (hm : behindInMarks op b = false) : VE X T E (.Compare a [op] [b] pos) (eOp2 g ta tb) :=
  pe_weak (pe_cmpR hr ha hb hm) fun _ _ _ h => rd_op2 ho h

/-! ### tests -/
def toB : W → Option Bool
  | .f (.bl b) => some b
  | _ => none
def asB (w : W) (st : Store) : Res Bool := match toB w with
  | some b => .ok b st
  | none => .stuck
/-- a value that is a bool, as a test -/
def tVal (t : TEv) : TTv := fun env st => (t env st).bind fun w st1 => asB w st1
theorem toB_some {w : W} {b : Bool} (h : toB w = some b) : w = .f (.bl b) := by
  cases w with
  | loc n => cases h
  | f x => cases x <;> first | (cases h; rfl) | cases h
theorem rd_tval {K : PySem.W.Frag} {σ : L2.St} {H : Hp} {Q : Bool → Hp → Prop} (h : RdT K T E (tVal te) σ H Q) : RdE K T E te σ H (fun x H1 => ∃ c, x = .bl c ∧ Q c H1) := by
  obtain ⟨Z, ι, env, st, s, re, p⟩ := h
  refine ⟨Z, ι, env, st, s, re, (Post.bind p).imp fun w st1 H1 Z1 ι1 l1 s1 p1 v rv => ?_⟩
  unfold asB at p1
  cases q : toB w with
  | none => rw [q] at p1; exact p1.elim
  | some b =>
    rw [q] at p1
    cases toB_some q
    cases rv with
    | f rv => cases rv; exact ⟨b, rfl, p1 H1 Z1 ι1 Le.refl s1⟩
/-- any expression whose value is a bool -/
theorem vt_val (h : VE X T E e te) (he : ∀ whole, isTrue e X.env whole = (do let v ← whole; standAt e.pos; holding [v] (truthy v)) := by intro _; rfl) : VT X T E e (tVal te) :=
  pt_weak (pt_val h he) fun _ _ _ q => rd_tval q
theorem vt_cmp {op : CmpOp} {r : R2} {g : F → F → Option F} (hr : OpR X (compareOp op) r) (ho : Op2 X T r g) (ha : VE X T E a ta) (hb : VE X T E b tb) (hm : behindInMarks op b = false) : VT X T E (.Compare a [op] [b] pos) (tVal (eOp2 g ta tb)) :=
  pt_weak (pt_cmpR hr ha hb hm) fun σ H Q h => by
    obtain ⟨Z, ι, env, st, s, re, p⟩ := rd_tval h
    exact rd_op2 ho ⟨Z, ι, env, st, s, re, p⟩
variable {wa wb wc : TTv}
def tAndV (p q : TTv) : TTv := fun env st => (p env st).bind fun b st1 => if b = true then q env st1 else .ok false st1
def tOrV (p q : TTv) : TTv := fun env st => (p env st).bind fun b st1 => if b = true then .ok true st1 else q env st1
def tNotV (p : TTv) : TTv := fun env st => (p env st).bind fun b st1 => .ok (!b) st1
theorem rd_and {K : PySem.W.Frag} {σ : L2.St} {H : Hp} {Q : Bool → Hp → Prop} (h : RdT K T E (tAndV wa wb) σ H Q) : tAnd (RdT K T E wa) (RdT K T E wb) σ H Q := by
  obtain ⟨Z, ι, env, st, s, re, p⟩ := h
  refine ⟨Z, ι, env, st, s, re, (Post.bind p).imp fun b st1 H1 Z1 ι1 l1 s1 p1 => ?_⟩
  cases b with
  | true => exact ⟨Z1, ι1, env, st1, s1, re.mono l1, p1⟩
  | false => exact p1 H1 Z1 ι1 Le.refl s1
theorem rd_or {K : PySem.W.Frag} {σ : L2.St} {H : Hp} {Q : Bool → Hp → Prop} (h : RdT K T E (tOrV wa wb) σ H Q) : tOr (RdT K T E wa) (RdT K T E wb) σ H Q := by
  obtain ⟨Z, ι, env, st, s, re, p⟩ := h
  refine ⟨Z, ι, env, st, s, re, (Post.bind p).imp fun b st1 H1 Z1 ι1 l1 s1 p1 => ?_⟩
  cases b with
  | false => exact ⟨Z1, ι1, env, st1, s1, re.mono l1, p1⟩
  | true => exact p1 H1 Z1 ι1 Le.refl s1
variable {rest : List Expr}
theorem vw_and1 (ha : VT X T E a wa) : VW X T E (.BoolOp .And [a] pos) wa := pw_and1 ha
theorem vw_or1 (ha : VT X T E a wa) : VW X T E (.BoolOp .Or [a] pos) wa := pw_or1 ha
theorem vw_and (ha : VT X T E a wa) (hb : VW X T E (.BoolOp .And (b :: rest) pos) wb) : VW X T E (.BoolOp .And (a :: b :: rest) pos) (tAndV wa wb) := pw_weak (pw_and ha hb) fun _ _ _ h => rd_and h
theorem vw_or (ha : VT X T E a wa) (hb : VW X T E (.BoolOp .Or (b :: rest) pos) wb) : VW X T E (.BoolOp .Or (a :: b :: rest) pos) (tOrV wa wb) := pw_weak (pw_or ha hb) fun _ _ _ h => rd_or h
theorem VW.vt (h : VW X T E a wa) : VT X T E a wa := PW.pt h
theorem vt_not (ha : VT X T E a wa) : VT X T E (.UnaryOp .Not a pos) (tNotV wa) := pt_weak (pt_not ha) fun σ H Q h => by
  obtain ⟨Z, ι, env, st, s, re, p⟩ := h
  exact ⟨Z, ι, env, st, s, re, (Post.bind p).imp fun b st1 H1 Z1 ι1 l1 s1 p1 => p1 H1 Z1 ι1 Le.refl s1⟩
/-- .. as values -/
def eAnd (p q : TEv) : TEv := fun env st => (p env st).bind fun w st1 => (asB w st1).bind fun b st2 => if b = true then q env st2 else .ok (.f (.bl false)) st2
def eOr (p q : TEv) : TEv := fun env st => (p env st).bind fun w st1 => (asB w st1).bind fun b st2 => if b = true then .ok (.f (.bl true)) st2 else q env st2
def eNot (p : TEv) : TEv := fun env st => (p env st).bind fun w st1 => (asB w st1).bind fun b st2 => .ok (.f (.bl (!b))) st2
theorem asB_ok {K : PySem.W.Frag} {Z : Hp} {ι : List Addr} {w : W} {v : V} {st : Store} {β : Type} {f : Bool → Store → Res β} {k : β → Store → Hp → Hp → List Addr → Prop} (rv : RepW K T Z ι v w) (h : Post K T E Z ι ((asB w st).bind f) k) : ∃ b, w = .f (.bl b) ∧ v = .bl b ∧ Post K T E Z ι (f b st) k := by
  unfold asB at h
  cases q : toB w with
  | none => rw [q] at h; exact h.elim
  | some b =>
    rw [q] at h
    cases toB_some q
    cases rv with
    | f rv => cases rv; exact ⟨b, rfl, rfl, h⟩
theorem ve_one {op : BoolOp} (h : VE X T E a ta) : VE X T E (.BoolOp op [a] pos) ta := pe_one h
theorem ve_and (ha : VE X T E a ta) (hb : VE X T E (.BoolOp .And (b :: rest) pos) tb) : VE X T E (.BoolOp .And (a :: b :: rest) pos) (eAnd ta tb) := pe_weak (pe_and ha hb) fun σ H Q h => by
  obtain ⟨Z, ι, env, st, s, re, p⟩ := h
  refine ⟨Z, ι, env, st, s, re, (Post.bind p).imp fun w st1 H1 Z1 ι1 l1 s1 p1 v rv => ?_⟩
  obtain ⟨b, rfl, rfl, p2⟩ := asB_ok rv p1
  refine ⟨b, rfl, ?_⟩
  cases b with
  | true => exact ⟨Z1, ι1, env, st1, s1, re.mono l1, p2⟩
  | false => exact p2 H1 Z1 ι1 Le.refl s1 _ (.f (.bl false))
theorem ve_or (ha : VE X T E a ta) (hb : VE X T E (.BoolOp .Or (b :: rest) pos) tb) : VE X T E (.BoolOp .Or (a :: b :: rest) pos) (eOr ta tb) := pe_weak (pe_or ha hb) fun σ H Q h => by
  obtain ⟨Z, ι, env, st, s, re, p⟩ := h
  refine ⟨Z, ι, env, st, s, re, (Post.bind p).imp fun w st1 H1 Z1 ι1 l1 s1 p1 v rv => ?_⟩
  obtain ⟨b, rfl, rfl, p2⟩ := asB_ok rv p1
  refine ⟨b, rfl, ?_⟩
  cases b with
  | false => exact ⟨Z1, ι1, env, st1, s1, re.mono l1, p2⟩
  | true => exact p2 H1 Z1 ι1 Le.refl s1 _ (.f (.bl true))
theorem ve_not (ha : VE X T E a ta) : VE X T E (.UnaryOp .Not a pos) (eNot ta) := pe_weak (pe_not ha) fun σ H Q h => by
  obtain ⟨Z, ι, env, st, s, re, p⟩ := h
  refine ⟨Z, ι, env, st, s, re, (Post.bind p).imp fun w st1 H1 Z1 ι1 l1 s1 p1 v rv => ?_⟩
  obtain ⟨b, rfl, rfl, p2⟩ := asB_ok rv p1
  exact ⟨b, rfl, p2 H1 Z1 ι1 Le.refl s1 _ (.f (.bl (!b)))⟩
def eIf (p : TTv) (ta tb : TEv) : TEv := fun env st => (p env st).bind fun b st1 => if b = true then ta env st1 else tb env st1
theorem ve_if (hc : VT X T E c wa) (ha : VE X T E a ta) (hb : VE X T E b tb) : VE X T E (.IfExp c a b pos) (eIf wa ta tb) := pe_weak (pe_ifExp hc ha hb) fun σ H Q h => by
  obtain ⟨Z, ι, env, st, s, re, p⟩ := h
  refine ⟨Z, ι, env, st, s, re, (Post.bind p).imp fun b st1 H1 Z1 ι1 l1 s1 p1 => ?_⟩
  cases b with
  | true => exact ⟨Z1, ι1, env, st1, s1, re.mono l1, p1⟩
  | false => exact ⟨Z1, ι1, env, st1, s1, re.mono l1, p1⟩
/-- a op1 b op2 c -/
def eChain (g g' : F → F → Option F) (ta tb tc : TEv) : TEv := fun env st => (ta env st).bind fun w st1 => (tb env st1).bind fun u st2 => (lk2 g w u st2).bind fun z st3 => (asB z st3).bind fun k st4 => if k = true then (tc env st4).bind fun y st5 => lk2 g' u y st5 else .ok (.f (.bl false)) st4
theorem rd_chain {r r' : R2} {g g' : F → F → Option F} (ho : Op2 X T r g) (ho' : Op2 X T r' g') {σ : L2.St} {H : Hp} {Q : VK} (h : RdE X.K T E (eChain g g' ta tb tc) σ H Q) : tChain r r' (RdE X.K T E ta) (RdE X.K T E tb) (RdE X.K T E tc) σ H Q := by
  obtain ⟨Z, ι, env, st, s, re, p⟩ := h
  refine ⟨Z, ι, env, st, s, re, (Post.bind p).imp fun w st1 H1 Z1 ι1 l1 s1 p1 v rv => ?_⟩
  refine ⟨Z1, ι1, env, st1, s1, re.mono l1, (Post.bind p1).imp fun u st2 H2 Z2 ι2 l2 s2 p2 v2 rv2 => ?_⟩
  have p3 := Post.bind p2
  unfold lk2 at p3
  cases q : look st2 w with
  | none => rw [q] at p3; exact p3.elim
  | some x =>
    rw [q] at p3
    cases q0 : look st2 u with
    | none => rw [q0] at p3; exact p3.elim
    | some y =>
      rw [q0] at p3
      cases q1 : g x y with
      | none => simp only [Option.bind_some, q1] at p3; exact p3.elim
      | some z =>
        simp only [Option.bind_some, q1] at p3
        refine ho Z2 H2 v v2 x y z _ s2.sub ((rv.mono l2).view s2 q) (rv2.view s2 q0) q1 fun v3 H3 Z3 gr rz => ?_
        have p4 := p3 H3 Z3 ι2 gr.le (s2.grow gr)
        obtain ⟨k, e1, e2, p5⟩ := asB_ok (RepW.f rz) p4
        refine ⟨k, e2, ?_⟩
        cases k with
        | false => exact p5 H3 Z3 ι2 Le.refl (s2.grow gr) _ (.f (.bl false))
        | true =>
          have s3 := s2.grow gr
          refine ⟨Z3, ι2, env, st2, s3, (re.mono l1).mono (l2.trans gr.le), (Post.bind p5).imp fun y5 st5 H5 Z5 ι5 l5 s5 p6 v5 rv5 => ?_⟩
          obtain ⟨x', y', z', e1', e2', e3', g'⟩ := lk2_ok s5 p6
          exact ho' Z5 H5 v2 v5 x' y' z' Q s5.sub (((rv2.mono gr.le).mono l5).view s5 e1') (rv5.view s5 e2') e3' g'
theorem ve_chain {op op' : CmpOp} {r r' : R2} {g g' : F → F → Option F} (hr : OpR X (compareOp op) r) (ho : Op2 X T r g) (hr' : OpR X (compareOp op') r') (ho' : Op2 X T r' g') (ha : VE X T E a ta) (hb : VE X T E b tb) (hc : VE X T E c tc) (hm : lastMarks [op, op'] [b, c] = false := by rfl) :
    VE X T E (.Compare a [op, op'] [b, c] pos) (eChain g g' ta tb tc) := pe_weak (pe_chain hr hr' ha hb hc hm) fun _ _ _ h => rd_chain ho ho' h
theorem vt_chain {op op' : CmpOp} {r r' : R2} {g g' : F → F → Option F} (hr : OpR X (compareOp op) r) (ho : Op2 X T r g) (hr' : OpR X (compareOp op') r') (ho' : Op2 X T r' g') (ha : VE X T E a ta) (hb : VE X T E b tb) (hc : VE X T E c tc) (hm : lastMarks [op, op'] [b, c] = false := by rfl) :
    VT X T E (.Compare a [op, op'] [b, c] pos) (tVal (eChain g g' ta tb tc)) := pt_weak (pt_chain hr hr' ha hb hc hm) fun σ H Q h => by
  obtain ⟨Z, ι, env, st, s, re, p⟩ := rd_tval h
  exact rd_chain ho ho' ⟨Z, ι, env, st, s, re, p⟩

/-! ### arguments -/
def aNil : TAv := fun _ st => .ok [] st
def aCons (t : TEv) (r : TAv) : TAv := fun env st => (t env st).bind fun w st1 => (r env st1).bind fun ws st2 => .ok (w :: ws) st2
variable {es : List Expr} {tr : TAv}
theorem va_nil : VA X T E [] aNil := pa_weak pa_nil fun σ H Q h => by
  obtain ⟨Z, ι, env, st, s, re, p⟩ := h
  exact p H Z ι Le.refl s _ .nil
theorem va_cons (ha : VE X T E e te) (hr : VA X T E es tr) (hs : starEach (e :: es) X.env = (false, eval e X.env) :: starEach es X.env := by rfl) : VA X T E (e :: es) (aCons te tr) := pa_weak (pa_cons ha hr hs) fun σ H Q h => by
  obtain ⟨Z, ι, env, st, s, re, p⟩ := h
  refine ⟨Z, ι, env, st, s, re, (Post.bind p).imp fun w st1 H1 Z1 ι1 l1 s1 p1 v rv => ?_⟩
  refine ⟨Z1, ι1, env, st1, s1, re.mono l1, (Post.bind p1).imp fun ws st2 H2 Z2 ι2 l2 s2 p2 vs rvs => ?_⟩
  exact p2 H2 Z2 ι2 Le.refl s2 _ (.cons (rv.mono l2) rvs)
end
end VS

set_option Elab.async false
set_option linter.all false
set_option maxRecDepth 100000
set_option maxHeartbeats 4000000
set_option autoImplicit false
/-! VC: statements, targets, loops, defs. -/
namespace VS
open PySem PySem.Spec PyProof.Rows L2

section
variable {X : Cx} {T : Tab} {E : XK} {a b c e : Expr} {ta tb tc te : TEv} {wa : TTv} {pos : Pos} {s s1 s2 : Stmt} {ss : List Stmt} {u u1 u2 : TSv}
/-! ### blocks -/
def bNil : TSv := fun env st => .nx env st
def bCons (t r : TSv) : TSv := fun env st => match t env st with
  | .nx env1 st1 => r env1 st1
  | x => x
theorem vb_nil : VB X T E [] bNil := pss_weak pss_nil fun D σ H h => by
  obtain ⟨Z, ι, env, st, s, re, p⟩ := h
  exact p σ H Z ι Le.refl s re
theorem vb_cons (h1 : VS X T E s u) (h2 : VB X T E ss u1) : VB X T E (s :: ss) (bCons u u1) := pss_weak (pss_cons h1 h2) fun D σ H h => by
  obtain ⟨Z, ι, env, st, s, re, p⟩ := h
  refine ⟨Z, ι, env, st, s, re, ?_⟩
  unfold bCons at p
  cases q : u env st with
  | nx env1 st1 =>
    rw [q] at p
    exact fun σ' H' Z' ι' l s' re' => ⟨Z', ι', env1, st1, s', re', p.le l⟩
  | rt w st1 => rw [q] at p; exact p
  | bk w st1 => rw [q] at p; exact p
  | ct w st1 => rw [q] at p; exact p
  | exc c fs st1 => rw [q] at p; exact p
  | stuck => rw [q] at p; exact p
theorem vb_one (h1 : VS X T E s u) : VB X T E [s] u := pss_one h1
/-! ### small statements -/
def sNever : TSv := fun _ _ => .stuck
theorem vs_never : VS X T E s sNever := ps_weak ps_never fun D σ H h => by
  obtain ⟨Z, ι, env, st, s, re, p⟩ := h
  exact p
theorem vs_pass : VS X T E (.Pass pos) bNil := ps_weak ps_pass fun D σ H h => by
  obtain ⟨Z, ι, env, st, s, re, p⟩ := h
  exact p σ H Z ι Le.refl s re
def sBreak : TSv := fun env st => .bk env st
theorem vs_break : VS X T E (.Break pos) sBreak := ps_weak ps_break fun D σ H h => by
  obtain ⟨Z, ι, env, st, s, re, p⟩ := h
  exact p σ H Z ι Le.refl s re
def sCont : TSv := fun env st => .ct env st
theorem vs_cont : VS X T E (.Continue pos) sCont := ps_weak ps_continue fun D σ H h => by
  obtain ⟨Z, ι, env, st, s, re, p⟩ := h
  exact p σ H Z ι Le.refl s re
def sExpr (t : TEv) : TSv := fun env st => (t env st).thenS fun _ st1 => .nx env st1
theorem vs_expr (he : VE X T E e te) (hs : swapsWith e none pos.line X.env = pure false := by rfl) : VS X T E (.Expr e pos) (sExpr te) := ps_weak (ps_expr he hs) fun D σ H h => by
  obtain ⟨Z, ι, env, st, s, re, p⟩ := h
  exact ⟨Z, ι, env, st, s, re, (PostS.thenS p).imp fun w st1 H1 Z1 ι1 l1 s1 p1 v rv => p1 σ H1 Z1 ι1 Le.refl s1 (re.mono l1)⟩
def sRet (t : TEv) : TSv := fun env st => (t env st).thenS fun w st1 => .rt w st1
theorem vs_ret (he : VE X T E e te) : VS X T E (.Return (some e) pos) (sRet te) := ps_weak (ps_ret he) fun D σ H h => by
  obtain ⟨Z, ι, env, st, s, re, p⟩ := h
  exact ⟨Z, ι, env, st, s, re, (PostS.thenS p).imp fun w st1 H1 Z1 ι1 l1 s1 p1 v rv => p1 v H1 Z1 ι1 Le.refl s1 rv⟩
def sRetN : TSv := fun _ st => .rt (.f .non) st
theorem vs_retN : VS X T E (.Return none pos) sRetN := ps_weak ps_retN fun D σ H h => by
  obtain ⟨Z, ι, env, st, s, re, p⟩ := h
  exact p _ H Z ι Le.refl s (.f .non)
def sIf (w : TTv) (t r : TSv) : TSv := fun env st => (w env st).thenS fun b st1 => if b = true then t env st1 else r env st1
theorem vs_if {sa sb : List Stmt} (hc : VT X T E c wa) (ha : VB X T E sa u1) (hb : VB X T E sb u2) : VS X T E (.If c sa sb pos) (sIf wa u1 u2) := ps_weak (ps_if hc ha hb) fun D σ H h => by
  obtain ⟨Z, ι, env, st, s, re, p⟩ := h
  refine ⟨Z, ι, env, st, s, re, (PostS.thenS p).imp fun b st1 H1 Z1 ι1 l1 s1 p1 => ?_⟩
  cases b with
  | true => exact ⟨Z1, ι1, env, st1, s1, re.mono l1, p1⟩
  | false => exact ⟨Z1, ι1, env, st1, s1, re.mono l1, p1⟩
def sSet (i : Nat) (t : TEv) : TSv := fun env st => (t env st).thenS fun w st1 => .nx (env.set i (some w)) st1
theorem vs_set {i : Nat} {x : Str} {pos' : Pos} (hN : X.N.Nodup) (hi : X.N[i]? = some x) (hx : Loc X.env.scope x) (he : VE X T E e te) (hs : swapsWith e (some (.Name x pos')) pos.line X.env = pure false := by rfl) (hf : X.fn x = true ∨ X.env.scope.names.lookup x = some .local := by first | exact .inl rfl | exact .inr rfl | assumption) :
    VS X T E (.Assign [.Name x pos'] e pos) (sSet i te) := ps_weak (ps_set hN hi hx he hs hf) fun D σ H h => by
  obtain ⟨Z, ι, env, st, s, re, p⟩ := h
  exact ⟨Z, ι, env, st, s, re, (PostS.thenS p).imp fun w st1 H1 Z1 ι1 l1 s1 p1 v rv => p1 _ H1 Z1 ι1 Le.refl s1 ((re.mono l1).set rv i)⟩
/-! ### targets -/
abbrev TGv := W → Env → Option Env
abbrev TGsv := List F → Env → Option Env
def RdG (K : PySem.W.Frag) (T : Tab) (g : TGv) : TG := fun v σ H Q => ∃ Z ι env st w env', SimS K T Z ι st H ∧ EnvR K T Z ι σ env ∧ RepW K T Z ι v w ∧ g w env = some env' ∧ ∀ σ', EnvR K T Z ι σ' env' → Q σ' H
def RdGs (K : PySem.W.Frag) (T : Tab) (g : TGsv) : TGs := fun vs σ H Q => ∃ Z ι env st xs env', SimS K T Z ι st H ∧ EnvR K T Z ι σ env ∧ RepFs K T Z vs xs ∧ g xs env = some env' ∧ ∀ σ', EnvR K T Z ι σ' env' → Q σ' H
abbrev VG (X : Cx) (T : Tab) (e : Expr) (g : TGv) : Prop := PG X e (RdG X.K T g)
abbrev VGs (X : Cx) (T : Tab) (es : List Expr) (g : TGsv) : Prop := PGs X es (RdGs X.K T g)
def gNm (i : Nat) : TGv := fun w env => some (env.set i (some w))
def gsNil : TGsv := fun xs env => match xs with
  | [] => some env
  | _ => none
def gsCons (g : TGv) (gs : TGsv) : TGsv := fun xs env => match xs with
  | x :: r => (g (.f x) env).bind fun env1 => gs r env1
  | _ => none
def gTp (gs : TGsv) : TGv := fun w env => match w with
  | .f (.tup xs) => gs xs env
  | _ => none
/-- a list, unpacked -/
def gLs (gs : TGsv) : TGv := fun w env => match w with
  | .f (.lst xs) => gs xs env
  | _ => none
theorem vg_name {i : Nat} {x : Str} (hN : X.N.Nodup) (hi : X.N[i]? = some x) (hx : Loc X.env.scope x) (hf : X.fn x = true ∨ X.env.scope.names.lookup x = some .local := by first | exact .inl rfl | exact .inr rfl | assumption) : VG X T (.Name x pos) (gNm i) := pg_weak (pg_name hN hi hx hf) fun v σ H Q h => by
  obtain ⟨Z, ι, env, st, w, env', s, re, rv, e, k⟩ := h
  cases e
  exact k _ (re.set rv i)
theorem pgs_weak {es : List Expr} {t t' : TGs} (h : PGs X es t) (w : ∀ v σ H Q, t' v σ H Q → t v σ H Q) : PGs X es t' := ⟨fun pins s σ H v u Q I r q => h.run pins s σ H v u Q I r (w v σ H Q q)⟩
theorem vgs_nil : VGs X T [] gsNil := pgs_weak pgs_nil fun vs σ H Q h => by
  obtain ⟨Z, ι, env, st, xs, env', s, re, rv, e, k⟩ := h
  cases rv with
  | nil => cases e; exact ⟨rfl, k _ re⟩
  | cons _ _ => cases e
theorem vgs_cons {es : List Expr} {g : TGv} {gs : TGsv} (h1 : VG X T e g) (h2 : VGs X T es gs)
    (hs : (assignEach (e :: es) X.env).map (·.2) = assign e X.env :: (assignEach es X.env).map (·.2) := by rfl) : VGs X T (e :: es) (gsCons g gs) := pgs_weak (pgs_cons h1 h2 hs) fun vs σ H Q h => by
  obtain ⟨Z, ι, env, st, xs, env', s, re, rv, e, k⟩ := h
  cases rv with
  | nil => cases e
  | cons r rr =>
    rename_i v x vs xs
    have e : (g (.f x) env).bind (fun env1 => gs xs env1) = some env' := e
    cases q : g (.f x) env with
    | none => rw [q] at e; cases e
    | some env1 =>
      rw [q] at e
      exact ⟨_, _, rfl, Z, ι, env, st, _, env1, s, re, .f r, q, fun σ' re' => ⟨Z, ι, env1, st, xs, env', s, re', rr, e, k⟩⟩
theorem gs_len {es : List Expr} {gs : TGsv} {n : Nat} (hl : ∀ xs env env', gs xs env = some env' → xs.length = n) : True := trivial
theorem vg_tup {es : List Expr} {k : Nat} {gs : TGsv} {n : Nat} (hc : X.calm = true) (h : VGs X T es gs) (hl : ∀ xs env env', gs xs env = some env' → xs.length = n)
    (hn : (assignEach es X.env).length = n := by rfl) (hst : (assignEach es X.env).findIdx? (·.1) = none := by rfl) : VG X T (.Tuple es k pos) (gTp gs) := pg_weak (pg_tup hc h hn hst) fun v σ H Q h => by
  obtain ⟨Z, ι, env, st, w, env', s, re, rv, e, k⟩ := h
  cases rv with
  | loc _ => cases e
  | f r =>
    cases r with
    | tup ht rs => exact ⟨_, _, rfl, same_sqt s.sub ht, by rw [rs.length]; exact hl _ _ _ e, Z, ι, env, st, _, env', s, re, rs, e, k⟩
    | _ => cases e
theorem gsNil_len {xs : List F} {env env' : Env} (h : gsNil xs env = some env') : xs.length = 0 := by
  cases xs with
  | nil => rfl
  | cons _ _ => cases h
theorem gsCons_len {g : TGv} {gs : TGsv} {n : Nat} (hl : ∀ xs env env', gs xs env = some env' → xs.length = n) : ∀ xs env env', gsCons g gs xs env = some env' → xs.length = n + 1 := by
  intro xs env env' h
  cases xs with
  | nil => cases h
  | cons x xs =>
    have h : (g (.f x) env).bind (fun env1 => gs xs env1) = some env' := h
    cases q : g (.f x) env with
    | none => rw [q] at h; cases h
    | some env1 =>
      rw [q] at h
      rw [List.length_cons, hl xs env1 env' h]
def sAsg (t : TEv) (g : TGv) : TSv := fun env st => (t env st).thenS fun w st1 => match g w env with
  | some env1 => .nx env1 st1
  | none => .stuck
theorem vs_asg {tg : Expr} {g : TGv} (he : VE X T E e te) (hg : VG X T tg g) (hs : swapsWithSole [tg] e pos.line X.env = pure false := by rfl) (hw : swappedStores [tg] e X.env = pure none := by rfl)
    (h1 : (assignEach [tg] X.env).map (·.2) = [assign tg X.env] := by rfl) : VS X T E (.Assign [tg] e pos) (sAsg te g) := ps_weak (ps_asg he hg hs hw h1) fun D σ H h => by
  obtain ⟨Z, ι, env, st, s, re, p⟩ := h
  refine ⟨Z, ι, env, st, s, re, (PostS.thenS p).imp fun w st1 H1 Z1 ι1 l1 s1 p1 v rv => ?_⟩
  cases q : g w env with
  | none => rw [q] at p1; exact p1.elim
  | some env1 =>
    rw [q] at p1
    exact ⟨Z1, ι1, env, st1, w, env1, s1, re.mono l1, rv, q, fun σ' re' => p1 σ' H1 Z1 ι1 Le.refl s1 re'⟩
/-- a, b = x, y -/
def sPar2 (i j : Nat) (t : TAv) : TSv := fun env st => (t env st).thenS fun ws st1 => match ws with
  | [w1, w2] => .nx ((env.set i (some w1)).set j (some w2)) st1
  | _ => .stuck
theorem vs_par2 {i j : Nat} {x y : Str} {tr : TAv} {px py pt : Pos} {kt k2 : Nat} {pt2 : Pos} (hc : X.calm = true) (hN : X.N.Nodup) (hi : X.N[i]? = some x) (hj : X.N[j]? = some y) (hij : i ≠ j)
    (hx : X.env.scope.names.lookup x = some .local) (hy : X.env.scope.names.lookup y = some .local) (ha : VA X T E [a, b] tr)
    (hw : swappedStores [.Tuple [.Name x px, .Name y py] kt pt] (.Tuple [a, b] k2 pt2) X.env = pure (some [x, y]))
    (hs : swapsWithSole [.Tuple [.Name x px, .Name y py] kt pt] (.Tuple [a, b] k2 pt2) pos.line X.env = pure false := by rfl) :
    VS X T E (.Assign [.Tuple [.Name x px, .Name y py] kt pt] (.Tuple [a, b] k2 pt2) pos) (sPar2 i j tr) := ps_weak (ps_par hc hN hi hj hij hx hy ha hw hs) fun D σ H h => by
  obtain ⟨Z, ι, env, st, s, re, p⟩ := h
  refine ⟨Z, ι, env, st, s, re, (PostS.thenS p).imp fun ws st1 H1 Z1 ι1 l1 s1 p1 vs rvs => ?_⟩
  cases rvs with
  | nil => exact p1.elim
  | cons r1 t1 =>
    cases t1 with
    | nil => exact p1.elim
    | cons r2 t2 =>
      cases t2 with
      | cons _ _ => exact p1.elim
      | nil => exact ⟨_, _, rfl, p1 _ H1 Z1 ι1 Le.refl s1 (((re.mono l1).set r1 i).set r2 j)⟩
/-! ### while -/
def whileF (w : TTv) (t : TSv) : Nat → TSv
  | 0, _, _ => .stuck
  | n + 1, env, st => (w env st).thenS fun k st1 => if k = true then (match t env st1 with
    | .nx env2 st2 => whileF w t n env2 st2
    | .ct env2 st2 => whileF w t n env2 st2
    | .bk env2 st2 => .nx env2 st2
    | r => r) else .nx env st1
theorem vs_while {body : List Stmt} (n : Nat) (hp : PassesOwn (model X.prog X.w) X.A X.env X.xe) (hc : VT X T E c wa) (hb : VB X T E body u) : VS X T E (.While c body [] pos) (whileF wa u n) := ps_weak (ps_while hp hc hb) fun D σ H h => by
  refine ⟨fun m σ H => RdS X.K T E (whileF wa u m) D σ H, ⟨n, h⟩, fun m σ H h => ?_⟩
  obtain ⟨Z, ι, env, st, s, re, p⟩ := h
  cases m with
  | zero => exact p.elim
  | succ m =>
    refine ⟨Z, ι, env, st, s, re, (PostS.thenS p).imp fun k st1 H1 Z1 ι1 l1 s1 p1 => ?_⟩
    cases k with
    | false => exact p1 σ H1 Z1 ι1 Le.refl s1 (re.mono l1)
    | true =>
      refine ⟨fun σ' H' => RdS X.K T E (whileF wa u m) D σ' H', fun σ' H' q => ⟨m, Nat.lt_succ_self m, q⟩, Z1, ι1, env, st1, s1, re.mono l1, ?_⟩
      have p1 : PostS X.K T E Z1 ι1 (match u env st1 with
        | .nx env2 st2 => whileF wa u m env2 st2
        | .ct env2 st2 => whileF wa u m env2 st2
        | .bk env2 st2 => .nx env2 st2
        | r => r) D := p1
      cases q : u env st1 with
      | nx env2 st2 => rw [q] at p1; exact fun σ' H' Z' ι' l s' re' => ⟨Z', ι', env2, st2, s', re', p1.le l⟩
      | ct env2 st2 => rw [q] at p1; exact fun σ' H' Z' ι' l s' re' => ⟨Z', ι', env2, st2, s', re', p1.le l⟩
      | bk env2 st2 => rw [q] at p1; exact p1
      | rt w st1 => rw [q] at p1; exact p1
      | exc c fs st1 => rw [q] at p1; exact p1
      | stuck => rw [q] at p1; exact p1
/-! ### for -/
def Walks (K : PySem.W.Frag) (T : Tab) (Z : Hp) (ι : List Addr) (J : It) (ws : List W) : Prop := ∀ (i : Nat) Z' ι' H' st', Le Z ι Z' ι' → SimS K T Z' ι' st' H' →
  (∀ w, ws[i]? = some w → J.go i H' ∧ ∀ x H2, J.yld i H' x H2 → ∃ Z2, Grow Z' H' Z2 H2 ∧ RepW K T Z2 ι' x w) ∧ (ws[i]? = none → J.stop i H')
abbrev TIv := Env → Store → Res (List W)
def RdI (K : PySem.W.Frag) (T : Tab) (E : XK) (t : TIv) : TI := fun σ H R => ∃ Z ι env st, SimS K T Z ι st H ∧ EnvR K T Z ι σ env ∧ Post K T E Z ι (t env st) fun ws _ H' Z' ι' => ∀ J, Walks K T Z' ι' J ws → R J H'
abbrev VI (X : Cx) (T : Tab) (E : XK) (tg e : Expr) (t : TIv) : Prop := PI X tg e (RdI X.K T E t)
def forL (g : TGv) (t : TSv) : List W → TSv
  | [], env, st => .nx env st
  | w :: ws, env, st => match g w env with
    | none => .stuck
    | some env1 => match t env1 st with
      | .nx env2 st2 => forL g t ws env2 st2
      | .ct env2 st2 => forL g t ws env2 st2
      | .bk env2 st2 => .nx env2 st2
      | r => r
def sFor (ti : TIv) (g : TGv) (t : TSv) : TSv := fun env st => (ti env st).thenS fun ws st1 => forL g t ws env st1
theorem vs_for {tg iter : Expr} {body : List Stmt} {ti : TIv} {g : TGv} (hp : PassesOwn (model X.prog X.w) X.A X.env X.xe) (hc : X.calm = true) (hi : VI X T E tg iter ti) (hg : VG X T tg g) (hb : VB X T E body u)
    (hs : ∀ x, foldedSetIterable iter X.env x = pure x := by intro _; rfl) : VS X T E (.For tg iter body [] pos) (sFor ti g u) := ps_weak (ps_for hp hc hi hg hb hs) fun D σ H h => by
  obtain ⟨Z, ι, env, st, s, re, p⟩ := h
  refine ⟨Z, ι, env, st, s, re, (PostS.thenS p).imp fun ws st1 H1 Z1 ι1 l1 s1 p1 J wk => ?_⟩
  refine ⟨fun i m σ H => ∃ Z ι env st, Le Z1 ι1 Z ι ∧ SimS X.K T Z ι st H ∧ EnvR X.K T Z ι σ env ∧ m = ws.length - i ∧ PostS X.K T E Z ι (forL g u (ws.drop i) env st) D,
    ⟨ws.length, Z1, ι1, env, st1, Le.refl, s1, re.mono l1, by simp, p1⟩, fun i m σ H h => ?_⟩
  obtain ⟨Z2, ι2, env2, st2, l2, s2, re2, hm, p2⟩ := h
  have wki := wk i Z2 ι2 H st2 l2 s2
  by_cases hlt : i < ws.length
  · have e : ws[i]? = some ws[i] := by simp [hlt]
    have ed : ws.drop i = ws[i] :: ws.drop (i + 1) := (List.drop_eq_getElem_cons hlt)
    rw [ed] at p2
    obtain ⟨go, yl⟩ := wki.1 _ e
    refine .inr ⟨go, fun σ' H' => ∃ Z ι env st, Le Z1 ι1 Z ι ∧ SimS X.K T Z ι st H' ∧ EnvR X.K T Z ι σ' env ∧ PostS X.K T E Z ι (forL g u (ws.drop (i + 1)) env st) D,
      fun σ' H' ⟨Z, ι, env, st, l, s, r, p⟩ => ⟨ws.length - (i + 1), by omega, Z, ι, env, st, l, s, r, rfl, p⟩, fun x H' y => ?_⟩
    obtain ⟨Z3, gr, rx⟩ := yl x H' y
    have p2 : PostS X.K T E Z2 ι2 (match g ws[i] env2 with
      | none => .stuck
      | some env1 => match u env1 st2 with
        | .nx env2 st2 => forL g u (ws.drop (i + 1)) env2 st2
        | .ct env2 st2 => forL g u (ws.drop (i + 1)) env2 st2
        | .bk env2 st2 => .nx env2 st2
        | r => r) D := p2
    cases q : g ws[i] env2 with
    | none => rw [q] at p2; exact p2.elim
    | some env3 =>
      rw [q] at p2
      refine ⟨Z3, ι2, env2, st2, _, env3, s2.grow gr, re2.mono gr.le, rx, q, fun σ4 re4 => ?_⟩
      refine ⟨Z3, ι2, env3, st2, s2.grow gr, re4, ?_⟩
      cases q2 : u env3 st2 with
      | nx env5 st5 => simp only [q2] at p2; exact fun σ' H' Z' ι' l s' re' => ⟨Z', ι', env5, st5, (l2.trans gr.le).trans l, s', re', p2.le (gr.le.trans l)⟩
      | ct env5 st5 => simp only [q2] at p2; exact fun σ' H' Z' ι' l s' re' => ⟨Z', ι', env5, st5, (l2.trans gr.le).trans l, s', re', p2.le (gr.le.trans l)⟩
      | bk env5 st5 => simp only [q2] at p2; exact p2.le gr.le
      | rt w st5 => simp only [q2] at p2; exact p2.le gr.le
      | exc c fs st5 => simp only [q2] at p2; exact p2.le gr.le
      | stuck => simp only [q2] at p2; exact p2
  · have ed : ws.drop i = [] := by simp; omega
    rw [ed] at p2
    exact .inl ⟨wki.2 (by simp; omega), p2 σ H Z2 ι2 Le.refl s2 re2⟩
/-! ### a def -/
abbrev FnM := List W → Store → Res W
def spV (K : PySem.W.Frag) (T : Tab) (n : Nat) (m : FnM) : Sp := fun vs H Q E => ∃ Z ι ws st, SimS K T Z ι st H ∧ RepWs K T Z ι vs ws ∧ ws.length = n ∧ Post K T E Z ι (m ws st) fun w _ H' Z' ι' => ∀ v, RepW K T Z' ι' v w → Q v H'
/-- what a call leaves of the store: its own cells are dropped, a list that it hands back stands last -/
def retC (b n : Nat) (st : Store) : Option Cell → Res W
  | some c => if c.below b = true then .ok (.loc b) (st.take b ++ [c]) else .ok (.loc n) st
  | none => .ok (.loc n) st
def retW (b : Nat) (w : W) (st : Store) : Res W := match clean b (st.take b) with
  | false => .ok w st
  | true => match w with
    | .f x => .ok (.f x) (st.take b)
    | .loc n => if n < b then .ok (.loc n) (st.take b) else retC b n st st[n]?
def runFn (n : Nat) (t : TSv) : FnM := fun ws st => match t (ws.map some ++ List.replicate (n - ws.length) none) st with
  | .rt w st1 => retW st.length w st1
  | .nx _ st1 => retW st.length (.f .non) st1
  | .exc c fs st1 => .exc c fs st1
  | _ => .stuck
/-- one cell kept behind a cut -/
theorem SimS.cutTo {K : PySem.W.Frag} {Z H : Hp} {ι : List Addr} {st : Store} {b n : Nat} {a : Addr} {c : Cell} (s : SimS K T Z ι st H) (hb : b ≤ st.length) (h : clean b (st.take b) = true) (hn : b ≤ n) (hi : ι[n]? = some a) (hc : st[n]? = some c) (hl : c.below b = true) :
    SimS K T Z (ι.take b ++ [a]) (st.take b ++ [c]) H := by
  have s0 := s.cut h
  have l : Le Z (ι.take b) Z (ι.take b ++ [a]) := ⟨Same.refl Z, fun _ _ h => get_app h⟩
  have g : Grow Z H Z H := Grow.refl s.sub
  have hlen : (ι.take b).length = b := by rw [List.length_take, s.len]; omega
  have na : a ∉ ι.take b := fun hm => by
    obtain ⟨m, hm1, e⟩ := List.getElem_of_mem hm
    rw [List.getElem_take] at e
    obtain ⟨l2, e2⟩ := List.getElem?_eq_some_iff.mp hi
    have := (List.getElem_inj s.nd).mp (e.trans e2.symm)
    omega
  refine ⟨s.sub, by simp [s.len], ?_, fun m a' d h1 h2 => ?_, fun a' ha => ?_⟩
  · rw [List.nodup_append]
    exact ⟨s0.nd, by simp, fun x hx y hy => by simp at hy; subst hy; exact fun e => na (e ▸ hx)⟩
  · rcases get_app_cases h1 with h1 | ⟨rfl, rfl⟩
    · rcases get_app_cases h2 with h2 | ⟨rfl, rfl⟩
      · exact (s0.cell m a' d h1 h2).grow g l
      · exact absurd (List.getElem?_eq_some_iff.mp h1).1 (by rw [s0.len]; omega)
    · rcases get_app_cases h2 with h2 | ⟨_, rfl⟩
      · exact absurd (List.getElem?_eq_some_iff.mp h2).1 (by rw [s0.len]; omega)
      · have q := s.cell n a' d hi hc
        cases d with
        | dead => trivial
        | lstF xs => exact q
        | dct xs => exact q
        | lstW xs => obtain ⟨n, vs, e, r⟩ := q; exact ⟨n, vs, e, (r.cut hl).mono l⟩
        | ins c fs => obtain ⟨n, dx, fvs, e, hk, r⟩ := q; exact ⟨n, dx, fvs, e, hk, (r.cut hl).mono l⟩
  · rcases List.mem_append.mp ha with ha | ha
    · exact s0.there a' ha
    · simp at ha
      subst ha
      exact s.there _ (List.mem_of_getElem? hi)
theorem retW_ok {K : PySem.W.Frag} {Z Z' H' : Hp} {ι ι' : List Addr} {st' : Store} {w : W} {v : V} {Q : VK} {b : Nat} (hb : ι.length = b) (l : Le Z ι Z' ι') (s : SimS K T Z' ι' st' H') (r : RepW K T Z' ι' v w)
    (h : Post K T E Z ι (retW b w st') fun w _ H' Z' ι' => ∀ v, RepW K T Z' ι' v w → Q v H') : Q v H' := by
  have hle : b ≤ st'.length := by
    rw [← s.len]
    by_cases h0 : b = 0
    · omega
    · have : ι[b - 1]? = some ι[b - 1] := by simp
      have := (List.getElem?_eq_some_iff.mp (l.i _ _ this)).1
      omega
  have lc : Le Z ι Z' (ι'.take b) := l.cut (by omega)
  have hlen : (ι'.take b).length = b := by rw [List.length_take, s.len]; omega
  unfold retW at h
  cases q : clean b (st'.take b) with
  | false => rw [q] at h; exact h H' Z' ι' l s v r
  | true =>
    rw [q] at h
    cases r with
    | f r => exact h H' Z' _ lc (s.cut q) v (.f r)
    | loc e =>
      rename_i a n
      have h : Post K T E Z ι (if n < b then Res.ok (W.loc n) (st'.take b) else retC b n st' st'[n]?) _ := h
      by_cases hn : n < b
      · rw [if_pos hn] at h
        exact h H' Z' _ lc (s.cut q) _ (.loc (by rw [List.getElem?_take_of_lt hn]; exact e))
      · rw [if_neg hn] at h
        cases qc : st'[n]? with
        | none => rw [qc] at h; exact h H' Z' ι' l s _ (.loc e)
        | some c =>
          rw [qc] at h
          unfold retC at h
          by_cases hx : c.below b = true
          · simp only [hx, if_true] at h
            exact h H' Z' (ι'.take b ++ [a]) (lc.trans ⟨Same.refl _, fun _ _ h => get_app h⟩) (s.cutTo hle q (by omega) e qc hx) _ (.loc (by rw [List.getElem?_append_right (by omega), hlen]; simp))
          · simp only [hx] at h
            exact h H' Z' ι' l s _ (.loc e)
theorem env_start {K : PySem.W.Frag} {Z : Hp} {ι : List Addr} {N : List Str} {vs : List V} {ws : List W} (r : RepWs K T Z ι vs ws) : EnvR K T Z ι (L2.start N vs) (ws.map some ++ List.replicate (N.length - ws.length) none) := by
  refine ⟨by unfold L2.start; simp [r.length], fun i w h => ?_⟩
  by_cases hi : i < ws.length
  · rw [List.getElem?_append_left (by simp; exact hi), List.getElem?_map] at h
    have hw : ws[i]? = some w := by
      cases q : ws[i]? with
      | none => rw [q] at h; cases h
      | some u => rw [q] at h; simp at h; rw [h]
    obtain ⟨v, e, rv⟩ := r.get hw
    refine ⟨v, ?_, rv⟩
    unfold L2.start
    rw [List.getElem?_append_left (by simp; rw [r.length]; exact hi), List.getElem?_map, e]
    rfl
  · rw [List.getElem?_append_right (by simp; omega)] at h
    have := List.mem_of_getElem? h
    rw [List.mem_replicate] at this
    cases this.2
theorem rd_fn {K : PySem.W.Frag} {N : List Str} {n : Nat} {vs : List V} {H : Hp} {Q : VK} {t : TSv} (h : spV K T n (runFn N.length t) vs H Q E) : RdS K T E t { nx := fun _ H' => Q .non H', rt := Q } (L2.start N vs) H := by
  obtain ⟨Z, ι, ws, st, s, r, hl, p⟩ := h
  refine ⟨Z, ι, _, st, s, env_start (N := N) r, ?_⟩
  unfold runFn at p
  cases q : t (ws.map some ++ List.replicate (N.length - ws.length) none) st with
  | nx env1 st1 => simp only [q] at p; exact fun σ' H' Z' ι' l s' _ => retW_ok s.len l s' (.f .non) p
  | rt w st1 => simp only [q] at p; exact fun v H' Z' ι' l s' rv => retW_ok s.len l s' rv p
  | bk env1 st1 => simp only [q] at p; exact p.elim
  | ct env1 st1 => simp only [q] at p; exact p.elim
  | exc c fs st1 => simp only [q] at p; exact p
  | stuck => simp only [q] at p; exact p.elim
end
end VS

set_option Elab.async false
set_option linter.all false
set_option maxRecDepth 100000
set_option maxHeartbeats 4000000
set_option autoImplicit false
/-! VD: defs and their calls, objects, cells that become data. -/
namespace VS
open PySem PySem.Spec PyProof.Rows L2

/-- a def by its body: np parameters, n names -/
def fnM (np n : Nat) (t : TSv) : FnM := fun ws st => if ws.length = np then runFn n t ws st else .stuck
def spM (K : PySem.W.Frag) (T : Tab) (m : FnM) : Sp := fun vs H Q E => ∃ Z ι ws st, SimS K T Z ι st H ∧ RepWs K T Z ι vs ws ∧ Post K T E Z ι (m ws st) fun w _ H' Z' ι' => ∀ v, RepW K T Z' ι' v w → Q v H'
/-- the def at f, called with positional arguments, does m -/
structure Fn (P : Program) (w : World) (K : PySem.W.Frag) (mg : Str → Option Value) (base : Heap) (T : Tab) (CX : CXT) (k : Nat) (f : Addr) (m : FnM) : Prop where
  ex : ∃ (fd : FuncData) (ps : List Str) (ds : List Value) (dvs : List V) (dfs : List F) (m0 : FnM), FnOk P w K mg base CX k f fd ps (spM K T m0) ∧ Binds K fd ps ds ∧ Vals dvs ds ∧ (∀ Z, RepFs K T Z dvs dfs) ∧ m = fun ws st => m0 (ws ++ dfs.map W.f) st
  kp : PySem.W.keepIn K (.ref f) = true
section
variable {P : Program} {w : World} {K : PySem.W.Frag} {mg : Str → Option Value} {base : Heap} {T : Tab} {x qual : Str} {params : Arguments} {body : List Stmt} {scope : Scope} {dvs : List V} {kws : List (Str × V)} {f : Addr} {fd : FuncData} {N ps : List Str} {k : Nat} {t : TSv}
theorem spM_len {np n : Nat} {vs : List V} {H : Hp} {Q : VK} {E : XK} (h : spM K T (fnM np n t) vs H Q E) : vs.length = np := by
  obtain ⟨Z, ι, ws, st, s, r, p⟩ := h
  unfold fnM at p
  by_cases hl : ws.length = np
  · rw [r.length, hl]
  · rw [if_neg hl] at p
    exact p.elim
theorem fn_v0 (F : FunD K x qual params body scope dvs kws f fd) (S : FnScope N ps scope)
    (hb : ∀ (cdv : Value) (A : Around) (outer : List PySem.Env) (s : Shared) (H : Hp) (E E' : XK), Room k (A.deeper (envOfC qual scope s.heap.objs.size f cdv)) → VB (cxOf CX0 P w K mg base N qual scope f cdv A outer s H E).nox T E' body t) :
    FnOk P w K mg base CX0 (k + 1) f fd ps (spM K T (fnM ps.length N.length t)) := by
  refine F.ok S (fun vs H Q E h => spM_len h) (fun cdv A outer s H vs Q E hr h => ⟨_, (hb cdv A outer s H E E hr).nox, ?_⟩)
  refine rd_fn (n := ps.length) ?_
  have hl := spM_len h
  obtain ⟨Z, ι, ws, st, s, r, p⟩ := h
  have hw : ws.length = ps.length := by rw [← r.length]; exact hl
  unfold fnM at p
  rw [if_pos hw] at p
  exact ⟨Z, ι, ws, st, s, r, hw, p⟩
theorem Fn.mono {CX : CXT} {j : Nat} {m : FnM} (F : Fn P w K mg base T CX j f m) (h : j ≤ k) : Fn P w K mg base T CX k f m := by
  obtain ⟨fd, ps, ds, dvs, dfs, m0, F0, b, v, r, e⟩ := F.ex
  exact ⟨⟨fd, ps, ds, dvs, dfs, m0, F0.mono h, b, v, r, e⟩, F.kp⟩
theorem Fn.plain {CX : CXT} {m : FnM} (F : FnOk P w K mg base CX k f fd ps (spM K T m)) (b : Binds K fd ps []) (kp : PySem.W.keepIn K (.ref f) = true) : Fn P w K mg base T CX k f m :=
  ⟨⟨fd, ps, [], [], [], m, F, b, .nil, fun _ => .nil, by simp⟩, kp⟩
theorem Fn.dfl {CX : CXT} {m : FnM} {ds : List Value} {dvs : List V} (dfs : List F) (F : FnOk P w K mg base CX k f fd ps (spM K T m)) (b : Binds K fd ps ds) (v : Vals dvs ds) (r : ∀ Z, RepFs K T Z dvs dfs) (kp : PySem.W.keepIn K (.ref f) = true) :
    Fn P w K mg base T CX k f (fun ws st => m (ws ++ dfs.map W.f) st) := ⟨⟨fd, ps, ds, dvs, dfs, m, F, b, v, r, rfl⟩, kp⟩
theorem RepWs.map_f {Z : Hp} {ι : List Addr} {vs : List V} {xs : List F} (h : RepFs K T Z vs xs) : RepWs K T Z ι vs (xs.map W.f) := RepWs.ofFs h
end

section
variable {X : Cx} {T : Tab} {E : XK} {CX : CXT} {k : Nat} {f C : Addr} {m : FnM} {x mn : Str} {p pos apos pos' : Pos} {e o value : Expr} {es : List Expr} {te to tv : TEv} {tr : TAv}
/-! ### calls -/
def eCall (m : FnM) (t : TAv) : TEv := fun env st => (t env st).bind fun ws st1 => m ws st1
theorem ve_call (F : Fn X.prog X.w X.K X.mg X.base T CX k f m) (hr : Room k X.A) (hg : Gl X x) (hm : X.mg x = some (.ref f)) (hx : Passes CX X E)
    (ha : VA X T E (e :: es) tr) (hdb : (x == ("__debug__" : Str)) = false := by decide) (he : starEach (e :: es) X.env = (false, eval e X.env) :: starEach es X.env := by rfl) (hpl : (backTo pos (starEach es X.env)).any (·.1) = false := by rfl) :
    VE X T E (.Call (.Name x p) (e :: es) [] pos) (eCall m tr) := by
  obtain ⟨fd, ps, ds, dvs, dfs, m0, F0, b, v, r, rfl⟩ := F.ex
  refine pe_weak (pe_call F0 hr hg hm F.kp b v hx ha hdb he hpl) fun σ H Q h => ?_
  obtain ⟨Z, ι, env, st, s, re, p⟩ := h
  exact ⟨Z, ι, env, st, s, re, (Post.bind p).imp fun ws st1 H1 Z1 ι1 l1 s1 p1 vs rvs => ⟨Z1, ι1, _, st1, s1, rvs.append (RepWs.map_f (r Z1)), p1⟩⟩
theorem ve_call0 (F : Fn X.prog X.w X.K X.mg X.base T CX k f m) (hr : Room k X.A) (hg : Gl X x) (hm : X.mg x = some (.ref f)) (hx : Passes CX X E)
    (hdb : (x == ("__debug__" : Str)) = false := by decide) : VE X T E (.Call (.Name x p) [] [] pos) (eCall m aNil) := by
  obtain ⟨fd, ps, ds, dvs, dfs, m0, F0, b, v, r, rfl⟩ := F.ex
  refine pe_weak (pe_call0 F0 hr hg hm F.kp b v hx hdb) fun σ H Q h => ?_
  obtain ⟨Z, ι, env, st, s, re, p⟩ := h
  exact ⟨Z, ι, [] ++ dfs.map W.f, st, s, RepWs.append .nil (RepWs.map_f (r Z)), p⟩
/-! ### objects -/
def Tab.noF (T : Tab) (c : Nat) (m : Str) : Bool := match T.cls[c]? with
  | some ci => ci.flds.all fun i => decide (T.fn i ≠ m)
  | none => false
/-- of which class an object is -/
def clsW (st : Store) : W → Option Nat
  | .f (.obj c _) => some c
  | .loc n => match st[n]? with
    | some (.ins c _) => some c
    | _ => none
  | _ => none
theorem fd_look {K : PySem.W.Frag} (hT : TabOk K T) {Z : Hp} {c i : Nat} {x : F} (hi : T.okf c i = true) : ∀ {fvs : List (Str × V)} {fs : List (Nat × F)}, RepFd K T Z c fvs fs → fs.lookup i = some x → ∃ v, fvs.lookup (T.fn i) = some v ∧ RepF K T Z v x
  | _, _, .nil, h => by cases h
  | _, _, .cons (i := j) (v := v) (x := y) (xs := xs) (vs := vs) hj r t, h => by
    by_cases hij : i = j
    · subst hij
      simp only [List.lookup, beq_self_eq_true] at h
      cases h
      exact ⟨v, by simp [List.lookup], r⟩
    · have e1 : (i == j) = false := beq_eq_false_iff_ne.mpr hij
      simp only [List.lookup, e1] at h
      obtain ⟨v', e, r'⟩ := fd_look hT hi t h
      refine ⟨v', ?_, r'⟩
      have e2 : (T.fn i == T.fn j) = false := by
        refine beq_eq_false_iff_ne.mpr fun q => hij ?_
        have li : i < T.fld.length := by
          unfold Tab.okf at hi
          split at hi
          · rw [Bool.and_eq_true] at hi; exact of_decide_eq_true hi.2
          · cases hi
        have lj : j < T.fld.length := by
          unfold Tab.okf at hj
          split at hj
          · rw [Bool.and_eq_true] at hj; exact of_decide_eq_true hj.2
          · cases hj
        unfold Tab.fn at q
        rw [List.getD_eq_getElem?_getD, List.getD_eq_getElem?_getD, List.getElem?_eq_getElem li, List.getElem?_eq_getElem lj] at q
        exact (List.getElem_inj hT.nodup).mp q
      simp only [List.lookup, e2]
      exact e
theorem wd_look {K : PySem.W.Frag} (hT : TabOk K T) {Z : Hp} {ι : List Addr} {c i : Nat} {x : W} (hi : T.okf c i = true) : ∀ {fvs : List (Str × V)} {fs : List (Nat × W)}, RepWd K T Z ι c fvs fs → fs.lookup i = some x → ∃ v, fvs.lookup (T.fn i) = some v ∧ RepW K T Z ι v x
  | _, _, .nil, h => by cases h
  | _, _, .cons (i := j) (v := v) (x := y) (xs := xs) (vs := vs) hj r t, h => by
    by_cases hij : i = j
    · subst hij
      simp only [List.lookup, beq_self_eq_true] at h
      cases h
      exact ⟨v, by simp [List.lookup], r⟩
    · have e1 : (i == j) = false := beq_eq_false_iff_ne.mpr hij
      simp only [List.lookup, e1] at h
      obtain ⟨v', e, r'⟩ := wd_look hT hi t h
      refine ⟨v', ?_, r'⟩
      have e2 : (T.fn i == T.fn j) = false := by
        refine beq_eq_false_iff_ne.mpr fun q => hij ?_
        have li : i < T.fld.length := by
          unfold Tab.okf at hi
          split at hi
          · rw [Bool.and_eq_true] at hi; exact of_decide_eq_true hi.2
          · cases hi
        have lj : j < T.fld.length := by
          unfold Tab.okf at hj
          split at hj
          · rw [Bool.and_eq_true] at hj; exact of_decide_eq_true hj.2
          · cases hj
        unfold Tab.fn at q
        rw [List.getD_eq_getElem?_getD, List.getD_eq_getElem?_getD, List.getElem?_eq_getElem li, List.getElem?_eq_getElem lj] at q
        exact (List.getElem_inj hT.nodup).mp q
      simp only [List.lookup, e2]
      exact e
theorem fd_okf {K : PySem.W.Frag} {Z : Hp} {c i : Nat} {x : F} : ∀ {fvs : List (Str × V)} {fs : List (Nat × F)}, RepFd K T Z c fvs fs → fs.lookup i = some x → T.okf c i = true
  | _, _, .nil, h => by cases h
  | _, _, .cons (i := j) (xs := xs) hj r t, h => by
    by_cases hij : i = j
    · subst hij; exact hj
    · have e1 : (i == j) = false := beq_eq_false_iff_ne.mpr hij
      simp only [List.lookup, e1] at h
      exact fd_okf t h
theorem wd_okf {K : PySem.W.Frag} {Z : Hp} {ι : List Addr} {c i : Nat} {x : W} : ∀ {fvs : List (Str × V)} {fs : List (Nat × W)}, RepWd K T Z ι c fvs fs → fs.lookup i = some x → T.okf c i = true
  | _, _, .nil, h => by cases h
  | _, _, .cons (i := j) (xs := xs) hj r t, h => by
    by_cases hij : i = j
    · subst hij; exact hj
    · have e1 : (i == j) = false := beq_eq_false_iff_ne.mpr hij
      simp only [List.lookup, e1] at h
      exact wd_okf t h
theorem noF_ne {c i : Nat} {m : Str} (h : T.noF c m = true) (hi : T.okf c i = true) : T.fn i ≠ m := by
  unfold Tab.noF at h
  unfold Tab.okf at hi
  cases q : T.cls[c]? with
  | none => rw [q] at h; cases h
  | some ci =>
    simp only [q] at h hi
    rw [Bool.and_eq_true] at hi
    exact of_decide_eq_true (List.all_eq_true.mp h i (by simpa using hi.1))
theorem fd_no {K : PySem.W.Frag} {Z : Hp} {c : Nat} {m : Str} (h : T.noF c m = true) : ∀ {fvs : List (Str × V)} {fs : List (Nat × F)}, RepFd K T Z c fvs fs → fvs.lookup m = none
  | _, _, .nil => rfl
  | _, _, .cons (i := j) hj r t => by
    have e2 : (m == T.fn j) = false := beq_eq_false_iff_ne.mpr (Ne.symm (noF_ne h hj))
    simp only [List.lookup, e2]
    exact fd_no h t
theorem wd_no {K : PySem.W.Frag} {Z : Hp} {ι : List Addr} {c : Nat} {m : Str} (h : T.noF c m = true) : ∀ {fvs : List (Str × V)} {fs : List (Nat × W)}, RepWd K T Z ι c fvs fs → fvs.lookup m = none
  | _, _, .nil => rfl
  | _, _, .cons (i := j) hj r t => by
    have e2 : (m == T.fn j) = false := beq_eq_false_iff_ne.mpr (Ne.symm (noF_ne h hj))
    simp only [List.lookup, e2]
    exact wd_no h t
/-- an object as it stands in the heap -/
theorem obj_at {K : PySem.W.Frag} {Z H : Hp} {ι : List Addr} {st : Store} {v : V} {w : W} {c : Nat} (s : SimS K T Z ι st H) (r : RepW K T Z ι v w) (h : clsW st w = some c) :
    ∃ a dx fvs, v = .ref a ∧ H a = some (.ins (T.ca K c) dx fvs) ∧ (T.cls[c]?).isSome = true ∧ ∀ m, T.noF c m = true → fvs.lookup m = none := by
  cases r with
  | f r =>
    cases r with
    | obj e hc rd => cases h; exact ⟨_, _, _, rfl, s.sub _ _ e, hc, fun m hm => fd_no hm rd⟩
    | _ => cases h
  | loc e =>
    rename_i a n
    have h : (match st[n]? with
      | some (.ins c _) => some c
      | _ => none) = some c := h
    cases q : st[n]? with
    | none => rw [q] at h; cases h
    | some cl =>
      have k := s.cell n a cl e q
      cases cl with
      | ins c' fs =>
        rw [q] at h; cases h
        obtain ⟨_, dx, fvs, e1, hc, rd⟩ := k
        exact ⟨a, dx, fvs, rfl, e1, hc, fun m hm => wd_no hm rd⟩
      | dead => rw [q] at h; cases h
      | lstF xs => rw [q] at h; cases h
      | lstW xs => rw [q] at h; cases h
      | dct xs => rw [q] at h; cases h
def attrW (st : Store) (i : Nat) : W → Option W
  | .f (.obj _ fs) => (fs.lookup i).map W.f
  | .loc n => match st[n]? with
    | some (.ins _ fs) => fs.lookup i
    | _ => none
  | _ => none
def ofW (o : Option W) (st : Store) : Res W := match o with
  | some w => .ok w st
  | none => .stuck
def eAttr (i : Nat) (t : TEv) : TEv := fun env st => (t env st).bind fun w st1 => ofW (attrW st1 i w) st1
theorem ve_attr {i : Nat} {fn : Str} (hT : TabOk X.K T) (he : VE X T E e te) (hf : T.fn i = fn) (hb : attributeBase e fn X.env (eval e X.env) = eval e X.env := by rfl) : VE X T E (.Attribute e fn pos) (eAttr i te) := by
  subst hf
  refine pe_weak (pe_fld he hb) fun σ H Q h => ?_
  obtain ⟨Z, ι, env, st, s, re, p⟩ := h
  refine ⟨Z, ι, env, st, s, re, (Post.bind p).imp fun w st1 H1 Z1 ι1 l1 s1 p1 v rv => ?_⟩
  cases q : attrW st1 i w with
  | none => rw [q] at p1; exact p1.elim
  | some u =>
    rw [q] at p1
    have fin : ∀ v', RepW X.K T Z1 ι1 v' u → Q v' H1 := fun v' r' => p1 H1 Z1 ι1 Le.refl s1 v' r'
    cases rv with
    | f r =>
      cases r with
      | obj e hc rd =>
        rename_i a dx fvs c fs
        have q : (fs.lookup i).map W.f = some u := q
        cases q2 : fs.lookup i with
        | none => rw [q2] at q; cases q
        | some y =>
          rw [q2] at q; cases q
          have hi := fd_okf rd q2
          obtain ⟨v', e', r'⟩ := fd_look hT hi rd q2
          exact ⟨a, _, dx, fvs, v', rfl, s1.sub _ _ e, hT.cls c hc, hT.noat c i hi, e', fin _ (.f r')⟩
      | _ => cases q
    | loc e =>
      rename_i a n
      have q : (match st1[n]? with
        | some (.ins _ fs) => fs.lookup i
        | _ => none) = some u := q
      cases q2 : st1[n]? with
      | none => rw [q2] at q; cases q
      | some cl =>
        have k := s1.cell n a cl e q2
        cases cl with
        | ins c fs =>
          rw [q2] at q
          obtain ⟨_, dx, fvs, e1, hc, rd⟩ := k
          have hi := wd_okf rd q
          obtain ⟨v', e', r'⟩ := wd_look hT hi rd q
          exact ⟨a, _, dx, fvs, v', rfl, e1, hT.cls c hc, hT.noat c i hi, e', fin _ r'⟩
        | dead => rw [q2] at q; cases q
        | lstF xs => rw [q2] at q; cases q
        | lstW xs => rw [q2] at q; cases q
        | dct xs => rw [q2] at q; cases q
/-- o.m(..), o of the class c -/
def eMeth (c : Nat) (m : FnM) (to : TEv) (t : TAv) : TEv := fun env st => (to env st).bind fun w st1 => if clsW st1 w = some c then (t env st1).bind fun ws st2 => m (w :: ws) st2 else .stuck
theorem rd_meth {c : Nat} (hn : T.noF c mn = true) {dvs : List V} {dfs : List F} (r : ∀ Z, RepFs X.K T Z dvs dfs) {σ : L2.St} {H : Hp} {Q : VK} (h : RdE X.K T E (eMeth c (fun ws st => m (ws ++ dfs.map W.f) st) to tr) σ H Q) :
    tMeth (T.ca X.K c) mn (spM X.K T m) dvs E (RdE X.K T E to) (RdA X.K T E tr) σ H Q := by
  obtain ⟨Z, ι, env, st, s, re, p⟩ := h
  refine ⟨Z, ι, env, st, s, re, (Post.bind p).imp fun w st1 H1 Z1 ι1 l1 s1 p1 v rv => ?_⟩
  by_cases hc : clsW st1 w = some c
  · rw [if_pos hc] at p1
    obtain ⟨a, dx, fvs, rfl, e1, hcl, no⟩ := obj_at s1 rv hc
    exact ⟨a, dx, fvs, rfl, e1, no mn hn, Z1, ι1, env, st1, s1, re.mono l1, (Post.bind p1).imp fun ws st2 H2 Z2 ι2 l2 s2 p2 vs rvs => ⟨Z2, ι2, _, st2, s2, .cons (rv.mono l2) (rvs.append (RepWs.map_f (r Z2))), p2⟩⟩
  · rw [if_neg hc] at p1
    exact p1.elim
theorem ve_meth {pl : Sem Bool} {c : Nat} (hT : TabOk X.K T) (hc : (T.cls[c]?).isSome = true) (hn : T.noF c mn = true) (ho : VE X T E o to) (hm : Meth X.K (T.ca X.K c) mn f) (F : Fn X.prog X.w X.K X.mg X.base T CX k f m) (hr : Room k X.A) (hx : Passes CX X E) (ha : VA X T E (e :: es) tr)
    (hst : starEach (e :: es) X.env = (false, eval e X.env) :: starEach es X.env := by rfl) (hpl : (backTo pos (starEach es X.env)).any (·.1) = false := by rfl)
    (ht : eval (.Call (.Attribute o mn apos) (e :: es) [] pos) X.env = (do
      let ov ← eval o X.env
      standAt apos.atName
      let (f, first) ← holding [ov] (getMethod ov mn pl)
      callWith pos f first (backTo pos (starEach (e :: es) X.env)) (backToKw pos (keywordEach [] X.env))) := by rfl) :
    VE X T E (.Call (.Attribute o mn apos) (e :: es) [] pos) (eMeth c m to tr) := by
  obtain ⟨fd, ps, ds, dvs, dfs, m0, F0, b, v, r, rfl⟩ := F.ex
  exact pe_weak (pe_meth (pl := pl) ho (hT.cls c hc) hm F0 hr b v hx ha hst hpl ht) fun σ H Q h => rd_meth hn r h
theorem ve_meth0 {pl : Sem Bool} {c : Nat} (hT : TabOk X.K T) (hc : (T.cls[c]?).isSome = true) (hn : T.noF c mn = true) (ho : VE X T E o to) (hm : Meth X.K (T.ca X.K c) mn f) (F : Fn X.prog X.w X.K X.mg X.base T CX k f m) (hr : Room k X.A) (hx : Passes CX X E)
    (ht : eval (.Call (.Attribute o mn apos) [] [] pos) X.env = (do
      let ov ← eval o X.env
      standAt apos.atName
      let (f, first) ← holding [ov] (getMethod ov mn pl)
      callWith pos f first (backTo pos (starEach [] X.env)) (backToKw pos (keywordEach [] X.env))) := by rfl) :
    VE X T E (.Call (.Attribute o mn apos) [] [] pos) (eMeth c m to aNil) := by
  obtain ⟨fd, ps, ds, dvs, dfs, m0, F0, b, v, r, rfl⟩ := F.ex
  refine pe_weak (pe_meth0 (pl := pl) ho (hT.cls c hc) hm F0 hr b v hx ht) fun σ H Q h => ?_
  obtain ⟨Z, ι, env, st, s, re, p⟩ := rd_meth hn r h
  refine ⟨Z, ι, env, st, s, re, p.imp fun w st1 H1 Z1 ι1 l1 s1 p1 v rv => ?_⟩
  obtain ⟨a, dx, fs, e1, e2, e3, Z2, ι2, env2, st2, s2, re2, p2⟩ := p1 v rv
  exact ⟨a, dx, fs, e1, e2, e3, p2 H1 Z2 ι2 Le.refl s2 _ .nil⟩
/-- C(..): a new object, its __init__ does m -/
def eMake (c : Nat) (m : FnM) (t : TAv) : TEv := fun env st => (t env st).bind fun ws st1 => (m (.loc st1.length :: ws) (st1 ++ [.ins c []])).bind fun w st2 => match w with
  | .f .non => .ok (.loc st1.length) st2
  | _ => .stuck
theorem rd_make {K : PySem.W.Frag} {c : Nat} (hc : (T.cls[c]?).isSome = true) {dvs : List V} {dfs : List F} (r : ∀ Z, RepFs K T Z dvs dfs) {Z H : Hp} {ι : List Addr} {st : Store} {ws : List W} {vs : List V} {Q : VK} (s : SimS K T Z ι st H) (rvs : RepWs K T Z ι vs ws)
    (p : Post K T E Z ι ((m (W.loc st.length :: (ws ++ dfs.map W.f)) (st ++ [Cell.ins c []])).bind fun w st2 => match w with
      | .f .non => Res.ok (W.loc st.length) st2
      | _ => Res.stuck) fun w _ H' Z' ι' => ∀ v, RepW K T Z' ι' v w → Q v H') {x dx : Addr} (nx : H x = none) (nd : H dx = none) (ne : dx ≠ x) :
    spM K T m (.ref x :: (vs ++ dvs)) (upd (upd H dx (.own x)) x (.ins (T.ca K c) dx [])) (fun v H2 => v = .non ∧ Q (.ref x) H2) E := by
  have g1 : Grow Z H Z (upd H dx (.own x)) := ⟨Same.refl Z, same_new nd, s.sub.trans (same_new nd), fun _ _ _ => rfl⟩
  have s1 := s.grow g1
  have nx1 : (upd H dx (.own x)) x = none := by rw [upd_ne (Ne.symm ne)]; exact nx
  have hz : Z x = none := free_sub s.sub nx
  have s2 := s1.alloc (c := Cell.ins c []) (o := .ins (T.ca K c) dx []) nx1 ⟨hz, dx, [], upd_same, hc, .nil⟩
  have l2 : Le Z ι Z (ι ++ [x]) := Le.alloc
  have hl : (ι ++ [x])[st.length]? = some x := by rw [List.getElem?_append_right (by rw [s.len]; omega), s.len]; simp
  refine ⟨Z, ι ++ [x], W.loc st.length :: (ws ++ dfs.map W.f), st ++ [Cell.ins c []], s2, .cons (.loc hl) ((rvs.mono l2).append (RepWs.map_f (r Z))), ?_⟩
  refine Post.imp ((Post.bind p).le l2) fun w st3 H3 Z3 ι3 l3 s3 p3 v rv => ?_
  cases rv with
  | loc e => exact p3.elim
  | f rv =>
    cases rv with
    | non =>
      exact ⟨rfl, p3 H3 Z3 ι3 Le.refl s3 _ (.loc (l3.i _ _ hl))⟩
    | _ => exact p3.elim
theorem ve_make {c : Nat} (hc : (T.cls[c]?).isSome = true) (M : Mk X.K (T.ca X.K c) f) (F : Fn X.prog X.w X.K X.mg X.base T CX k f m) (hr : Room (k + 1) X.A) (hg : Gl X x) (hm : X.mg x = some (.ref (T.ca X.K c))) (hx : Passes CX X E)
    (ha : VA X T E (e :: es) tr) (hdb : (x == ("__debug__" : Str)) = false := by decide) (he : starEach (e :: es) X.env = (false, eval e X.env) :: starEach es X.env := by rfl) (hpl : (backTo pos (starEach es X.env)).any (·.1) = false := by rfl) :
    VE X T E (.Call (.Name x p) (e :: es) [] pos) (eMake c m tr) := by
  obtain ⟨fd, ps, ds, dvs, dfs, m0, F0, b, v, r, rfl⟩ := F.ex
  refine pe_weak (pe_make M F0 hr hg hm b v hx ha hdb he hpl) fun σ H Q h => ?_
  obtain ⟨Z, ι, env, st, s, re, p⟩ := h
  refine ⟨Z, ι, env, st, s, re, (Post.bind p).imp fun ws st1 H1 Z1 ι1 l1 s1 p1 vs rvs x dx nx nd ne => ?_⟩
  exact rd_make (m := m0) hc r s1 rvs p1 nx nd ne
theorem ve_make0 {c : Nat} (hc : (T.cls[c]?).isSome = true) (M : Mk X.K (T.ca X.K c) f) (F : Fn X.prog X.w X.K X.mg X.base T CX k f m) (hr : Room (k + 1) X.A) (hg : Gl X x) (hm : X.mg x = some (.ref (T.ca X.K c))) (hx : Passes CX X E)
    (hdb : (x == ("__debug__" : Str)) = false := by decide) : VE X T E (.Call (.Name x p) [] [] pos) (eMake c m aNil) := by
  obtain ⟨fd, ps, ds, dvs, dfs, m0, F0, b, v, r, rfl⟩ := F.ex
  refine pe_weak (pe_make0 M F0 hr hg hm b v hx hdb) fun σ H Q h => ?_
  obtain ⟨Z, ι, env, st, s, re, p⟩ := h
  intro x dx nx nd ne
  exact rd_make (m := m0) (ws := []) hc r s .nil p nx nd ne
/-- self.f = v -/
def putA (i : Nat) (w : W) : List (Nat × W) → List (Nat × W)
  | [] => [(i, w)]
  | (j, u) :: r => if j = i then (i, w) :: r else (j, u) :: putA i w r
def setA (T : Tab) (i : Nat) (w : W) (st : Store) : W → Option Store
  | .loc n => match st[n]? with
    | some (.ins c fs) => if T.okf c i = true ∧ fs.length < 1000 then some (st.set n (.ins c (putA i w fs))) else none
    | _ => none
  | _ => none
def sAttr (T : Tab) (i : Nat) (to tv : TEv) : TSv := fun env st => (tv env st).thenS fun w st1 => (to env st1).thenS fun o st2 => match setA T i w st2 o with
  | some st3 => .nx env st3
  | none => .stuck
theorem okf_lt {c i : Nat} (hi : T.okf c i = true) : i < T.fld.length := by
  unfold Tab.okf at hi
  split at hi
  · rw [Bool.and_eq_true] at hi; exact of_decide_eq_true hi.2
  · cases hi
theorem fn_inj {K : PySem.W.Frag} (hT : TabOk K T) {c i j : Nat} (hi : T.okf c i = true) (hj : T.okf c j = true) (q : T.fn i = T.fn j) : i = j := by
  unfold Tab.fn at q
  rw [List.getD_eq_getElem?_getD, List.getD_eq_getElem?_getD, List.getElem?_eq_getElem (okf_lt hi), List.getElem?_eq_getElem (okf_lt hj)] at q
  exact (List.getElem_inj hT.nodup).mp q
theorem wd_put {K : PySem.W.Frag} (hT : TabOk K T) {Z : Hp} {ι : List Addr} {c i : Nat} {v : V} {w : W} (hi : T.okf c i = true) (rv : RepW K T Z ι v w) : ∀ {fvs : List (Str × V)} {fs : List (Nat × W)}, RepWd K T Z ι c fvs fs → RepWd K T Z ι c (putF (T.fn i) v fvs) (putA i w fs)
  | _, _, .nil => .cons hi rv .nil
  | _, _, .cons (i := j) (v := u) (x := y) (xs := xs) (vs := vs) hj r t => by
    show RepWd K T Z ι c (if T.fn j = T.fn i then _ else _) (if j = i then _ else _)
    by_cases hij : j = i
    · subst hij
      rw [if_pos rfl, if_pos rfl]
      exact .cons hi rv t
    · rw [if_neg hij, if_neg fun q => hij (fn_inj hT hj hi q)]
      exact .cons hj r (wd_put hT hi rv t)
theorem wd_len {K : PySem.W.Frag} {Z : Hp} {ι : List Addr} {c : Nat} : ∀ {fvs : List (Str × V)} {fs : List (Nat × W)}, RepWd K T Z ι c fvs fs → fvs.length = fs.length
  | _, _, .nil => rfl
  | _, _, .cons _ _ t => by rw [List.length_cons, List.length_cons, wd_len t]
theorem setA_ok {K : PySem.W.Frag} (hT : TabOk K T) {Z H : Hp} {ι : List Addr} {st st' : Store} {i : Nat} {v y : V} {w o : W} (s : SimS K T Z ι st H) (ro : RepW K T Z ι v o) (ry : RepW K T Z ι y w) (h : setA T i w st o = some st') :
    ∃ a C dx fs, v = .ref a ∧ H a = some (.ins C dx fs) ∧ Cls K C ∧ NoAttr K C (T.fn i) ∧ fs.length < 1000 ∧ SimS K T Z ι st' (upd H a (.ins C dx (putF (T.fn i) y fs))) := by
  cases ro with
  | f r => cases h
  | loc e =>
    rename_i a n
    have h : (match st[n]? with
      | some (.ins c fs) => if T.okf c i = true ∧ fs.length < 1000 then some (st.set n (.ins c (putA i w fs))) else none
      | _ => none) = some st' := h
    cases q : st[n]? with
    | none => rw [q] at h; cases h
    | some cl =>
      have k := s.cell n a cl e q
      cases cl with
      | ins c fs =>
        rw [q] at h
        obtain ⟨hz, dx, fvs, e1, hc, rd⟩ := k
        by_cases hk : T.okf c i = true ∧ fs.length < 1000
        · have h : (if T.okf c i = true ∧ fs.length < 1000 then some (st.set n (.ins c (putA i w fs))) else none) = some st' := h
          rw [if_pos hk] at h
          cases h
          exact ⟨a, _, dx, fvs, rfl, e1, hT.cls c hc, hT.noat c i hk.1, by rw [wd_len rd]; exact hk.2, s.write e hz ⟨hz, dx, _, upd_same, hc, wd_put hT hk.1 ry rd⟩⟩
        · have h : (if T.okf c i = true ∧ fs.length < 1000 then some (st.set n (.ins c (putA i w fs))) else none) = some st' := h
          rw [if_neg hk] at h
          cases h
      | dead => rw [q] at h; cases h
      | lstF xs => rw [q] at h; cases h
      | lstW xs => rw [q] at h; cases h
      | dct xs => rw [q] at h; cases h
theorem vs_attr {i : Nat} {fn : Str} (hT : TabOk X.K T) (hf : T.fn i = fn) (ho : VE X T E o to) (hv : VE X T E value tv) (hs : swapsWith value (some (.Attribute o fn pos')) pos.line X.env = pure false := by rfl) : VS X T E (.Assign [.Attribute o fn pos'] value pos) (sAttr T i to tv) := by
  subst hf
  refine ps_weak (ps_fld ho hv hs) fun D σ H h => ?_
  obtain ⟨Z, ι, env, st, s, re, p⟩ := h
  refine ⟨Z, ι, env, st, s, re, (PostS.thenS p).imp fun w st1 H1 Z1 ι1 l1 s1 p1 y ry => ?_⟩
  refine ⟨Z1, ι1, env, st1, s1, re.mono l1, (PostS.thenS p1).imp fun o st2 H2 Z2 ι2 l2 s2 p2 v rv => ?_⟩
  cases q : setA T i w st2 o with
  | none => simp only [q] at p2; exact p2.elim
  | some st3 =>
    simp only [q] at p2
    obtain ⟨a, C, dx, fs, e1, e2, e3, e4, e5, s3⟩ := setA_ok hT s2 rv (ry.mono l2) q
    exact ⟨a, C, dx, fs, e1, e2, e3, e4, e5, p2 σ _ Z2 ι2 Le.refl s3 ((re.mono l1).mono l2)⟩
end
end VS

set_option Elab.async false
set_option linter.all false
set_option maxRecDepth 100000
set_option maxHeartbeats 4000000
set_option autoImplicit false
/-! VF: displays, cells that become data, lists that change. -/
namespace VS
open PySem PySem.Spec PyProof.Rows L2

/-! ### cells become data -/
/-- a value as data; only cells from b on are opened -/
def deepF (b : Nat) (st : Store) : Nat → W → Option F
  | _, .f x => some x
  | 0, .loc _ => none
  | n + 1, .loc k => if b ≤ k then (match st[k]? with
    | some (.lstF xs) => some (.lst xs)
    | some (.dct kvs) => some (.dct kvs)
    | some (.lstW ws) => (ws.mapM (deepF b st n)).map F.lst
    | some (.ins c fs) => (fs.mapM fun p => (deepF b st n p.2).map fun x => (p.1, x)).map (F.obj c)
    | _ => none) else none
theorem RepWs.take {K : PySem.W.Frag} {T : Tab} {Z : Hp} {ι : List Addr} : ∀ {vs : List V} {xs : List W} (n : Nat), RepWs K T Z ι vs xs → RepWs K T Z ι (vs.take n) (xs.take n)
  | _, _, 0, _ => .nil
  | _, _, _ + 1, .nil => .nil
  | _, _, n + 1, .cons r t => .cons r (RepWs.take n t)
theorem RepWs.drop {K : PySem.W.Frag} {T : Tab} {Z : Hp} {ι : List Addr} : ∀ {vs : List V} {xs : List W} (n : Nat), RepWs K T Z ι vs xs → RepWs K T Z ι (vs.drop n) (xs.drop n)
  | _, _, 0, r => r
  | _, _, _ + 1, .nil => .nil
  | _, _, n + 1, .cons _ t => RepWs.drop n t
def frz (b : Nat) (w : W) (st : Store) : Res W := match deepF b st 3 w with
  | some x => if clean b (st.take b) = true then .ok (.f x) (st.take b) else .stuck
  | none => .stuck
/-- the value of t as data; the cells that t has made are dropped -/
def eFrz (t : TEv) : TEv := fun env st => (t env st).bind fun w st1 => frz st.length w st1

section
variable {K : PySem.W.Frag} {T : Tab} {Z H : Hp} {ι : List Addr} {st : Store}
/-- the frozen heap with the cells from b on in it -/
def zAll (Z H : Hp) (ι : List Addr) (b : Nat) : Hp := fun a => if a ∈ ι.drop b then H a else Z a
theorem zAll_same (s : SimS K T Z ι st H) (b : Nat) : Same Z (zAll Z H ι b) := fun a o e => by
  unfold zAll
  by_cases h : a ∈ ι.drop b
  · rw [if_pos h]; exact s.sub a o e
  · rw [if_neg h]; exact e
theorem mapM_some {α β : Type} {f : α → Option β} : ∀ {l : List α} {m : List β}, l.mapM f = some m → l.length = m.length ∧ ∀ (i : Nat) x y, l[i]? = some x → m[i]? = some y → f x = some y
  | [], m, h => by
    simp [List.mapM_nil] at h
    subst h
    exact ⟨rfl, fun i x y h => by simp at h⟩
  | x :: l, m, h => by
    rw [List.mapM_cons] at h
    cases q : f x with
    | none => rw [q] at h; cases h
    | some y =>
      rw [q] at h
      cases q2 : l.mapM f with
      | none => simp [q2] at h
      | some m' =>
        simp [q2] at h
        subst h
        obtain ⟨h1, h2⟩ := mapM_some q2
        refine ⟨by simp [h1], fun i x' y' e1 e2 => ?_⟩
        cases i with
        | zero => simp at e1 e2; subst e1 e2; exact q
        | succ i => exact h2 i x' y' (by simpa using e1) (by simpa using e2)
theorem RepFs.of_get : ∀ {vs : List V} {xs : List F}, vs.length = xs.length → (∀ (i : Nat) v x, vs[i]? = some v → xs[i]? = some x → RepF K T Z v x) → RepFs K T Z vs xs
  | [], [], _, _ => .nil
  | [], _ :: _, h, _ => by simp at h
  | _ :: _, [], h, _ => by simp at h
  | v :: vs, x :: xs, h, k => .cons (k 0 v x rfl rfl) (RepFs.of_get (by simpa using h) fun i v' x' e1 e2 => k (i + 1) v' x' (by simpa using e1) (by simpa using e2))
theorem deep_fd {b : Nat} {n : Nat} (ih : ∀ {v : V} {w : W} {x : F}, RepW K T Z ι v w → deepF b st n w = some x → RepF K T (zAll Z H ι b) v x) : ∀ {c : Nat} {fvs : List (Str × V)} {fs : List (Nat × W)} {xs : List (Nat × F)}, RepWd K T Z ι c fvs fs →
    (fs.mapM fun p => (deepF b st n p.2).map fun x => (p.1, x)) = some xs → RepFd K T (zAll Z H ι b) c fvs xs
  | _, _, _, _, .nil, h => by
    simp [List.mapM_nil] at h
    subst h
    exact .nil
  | _, _, _, _, .cons (i := i) (x := w) (xs := fs) hi r t, h => by
    rw [List.mapM_cons] at h
    cases q : deepF b st n w with
    | none => simp [q] at h
    | some y =>
      cases q2 : (fs.mapM fun p => (deepF b st n p.2).map fun x => (p.1, x)) with
      | none => simp [q2] at h
      | some m' =>
        simp [q, q2] at h
        subst h
        exact .cons hi (ih r q) (deep_fd ih t q2)
theorem deepF_ok (s : SimS K T Z ι st H) (b : Nat) : ∀ (n : Nat) {v : V} {w : W} {x : F}, RepW K T Z ι v w → deepF b st n w = some x → RepF K T (zAll Z H ι b) v x := by
  have hs := zAll_same s b
  have at_ : ∀ {k : Nat} {a : Addr}, b ≤ k → ι[k]? = some a → zAll Z H ι b a = H a := fun {k a} hb e => by
    unfold zAll
    rw [if_pos]
    refine List.mem_of_getElem? (i := k - b) ?_
    rw [List.getElem?_drop, show b + (k - b) = k by omega]
    exact e
  intro n
  induction n with
  | zero =>
    intro v w x r h
    cases r with
    | f r => cases h; exact r.mono hs
    | loc e => cases h
  | succ n ih =>
    intro v w x r h
    cases r with
    | f r => cases h; exact r.mono hs
    | loc e =>
      rename_i a k
      unfold deepF at h
      by_cases hb : b ≤ k
      · rw [if_pos hb] at h
        have ha := at_ hb e
        cases q : st[k]? with
        | none => rw [q] at h; cases h
        | some cl =>
          have kk := s.cell k a cl e q
          cases cl with
          | dead => rw [q] at h; cases h
          | lstF xs => rw [q] at h; cases h; obtain ⟨_, vs, e1, r1⟩ := kk; exact .lst (ha.trans e1) (r1.mono hs)
          | dct xs => rw [q] at h; cases h; obtain ⟨_, vs, e1, r1⟩ := kk; exact .dct (ha.trans e1) (r1.mono hs)
          | lstW ws =>
            rw [q] at h
            obtain ⟨_, vs, e1, r1⟩ := kk
            have h : (ws.mapM (deepF b st n)).map F.lst = some x := h
            cases q2 : ws.mapM (deepF b st n) with
            | none => rw [q2] at h; cases h
            | some xs =>
              rw [q2] at h; cases h
              obtain ⟨hl, hk⟩ := mapM_some q2
              refine .lst (ha.trans e1) (RepFs.of_get (by rw [r1.length, hl]) fun i v' x' e2 e3 => ?_)
              have hlt : i < ws.length := by rw [hl]; exact (List.getElem?_eq_some_iff.mp e3).1
              have e4 : ws[i]? = some ws[i] := by simp [hlt]
              obtain ⟨v2, e5, r5⟩ := r1.get e4
              rw [e2] at e5; cases e5
              exact ih r5 (hk i _ _ e4 e3)
          | ins c fs =>
            rw [q] at h
            obtain ⟨_, dx, fvs, e1, hc, r1⟩ := kk
            have h : (fs.mapM fun p => (deepF b st n p.2).map fun x => (p.1, x)).map (F.obj c) = some x := h
            cases q2 : (fs.mapM fun p => (deepF b st n p.2).map fun x => (p.1, x)) with
            | none => rw [q2] at h; cases h
            | some xs =>
              rw [q2] at h; cases h
              exact .obj (ha.trans e1) hc (deep_fd ih r1 q2)
      · rw [if_neg hb] at h; cases h
theorem SimS.zall (s : SimS K T Z ι st H) {b : Nat} (h : clean b (st.take b) = true) : SimS K T (zAll Z H ι b) (ι.take b) (st.take b) H := by
  have hs := zAll_same s b
  have s0 := s.cut h
  have l : Le Z (ι.take b) (zAll Z H ι b) (ι.take b) := ⟨hs, fun _ _ h => h⟩
  have hz : ∀ a, a ∈ ι.take b → zAll Z H ι b a = Z a := fun a ha => by
    unfold zAll
    rw [if_neg]
    intro hd
    have nd := s.nd
    rw [← List.take_append_drop b ι, List.nodup_append] at nd
    exact nd.2.2 a ha a hd rfl
  refine ⟨fun a o e => ?_, s0.len, s0.nd, fun n a c h1 h2 => ?_, s0.there⟩
  · unfold zAll at e
    by_cases hd : a ∈ ι.drop b
    · rw [if_pos hd] at e; exact e
    · rw [if_neg hd] at e; exact s.sub a o e
  · have k := s0.cell n a c h1 h2
    have hza := hz a (List.mem_of_getElem? h1)
    cases c with
    | dead => trivial
    | lstF xs => obtain ⟨n, vs, e, r⟩ := k; exact ⟨hza.trans n, vs, e, r.mono hs⟩
    | lstW xs => obtain ⟨n, vs, e, r⟩ := k; exact ⟨hza.trans n, vs, e, r.mono l⟩
    | dct xs => obtain ⟨n, vs, e, r⟩ := k; exact ⟨hza.trans n, vs, e, r.mono hs⟩
    | ins c fs => obtain ⟨n, dx, fvs, e, hk, r⟩ := k; exact ⟨hza.trans n, dx, fvs, e, hk, r.mono l⟩
theorem frz_ok {E : XK} {Z0 : Hp} {ι0 : List Addr} {b : Nat} {w : W} {v : V} {Q : VK} (hb : ι0.length = b) (l : Le Z0 ι0 Z ι) (s : SimS K T Z ι st H) (r : RepW K T Z ι v w)
    (h : Post K T E Z0 ι0 (frz b w st) fun w _ H' Z' ι' => ∀ v, RepW K T Z' ι' v w → Q v H') : Q v H := by
  unfold frz at h
  cases q : deepF b st 3 w with
  | none => rw [q] at h; exact h.elim
  | some x =>
    rw [q] at h
    by_cases hc : clean b (st.take b) = true
    · have h : Post K T E Z0 ι0 (if clean b (st.take b) = true then Res.ok (W.f x) (st.take b) else Res.stuck) _ := h
      rw [if_pos hc] at h
      have lc := l.cut (b := b) (by omega)
      exact h H (zAll Z H ι b) (ι.take b) (lc.trans ⟨zAll_same s b, fun _ _ h => h⟩) (s.zall hc) v (.f (deepF_ok s b 3 r q))
    · have h : Post K T E Z0 ι0 (if clean b (st.take b) = true then Res.ok (W.f x) (st.take b) else Res.stuck) _ := h
      rw [if_neg hc] at h
      exact h.elim
end

section
variable {X : Cx} {T : Tab} {E : XK} {e o i value : Expr} {es : List Expr} {te to ti tv : TEv} {tr : TAv} {pos pos' apos : Pos}
theorem rd_frz {K : PySem.W.Frag} {σ : L2.St} {H : Hp} {Q : VK} (h : RdE K T E (eFrz te) σ H Q) : RdE K T E te σ H Q := by
  obtain ⟨Z, ι, env, st, s, re, p⟩ := h
  refine ⟨Z, ι, env, st, s, re, ?_⟩
  unfold eFrz at p
  cases q : te env st with
  | ok w st1 => rw [q] at p; exact fun H' Z' ι' l s' v rv => frz_ok (Z0 := Z) (ι0 := ι) s.len l s' rv p
  | exc c fs st1 => rw [q] at p; exact p
  | stuck => rw [q] at p; exact p
theorem ve_frz (h : VE X T E e te) : VE X T E e (eFrz te) := pe_weak h fun _ _ _ q => rd_frz q

/-! ### displays -/
/-- all data, and not too many -/
def small (n : Nat) : Bool := decide (n ≤ 1000000)
theorem small_line {n : Nat} (h : small n = true) : n ≤ sizeLine := Nat.le_trans (of_decide_eq_true h) (by decide)
theorem small_lt {n : Nat} (h : small n = true) : n < sizeLine := Nat.lt_of_le_of_lt (of_decide_eq_true h) (by decide)
def eTup (t : TAv) : TEv := fun env st => (t env st).bind fun ws st1 => match allF ws with
  | some xs => if small xs.length = true then .ok (.f (.tup xs)) st1 else .stuck
  | none => .stuck
theorem ve_tup {x1 : Nat} (h : VA X T E es tr) : VE X T E (.Tuple es x1 pos) (eTup tr) := pe_weak (pe_tup h) fun σ H Q h => by
  obtain ⟨Z, ι, env, st, s, re, p⟩ := h
  refine ⟨Z, ι, env, st, s, re, (Post.bind p).imp fun ws st1 H1 Z1 ι1 l1 s1 p1 vs rvs => ?_⟩
  cases q : allF ws with
  | none => simp only [q] at p1; exact p1.elim
  | some xs =>
    simp only [q] at p1
    by_cases hs : small xs.length = true
    · rw [if_pos hs] at p1
      have rs := rvs.allF q
      refine ⟨small_line (by rw [rs.length]; exact hs), fun a ha => ?_⟩
      have g := Grow.laid (o := .tup vs) s1.sub ha
      exact p1 _ _ _ g.le (s1.grow g) _ (.f (.tup (SqT.of upd_same) (rs.mono g.z)))
    · rw [if_neg hs] at p1; exact p1.elim
/-- a list as data -/
def eLst (t : TAv) : TEv := fun env st => (t env st).bind fun ws st1 => match allF ws with
  | some xs => if small xs.length = true then .ok (.f (.lst xs)) st1 else .stuck
  | none => .stuck
theorem ve_lst (h : VA X T E es tr) : VE X T E (.List es pos) (eLst tr) := pe_weak (pe_lst h) fun σ H Q h => by
  obtain ⟨Z, ι, env, st, s, re, p⟩ := h
  refine ⟨Z, ι, env, st, s, re, (Post.bind p).imp fun ws st1 H1 Z1 ι1 l1 s1 p1 vs rvs => ?_⟩
  cases q : allF ws with
  | none => simp only [q] at p1; exact p1.elim
  | some xs =>
    simp only [q] at p1
    by_cases hs : small xs.length = true
    · rw [if_pos hs] at p1
      have rs := rvs.allF q
      refine ⟨small_line (by rw [rs.length]; exact hs), fun a ha => ?_⟩
      have g := Grow.laid (o := .lst vs) s1.sub ha
      exact p1 _ _ _ g.le (s1.grow g) _ (.f (.lst upd_same (rs.mono g.z)))
    · rw [if_neg hs] at p1; exact p1.elim
/-- a list as a cell -/
def cellOf (ws : List W) : Cell := match allF ws with
  | some xs => .lstF xs
  | none => .lstW ws
def eLstM (t : TAv) : TEv := fun env st => (t env st).bind fun ws st1 => if small ws.length = true then .ok (.loc st1.length) (st1 ++ [cellOf ws]) else .stuck
theorem last_get {α : Type} (l : List α) (a : α) : (l ++ [a])[l.length]? = some a := by simp
theorem ve_lstM (h : VA X T E es tr) : VE X T E (.List es pos) (eLstM tr) := pe_weak (pe_lst h) fun σ H Q h => by
  obtain ⟨Z, ι, env, st, s, re, p⟩ := h
  refine ⟨Z, ι, env, st, s, re, (Post.bind p).imp fun ws st1 H1 Z1 ι1 l1 s1 p1 vs rvs => ?_⟩
  by_cases hs : small ws.length = true
  · rw [if_pos hs] at p1
    refine ⟨small_line (by rw [rvs.length]; exact hs), fun a ha => ?_⟩
    have hz := free_sub s1.sub ha
    have s2 := s1.alloc (c := cellOf ws) (o := .lst vs) ha (by
      unfold cellOf
      cases q : allF ws with
      | none => exact ⟨hz, vs, upd_same, rvs.mono Le.alloc⟩
      | some xs => exact ⟨hz, vs, upd_same, rvs.allF q⟩)
    exact p1 _ _ _ Le.alloc s2 _ (.loc (by rw [← s1.len]; exact last_get _ _))
  · rw [if_neg hs] at p1; exact p1.elim

/-! ### methods of built-in types that change a cell -/
/-- what is handed back, the new cell -/
abbrev CellOp := Cell → List W → Option (W × Cell)
def isCell (d : Bool) : Option Cell → Bool
  | some (.lstF _) => !d
  | some (.lstW _) => !d
  | some (.dct _) => d
  | _ => false
def doCell (g : CellOp) (n : Nat) (ws : List W) (st : Store) : Res W := match st[n]? with
  | some c => (match g c ws with
    | some (w, c') => .ok w (st.set n c')
    | none => .stuck)
  | none => .stuck
/-- o.m(..), o a list's (d: a dict's) cell -/
def eMut (d : Bool) (g : CellOp) (to : TEv) (t : TAv) : TEv := fun env st => (to env st).bind fun o st1 => match o with
  | .loc n => if isCell d st1[n]? = true then (t env st1).bind fun ws st2 => doCell g n ws st2 else .stuck
  | _ => .stuck
/-- what a method's rule r does to a cell -/
def MutOk (X : Cx) (T : Tab) (r : V → List V → Hp → VK → Prop) (g : CellOp) : Prop :=
  ∀ (Z H : Hp) (ι : List Addr) (a : Addr) (c c' : Cell) (ws : List W) (w : W) (vs : List V) (Q : VK), Same Z H → CellOk X.K T Z ι H a c → RepWs X.K T Z ι vs ws → g c ws = some (w, c') →
    (∀ v o, RepW X.K T Z ι v w → CellOk X.K T Z ι (upd H a o) a c' → Z a = none → Q v (upd H a o)) → r (.ref a) vs H Q
theorem tyV_cell {K : PySem.W.Frag} {Z H : Hp} {ι : List Addr} {a : Addr} {c : Cell} {d : Bool} (k : CellOk K T Z ι H a c) (h : isCell d (some c) = true) : tyV K (if d = true then "dict" else "list") (.ref a) H := by
  cases c with
  | dead => cases h
  | ins c fs => cases h
  | lstF xs => cases d with
    | true => cases h
    | false => obtain ⟨_, vs, e, _⟩ := k; exact .inl ⟨rfl, vs, SqL.of e⟩
  | lstW xs => cases d with
    | true => cases h
    | false => obtain ⟨_, vs, e, _⟩ := k; exact .inl ⟨rfl, vs, SqL.of e⟩
  | dct xs => cases d with
    | false => cases h
    | true => obtain ⟨_, vs, e, _⟩ := k; exact .inr (.inr (.inl ⟨rfl, .inl ⟨vs, e⟩⟩))
theorem rd_mut {d : Bool} {r : V → List V → Hp → VK → Prop} {g : CellOp} (hm : MutOk X T r g) {σ : L2.St} {H : Hp} {Q : VK} (h : RdE X.K T E (eMut d g to tr) σ H Q) : tBM X.K (if d = true then "dict" else "list") r (RdE X.K T E to) (RdA X.K T E tr) σ H Q := by
  obtain ⟨Z, ι, env, st, s, re, p⟩ := h
  refine ⟨Z, ι, env, st, s, re, (Post.bind p).imp fun w st1 H1 Z1 ι1 l1 s1 p1 v rv => ?_⟩
  cases rv with
  | f rv => exact p1.elim
  | loc e =>
    rename_i a n
    have p1 : Post X.K T E Z1 ι1 (if isCell d st1[n]? = true then (tr env st1).bind fun ws st2 => doCell g n ws st2 else .stuck) _ := p1
    by_cases hc : isCell d st1[n]? = true
    · rw [if_pos hc] at p1
      cases q : st1[n]? with
      | none => rw [q] at hc; cases hc
      | some c =>
        rw [q] at hc
        refine ⟨tyV_cell (s1.cell n a c e q) hc, Z1, ι1, env, st1, s1, re.mono l1, (Post.bind p1).imp fun ws st2 H2 Z2 ι2 l2 s2 p2 vs rvs => ?_⟩
        have e2 := l2.i _ _ e
        unfold doCell at p2
        cases q2 : st2[n]? with
        | none => simp only [q2] at p2; exact p2.elim
        | some c2 =>
          simp only [q2] at p2
          cases q3 : g c2 ws with
          | none => simp only [q3] at p2; exact p2.elim
          | some wc =>
            obtain ⟨w, c'⟩ := wc
            simp only [q3] at p2
            exact hm Z2 H2 ι2 a c2 c' ws w vs Q s2.sub (s2.cell n a c2 e2 q2) rvs q3 fun v o rv ok hz => p2 _ Z2 ι2 Le.refl (s2.write e2 hz ok) v rv
    · rw [if_neg hc] at p1; exact p1.elim
variable {name : Str} {id : String} {cpos : Pos}
/-- o.m(e, ..) on a list's cell -/
theorem ve_mutL {r : V → List V → Hp → VK → Prop} {g : CellOp} (slot : Slot "list" name id) (hty : typeOf (.builtin id) = pure (.type "method_descriptor")) (hr : MtR X id r) (hm : MutOk X T r g) (ho : VE X T E o to) (ha : VA X T E (e :: es) tr)
    (hbase : attributeBase o name X.env (eval o X.env) = eval o X.env := by rfl)
    (hfew : ((backTo cpos (starEach (e :: es) X.env)).all (fun x => !x.1) && (backToKw cpos (keywordEach [] X.env)).all (fun x => x.1.isSome)
      && decide ((e :: es).length + ([] : List Keyword).length + (if ([] : List Keyword).isEmpty then 0 else 1) < 30)) = true := by rfl)
    (hline : (apos.endLine == cpos.line) = true := by rfl) (hs : starEach (e :: es) X.env = (false, eval e X.env) :: starEach es X.env := by rfl) (hplain : (backTo cpos (starEach es X.env)).any (·.1) = false := by rfl) :
    VE X T E (.Call (.Attribute o name apos) (e :: es) [] cpos) (eMut false g to tr) :=
  pe_weak (pe_bm PySem.F.plainAttrs_list slot hty hr ho ha hbase hfew hline hs hplain) fun _ _ _ h => rd_mut (d := false) hm h
theorem ve_mutL0 {r : V → List V → Hp → VK → Prop} {g : CellOp} (slot : Slot "list" name id) (hty : typeOf (.builtin id) = pure (.type "method_descriptor")) (hr : MtR X id r) (hm : MutOk X T r g) (ho : VE X T E o to)
    (hbase : attributeBase o name X.env (eval o X.env) = eval o X.env := by rfl) (hline : (apos.endLine == cpos.line) = true := by rfl) :
    VE X T E (.Call (.Attribute o name apos) [] [] cpos) (eMut false g to aNil) :=
  pe_weak (pe_bm0 PySem.F.plainAttrs_list slot hty hr ho hbase hline) fun σ H Q h => by
    obtain ⟨Z, ι, env, st, s, re, p⟩ := rd_mut (d := false) hm h
    refine ⟨Z, ι, env, st, s, re, p.imp fun w st1 H1 Z1 ι1 l1 s1 p1 v rv => ?_⟩
    obtain ⟨ty, Z2, ι2, env2, st2, s2, re2, p2⟩ := p1 v rv
    exact ⟨ty, p2 H1 Z2 ι2 Le.refl s2 _ .nil⟩
/-! the operations -/
def cAppend : CellOp := fun c ws => match c, ws with
  | .lstF xs, [.f x] => if small (xs.length + 1) = true then some (.f .non, .lstF (xs ++ [x])) else none
  | .lstF xs, [.loc n] => if small (xs.length + 1) = true then some (.f .non, .lstW (xs.map W.f ++ [.loc n])) else none
  | .lstW xs, [w] => if small (xs.length + 1) = true then some (.f .non, .lstW (xs ++ [w])) else none
  | _, _ => none
theorem ifSome {α : Type} {p : Prop} [Decidable p] {a b : α} (h : (if p then some a else none) = some b) : p ∧ a = b := by
  by_cases hp : p
  · rw [if_pos hp] at h; exact ⟨hp, Option.some.inj h⟩
  · rw [if_neg hp] at h; cases h
theorem small_app {n : Nat} (h : small (n + 1) = true) : n < sizeLine := Nat.lt_of_lt_of_le (Nat.lt_succ_self n) (small_line h)
theorem mut_append : MutOk X T rAppend cAppend := by
  intro Z H ι a c c' ws w vs Q s k r h q
  cases c with
  | lstF xs =>
    obtain ⟨hz, us, e, ru⟩ := k
    cases r with
    | nil => cases h
    | cons r1 r2 =>
      cases r2 with
      | cons _ _ => cases r1 <;> cases h
      | nil =>
        cases r1 with
        | f r1 =>
          obtain ⟨hs, h⟩ := ifSome h
          cases h
          exact ⟨a, us, _, rfl, rfl, e, by rw [ru.length]; exact small_app hs, q _ _ (.f .non) ⟨hz, _, upd_same, ru.append (.cons r1 .nil)⟩ hz⟩
        | loc r1 =>
          obtain ⟨hs, h⟩ := ifSome h
          cases h
          exact ⟨a, us, _, rfl, rfl, e, by rw [ru.length]; exact small_app hs, q _ _ (.f .non) ⟨hz, _, upd_same, (RepWs.ofFs ru).append (.cons (.loc r1) .nil)⟩ hz⟩
  | lstW xs =>
    obtain ⟨hz, us, e, ru⟩ := k
    cases r with
    | nil => cases h
    | cons r1 r2 =>
      cases r2 with
      | cons _ _ => cases h
      | nil =>
        obtain ⟨hs, h⟩ := ifSome h
        cases h
        exact ⟨a, us, _, rfl, rfl, e, by rw [ru.length]; exact small_app hs, q _ _ (.f .non) ⟨hz, _, upd_same, ru.append (.cons r1 .nil)⟩ hz⟩
  | dead => cases h
  | dct _ => cases h
  | ins _ _ => cases h
theorem ve_append (ho : VE X T E o to) (he : VE X T E e te) (hbase : attributeBase o "append" X.env (eval o X.env) = eval o X.env := by rfl)
    (hline : (apos.endLine == cpos.line) = true := by rfl) (hs : starEach [e] X.env = [(false, eval e X.env)] := by rfl) :
    VE X T E (.Call (.Attribute o "append" apos) [e] [] cpos) (eMut false cAppend to (aCons te aNil)) :=
  ve_mutL PySem.F.slot_list_append PySem.F.type_list_append mt_append mut_append ho (va_cons he va_nil hs) hbase (by rw [hs]; rfl) hline hs rfl
/-- xs.extend(ys), ys data -/
def cExtend : CellOp := fun c ws => match c, ws with
  | .lstF xs, [.f (.lst ys)] => if small (xs.length + ys.length) = true then some (.f .non, .lstF (xs ++ ys)) else none
  | _, _ => none
theorem mut_extend : MutOk X T rExtend cExtend := by
  intro Z H ι a c c' ws w vs Q s k r h q
  cases c with
  | lstF xs =>
    obtain ⟨hz, us, e, ru⟩ := k
    cases r with
    | nil => cases h
    | cons r1 r2 =>
      cases r1 with
      | loc _ => cases h
      | f r1 =>
        cases r1 with
        | lst e2 rs =>
          cases r2 with
          | cons _ _ => cases h
          | nil =>
            obtain ⟨hs, h⟩ := ifSome h
            cases h
            exact ⟨a, _, us, _, rfl, rfl, e, s _ _ e2, by rw [ru.length, rs.length]; exact small_line hs, q _ _ (.f .non) ⟨hz, _, upd_same, ru.append rs⟩ hz⟩
        | _ => cases h
  | lstW xs => cases h
  | dead => cases h
  | dct _ => cases h
  | ins _ _ => cases h
theorem ve_extend (ho : VE X T E o to) (he : VE X T E e te) (hbase : attributeBase o "extend" X.env (eval o X.env) = eval o X.env := by rfl)
    (hline : (apos.endLine == cpos.line) = true := by rfl) (hs : starEach [e] X.env = [(false, eval e X.env)] := by rfl) :
    VE X T E (.Call (.Attribute o "extend" apos) [e] [] cpos) (eMut false cExtend to (aCons te aNil)) :=
  ve_mutL PySem.F.slot_list_extend PySem.F.type_list_extend mt_extend mut_extend ho (va_cons he va_nil hs) hbase (by rw [hs]; rfl) hline hs rfl
/-- xs.pop() -/
def cPop : CellOp := fun c ws => match c, ws with
  | .lstF xs, [] => (xs[xs.length - 1]?).map fun x => (.f x, .lstF xs.dropLast)
  | .lstW xs, [] => (xs[xs.length - 1]?).map fun x => (x, .lstW xs.dropLast)
  | _, _ => none
theorem dropLast_take {α : Type} (l : List α) : l.dropLast = l.take (l.length - 1) := List.dropLast_eq_take
theorem mut_pop : MutOk X T rPop cPop := by
  intro Z H ι a c c' ws w vs Q s k r h q
  cases c with
  | lstF xs =>
    obtain ⟨hz, us, e, ru⟩ := k
    cases r with
    | cons r1 r2 => cases h
    | nil =>
      have h : (xs[xs.length - 1]?).map (fun x => (W.f x, Cell.lstF xs.dropLast)) = some (w, c') := h
      cases q1 : xs[xs.length - 1]? with
      | none => rw [q1] at h; cases h
      | some x =>
        rw [q1] at h; cases h
        obtain ⟨v, e2, rv⟩ := ru.get q1
        refine ⟨a, us, v, rfl, rfl, e, by rw [ru.length]; exact e2, q _ _ (.f rv) ⟨hz, _, upd_same, ?_⟩ hz⟩
        rw [dropLast_take, dropLast_take, ru.length]
        exact ru.take _
  | lstW xs =>
    obtain ⟨hz, us, e, ru⟩ := k
    cases r with
    | cons r1 r2 => cases h
    | nil =>
      have h : (xs[xs.length - 1]?).map (fun x => (x, Cell.lstW xs.dropLast)) = some (w, c') := h
      cases q1 : xs[xs.length - 1]? with
      | none => rw [q1] at h; cases h
      | some x =>
        rw [q1] at h; cases h
        obtain ⟨v, e2, rv⟩ := ru.get q1
        refine ⟨a, us, v, rfl, rfl, e, by rw [ru.length]; exact e2, q _ _ rv ⟨hz, _, upd_same, ?_⟩ hz⟩
        rw [dropLast_take, dropLast_take, ru.length]
        exact ru.take _
  | dead => cases h
  | dct _ => cases h
  | ins _ _ => cases h
end
end VS

set_option Elab.async false
set_option linter.all false
set_option maxRecDepth 100000
set_option maxHeartbeats 4000000
set_option autoImplicit false
/-! VG: operations on plain data. -/
namespace VS
open PySem PySem.Spec PyProof.Rows L2
section
variable {K : PySem.W.Frag} {T : Tab} {Z H : Hp} {x : V}
theorem View.int {i : Int} (h : View K T Z H x (.int i)) : x = .int i := by cases h with | f r => cases r; rfl
theorem View.bl {i : Bool} (h : View K T Z H x (.bl i)) : x = .bl i := by cases h with | f r => cases r; rfl
theorem View.str {i : List Nat} (h : View K T Z H x (.str i)) : x = .str (S i) := by cases h with | f r => cases r; rfl
theorem View.non (h : View K T Z H x .non) : x = .non := by cases h with | f r => cases r; rfl
theorem View.lst' {xs : List F} (h : View K T Z H x (.lst xs)) (s : Same Z H) : ∃ a vs, x = .ref a ∧ H a = some (.lst vs) ∧ RepFs K T Z vs xs := by
  cases h with
  | f r => cases r with | lst e rs => exact ⟨_, _, rfl, s _ _ e, rs⟩
  | lst e rs => exact ⟨_, _, rfl, e, rs⟩
theorem View.tup' {xs : List F} (h : View K T Z H x (.tup xs)) : ∃ a vs, x = .ref a ∧ SqT K Z a vs ∧ RepFs K T Z vs xs := by
  cases h with | f r => cases r with | tup e rs => exact ⟨_, _, rfl, e, rs⟩
theorem View.dct' {xs : List (F × F)} (h : View K T Z H x (.dct xs)) (s : Same Z H) : ∃ a vs, x = .ref a ∧ H a = some (.dK vs) ∧ RepFk K T Z vs xs := by
  cases h with
  | f r => cases r with | dct e rs => exact ⟨_, _, rfl, s _ _ e, rs⟩
  | dct e rs => exact ⟨_, _, rfl, e, rs⟩
theorem S_len (l : List Nat) : (S l).length = l.length := by show l.toArray.size = _; simp
theorem S_app (a b : List Nat) : S a ++ S b = S (a ++ b) := by
  show Str.mk (a.toArray ++ b.toArray) = Str.mk (a ++ b).toArray
  simp
theorem S_inj {a b : List Nat} : S a = S b ↔ a = b := ⟨fun h => by
  have : a.toArray = b.toArray := congrArg Str.cps h
  simpa using this, fun h => by rw [h]⟩
theorem S_list (l : List Nat) : (S l).cps.toList = l := by show l.toArray.toList = l; simp
end

section
variable {X : Cx} {T : Tab}
/-! ### arithmetic -/
theorem OpR.or3 {f : Value → Value → Sem Value} {r r' r'' : R2} (h : OpR X f r) (h' : OpR X f r') (h'' : OpR X f r'') : OpR X f (fun x y H Q => r x y H Q ∨ r' x y H Q ∨ r'' x y H Q) := OpR.or h (OpR.or h' h'')
def addF : F → F → Option F
  | .int i, .int j => some (.int (i + j))
  | .str a, .str b => if small (a.length + b.length) = true then some (.str (a ++ b)) else none
  | .lst xs, .lst ys => if small (xs.length + ys.length) = true then some (.lst (xs ++ ys)) else none
  | .tup xs, .tup ys => if small (xs.length + ys.length) = true then some (.tup (xs ++ ys)) else none
  | _, _ => none
def rAddF (K : PySem.W.Frag) : R2 := fun x y H Q => (rI0 (fun i j => .int (i + j)) x y H Q ∨ ∃ i j, x = .str i ∧ y = .str j ∧ i.length + j.length ≤ sizeLine ∧ Q (.str (i ++ j)) H) ∨ (rCat x y H Q ∨ rCatA K x y H Q)
theorem or_add : OpR X (binaryOp .Add) (rAddF X.K) := OpR.or (OpR.or op_add op_add_str) (OpR.or op_cat op_catA)
theorem o2_add : Op2 X T (rAddF X.K) addF := by
  intro Z H x y fx fy z Q s vx vy h g
  cases fx with
  | int i => cases fy with
    | int j => cases h; cases vx.int; cases vy.int; exact .inl (.inl ⟨i, j, rfl, rfl, g.here s (.int _)⟩)
    | _ => cases h
  | str a => cases fy with
    | str b =>
      obtain ⟨hs, h⟩ := ifSome h
      cases h; cases vx.str; cases vy.str
      exact .inl (.inr ⟨_, _, rfl, rfl, by rw [S_len, S_len]; exact small_line hs, by rw [S_app]; exact g.here s (.str _)⟩)
    | _ => cases h
  | lst xs => cases fy with
    | lst ys =>
      obtain ⟨hs, h⟩ := ifSome h
      cases h
      obtain ⟨a, vs, rfl, e1, r1⟩ := vx.lst' s
      obtain ⟨b, us, rfl, e2, r2⟩ := vy.lst' s
      refine .inr (.inl ⟨a, b, vs, us, rfl, rfl, e1, e2, by rw [r1.length, r2.length]; exact small_line hs, fun p hp => g.new s hp ?_⟩)
      have gr := Grow.laid (o := .lst (vs ++ us)) s hp
      exact .lst upd_same ((r1.append r2).mono gr.z)
    | _ => cases h
  | tup xs => cases fy with
    | tup ys =>
      obtain ⟨hs, h⟩ := ifSome h
      cases h
      obtain ⟨a, vs, rfl, e1, r1⟩ := vx.tup'
      obtain ⟨b, us, rfl, e2, r2⟩ := vy.tup'
      refine .inr (.inr ⟨a, b, vs, us, rfl, rfl, same_sqt s e1, same_sqt s e2, by rw [r1.length, r2.length]; exact small_line hs, fun h0 => ?_, fun h0 h1 => ?_, fun h0 h1 p hp => ?_⟩)
      · subst h0
        cases r1
        exact g.here s (.tup e2 r2)
      · subst h1
        cases r2
        rw [List.append_nil] at g
        exact g.here s (.tup e1 r1)
      · have gr := Grow.laid (o := .tup (vs ++ us)) s hp
        exact g.new s hp (.tup (SqT.of upd_same) ((r1.append r2).mono gr.z))
    | _ => cases h
  | _ => cases h
def subF : F → F → Option F
  | .int i, .int j => some (.int (i - j))
  | _, _ => none
theorem o2_sub : Op2 X T (rI0 fun i j => .int (i - j)) subF := by
  intro Z H x y fx fy z Q s vx vy h g
  cases fx with
  | int i => cases fy with
    | int j => cases h; cases vx.int; cases vy.int; exact ⟨i, j, rfl, rfl, g.here s (.int _)⟩
    | _ => cases h
  | _ => cases h
/-- bits -/
def bitsI (i : Int) : Nat := i.natAbs.log2
def repS (n : Int) (s : List Nat) : List Nat := (List.replicate n.toNat s).flatten
def mulF : F → F → Option F
  | .int i, .int j => if (decide (-(2 ^ 64) < i) && decide (i < 2 ^ 64)) = true ∨ (decide (-(2 ^ 64) < j) && decide (j < 2 ^ 64)) = true ∨ bitsI i + bitsI j < 1000000 then some (.int (i * j)) else none
  | .str a, .int n => if decide (-1000000 ≤ n) = true ∧ decide (n ≤ 1000000) = true ∧ small (a.length * n.toNat) = true then some (.str (repS n a)) else none
  | .lst xs, .int n => if decide (-1000000 ≤ n) = true ∧ decide (n ≤ 1000000) = true ∧ small (xs.length * n.toNat) = true then some (.lst (List.replicate n.toNat xs).flatten) else none
  | _, _ => none
theorem foldl_app (l : List Nat) : ∀ (n : Nat) (acc : Array Nat), (List.replicate n l.toArray).foldl (· ++ ·) acc = acc ++ ((List.replicate n l).flatten).toArray
  | 0, acc => by simp
  | n + 1, acc => by
    rw [List.replicate_succ, List.foldl_cons, foldl_app l n, List.replicate_succ, List.flatten_cons]
    simp
theorem op_mul_str : OpR X (binaryOp .Mult) (fun x y H Q => ∃ (a : List Nat) (n : Int), x = .str (S a) ∧ y = .int n ∧ -1000000 ≤ n ∧ n ≤ 1000000 ∧ small (a.length * n.toNat) = true ∧ Q (.str (S (repS n a))) H) := by
  intro pins s σ H x y v u Q I rx ry h
  obtain ⟨a, n, rfl, rfl, h1, h2, hs, q⟩ := h
  obtain ⟨t, rfl⟩ := rx
  obtain ⟨t', rfl⟩ := ry
  have hl : (S a).length = a.length := S_len a
  have hz : a.length * n.toNat ≤ 1000000 := of_decide_eq_true hs
  have e0 : ∀ {z : Str}, z = S (repS n a) → ∀ (tk : Tok) (k : Nat), EP X pins σ Q (.str z tk) { s with toks := k } := fun {z} e tk k => ⟨.str z, H, I.tok _, ⟨tk, rfl⟩, by rw [e]; exact q⟩
  refine PySem.P.mul_str (by rw [decide_eq_false (by omega), decide_eq_false (by omega)]; rfl) (fun hn h01 => ?_) (fun hn h01 => ?_) ?_
  · intro hgt
    have hn0 : (0 : Int) < n := by omega
    have : (2 ^ 63 - 1 : Int) < ((S a).length : Int) * n := by
      have := Int.lt_mul_of_ediv_lt hn0 hgt
      exact this
    have e1 : ((S a).length : Int) * n = ((a.length * n.toNat : Nat) : Int) := by
      rw [hl, Int.natCast_mul, Int.toNat_of_nonneg (by omega)]
    rw [e1] at this
    omega
  · show Builtin.Str.tooLong ((S a).length * n.toNat) = false
    rw [hl]
    unfold Builtin.Str.tooLong
    exact decide_eq_false (by have : (1000000 : Nat) ≤ sizeLine := by decide
                              omega)
  · by_cases hn : n < 1
    · rw [if_pos hn]
      refine ⟨by decide, e0 ?_ _ _⟩
      have : n.toNat = 0 := by omega
      unfold repS
      rw [this]
      rfl
    · rw [if_neg hn]
      by_cases h01 : (n == 1 || (S a).length == 0) = true
      · rw [if_pos h01]
        have e1 : S a = S (repS n a) := by
          rw [Bool.or_eq_true] at h01
          unfold repS
          rcases h01 with h | h
          · have : n = 1 := by simpa using h
            subst this
            simp
          · have : a.length = 0 := by rw [← hl]; simpa using h
            have : a = [] := List.length_eq_zero_iff.mp this
            subst this
            simp
        exact e0 e1 t s.toks
      · rw [if_neg h01]
        refine ⟨?_, e0 ?_ _ _⟩
        · show (Str.mk _).cps.size ≤ sizeLine
          rw [show (S a).cps = a.toArray from rfl, foldl_app]
          have : ((List.replicate n.toNat a).flatten).length = n.toNat * a.length := by simp
          simp only [Array.empty_append, List.size_toArray, this]
          rw [Nat.mul_comm]
          have : (1000000 : Nat) ≤ sizeLine := by decide
          omega
        · unfold S repS
          rw [show (Str.mk a.toArray).cps = a.toArray from rfl, foldl_app]
          simp
def rMulF : R2 := fun x y H Q => (rI CMul (fun i j => .int (i * j)) x y H Q ∨ rI CMulW (fun i j => .int (i * j)) x y H Q) ∨ ((∃ (a : List Nat) (n : Int), x = .str (S a) ∧ y = .int n ∧ -1000000 ≤ n ∧ n ≤ 1000000 ∧ small (a.length * n.toNat) = true ∧ Q (.str (S (repS n a))) H) ∨ rRep x y H Q)
theorem or_mul : OpR X (binaryOp .Mult) rMulF := OpR.or (OpR.or op_mul op_mulW) (OpR.or op_mul_str op_rep)
theorem o2_mul : Op2 X T rMulF mulF := by
  intro Z H x y fx fy z Q s vx vy h g
  cases fx with
  | int i => cases fy with
    | int j =>
      obtain ⟨hc, h⟩ := ifSome h
      cases h; cases vx.int; cases vy.int
      rcases hc with hc | hc | hc
      · rw [Bool.and_eq_true] at hc
        exact .inl (.inl ⟨i, j, rfl, rfl, .inl ⟨of_decide_eq_true hc.1, of_decide_eq_true hc.2⟩, g.here s (.int _)⟩)
      · rw [Bool.and_eq_true] at hc
        exact .inl (.inl ⟨i, j, rfl, rfl, .inr ⟨of_decide_eq_true hc.1, of_decide_eq_true hc.2⟩, g.here s (.int _)⟩)
      · exact .inl (.inr ⟨i, j, rfl, rfl, hc, g.here s (.int _)⟩)
    | _ => cases h
  | str a => cases fy with
    | int n =>
      obtain ⟨hc, h⟩ := ifSome h
      cases h; cases vx.str; cases vy.int
      exact .inr (.inl ⟨a, n, rfl, rfl, of_decide_eq_true hc.1, of_decide_eq_true hc.2.1, hc.2.2, g.here s (.str _)⟩)
    | _ => cases h
  | lst xs => cases fy with
    | int n =>
      obtain ⟨hc, h⟩ := ifSome h
      cases h; cases vy.int
      obtain ⟨a, vs, rfl, e1, r1⟩ := vx.lst' s
      have b1 : -1000000 ≤ n := of_decide_eq_true hc.1
      have b2 : n ≤ 1000000 := of_decide_eq_true hc.2.1
      refine .inr (.inr ⟨a, n, vs, rfl, rfl, e1, by omega, by omega, by rw [r1.length]; exact small_line hc.2.2, fun p hp => g.new s hp ?_⟩)
      have gr := Grow.laid (o := .lst (List.replicate n.toNat vs).flatten) s hp
      exact .lst upd_same ((r1.rep n.toNat).mono gr.z)
    | _ => cases h
  | _ => cases h
def fdivF : F → F → Option F
  | .int i, .int j => if 0 < j ∧ bitsI j < 9000 then some (.int (i / j)) else none
  | _, _ => none
theorem o2_fdiv : Op2 X T (rI CDivW fun i j => .int (i / j)) fdivF := by
  intro Z H x y fx fy z Q s vx vy h g
  cases fx with
  | int i => cases fy with
    | int j => obtain ⟨hc, h⟩ := ifSome h; cases h; cases vx.int; cases vy.int; exact ⟨i, j, rfl, rfl, hc, g.here s (.int _)⟩
    | _ => cases h
  | _ => cases h
def modF : F → F → Option F
  | .int i, .int j => if 0 < j then some (.int (i % j)) else none
  | _, _ => none
theorem o2_mod : Op2 X T (rI (fun _ j => 0 < j) fun i j => .int (i % j)) modF := by
  intro Z H x y fx fy z Q s vx vy h g
  cases fx with
  | int i => cases fy with
    | int j => obtain ⟨hc, h⟩ := ifSome h; cases h; cases vx.int; cases vy.int; exact ⟨i, j, rfl, rfl, hc, g.here s (.int _)⟩
    | _ => cases h
  | _ => cases h
def powF : F → F → Option F
  | .int i, .int j => if 0 ≤ j ∧ j ≤ 1000 ∧ i.natAbs < 2 ^ 64 then some (.int (i ^ j.toNat)) else none
  | _, _ => none
theorem o2_pow : Op2 X T (rI CPow fun i j => .int (i ^ j.toNat)) powF := by
  intro Z H x y fx fy z Q s vx vy h g
  cases fx with
  | int i => cases fy with
    | int j =>
      obtain ⟨hc, h⟩ := ifSome h; cases h; cases vx.int; cases vy.int
      exact ⟨i, j, rfl, rfl, ⟨hc.1, by have := hc.2.1; omega, hc.2.2⟩, g.here s (.int _)⟩
    | _ => cases h
  | _ => cases h
def negF : F → Option F
  | .int i => some (.int (-i))
  | _ => none
theorem o1_neg : Op1 X T (rU fun i => .int (-i)) negF := by
  intro Z H x fx z Q s vx h g
  cases fx with
  | int i => cases h; cases vx.int; exact ⟨i, rfl, g.here s (.int _)⟩
  | _ => cases h
/-! ### comparisons -/
def cmpF (p : Int → Int → Bool) : F → F → Option F
  | .int i, .int j => some (.bl (p i j))
  | _, _ => none
theorem o2_cmp {p : Int → Int → Bool} : Op2 X T (rI0 fun i j => .bl (p i j)) (cmpF p) := by
  intro Z H x y fx fy z Q s vx vy h g
  cases fx with
  | int i => cases fy with
    | int j => cases h; cases vx.int; cases vy.int; exact ⟨i, j, rfl, rfl, g.here s (.bl _)⟩
    | _ => cases h
  | _ => cases h
abbrev ltF := cmpF fun i j => decide (i < j)
abbrev leF := cmpF fun i j => decide (i ≤ j)
abbrev gtF := cmpF fun i j => decide (j < i)
abbrev geF := cmpF fun i j => decide (j ≤ i)
/-! equality: scalars, and data of any depth -/
mutual
def toD : F → Option PyData
  | .non => some .none
  | .bl b => some (.bool b)
  | .int i => some (.int i)
  | .str s => some (.str (S s))
  | .lst xs => (toDs xs).map PyData.list
  | .tup xs => (toDs xs).map PyData.tuple
  | .dct _ => none
  | .obj _ _ => none
  | .scr _ => none
def toDs : List F → Option (List PyData)
  | [] => some []
  | x :: xs => (toD x).bind fun d => (toDs xs).map fun ds => d :: ds
end
theorem opt_map_some {α β : Type} {f : α → β} {o : Option α} {b : β} (h : o.map f = some b) : ∃ a, o = some a ∧ f a = b := by
  cases o with
  | none => cases h
  | some a => cases h; exact ⟨a, rfl, rfl⟩
theorem opt_bind_some {α β : Type} {f : α → Option β} {o : Option α} {b : β} (h : o.bind f = some b) : ∃ a, o = some a ∧ f a = some b := by
  cases o with
  | none => cases h
  | some a => exact ⟨a, rfl, h⟩
mutual
theorem RepF.dp {K : PySem.W.Frag} {Z H : Hp} (s : Same Z H) : ∀ {v : V} {x : F} {d : PyData}, RepF K T Z v x → toD x = some d → Dp K H v d
  | _, _, _, .non, h => by cases h; exact .non
  | _, _, _, .bl b, h => by cases h; exact .bl b
  | _, _, _, .int i, h => by cases h; exact .int i
  | _, _, _, .str z, h => by cases h; exact .str _
  | _, _, _, .tup e r, h => by
    obtain ⟨ds, e2, rfl⟩ := opt_map_some (show (toDs _).map PyData.tuple = some _ from by simpa only [toD] using h)
    exact .tup (same_sqt s e) (RepFs.dp s r e2)
  | _, _, _, .lst e r, h => by
    obtain ⟨ds, e2, rfl⟩ := opt_map_some (show (toDs _).map PyData.list = some _ from by simpa only [toD] using h)
    exact .lst (SqL.of (s _ _ e)) (RepFs.dp s r e2)
  | _, _, _, .dct _ _, h => by simp only [toD] at h; cases h
  | _, _, _, .obj _ _ _, h => by simp only [toD] at h; cases h
  | _, _, _, .scr _, h => by simp only [toD] at h; cases h
theorem RepFs.dp {K : PySem.W.Frag} {Z H : Hp} (s : Same Z H) : ∀ {v : List V} {x : List F} {d : List PyData}, RepFs K T Z v x → toDs x = some d → DpAll K H v d
  | _, _, _, .nil, h => by cases h; exact .nil
  | _, _, _, .cons r t, h => by
    obtain ⟨d, e1, h⟩ := opt_bind_some (show (toD _).bind _ = some _ from by simpa only [toDs] using h)
    obtain ⟨ds, e2, rfl⟩ := opt_map_some h
    exact .cons (RepF.dp s r e1) (RepFs.dp s t e2)
end
theorem View.dp {K : PySem.W.Frag} {Z H : Hp} (s : Same Z H) {v : V} {x : F} {d : PyData} (h : View K T Z H v x) (e : toD x = some d) : Dp K H v d := by
  cases h with
  | f r => exact r.dp s e
  | lst e1 r =>
    obtain ⟨ds, e2, rfl⟩ := opt_map_some (show (toDs _).map PyData.list = some _ from by simpa only [toD] using e)
    exact .lst (SqL.of e1) (RepFs.dp s r e2)
  | dct _ _ => simp only [toD] at e; cases e
/-- == of data -/
def eqD (x y : F) : Option Bool := (toD x).bind fun a => (toD y).bind fun b => if (SeqAt.shaped a && SeqAt.shaped b) = true then some (PyData.eqv a b) else none
def eqB : F → F → Option Bool
  | .int i, .int j => some (decide (i = j))
  | .str a, .str b => some (decide (a = b))
  | .bl a, .bl b => some (decide (a = b))
  | x, y => eqD x y
def eqF (x y : F) : Option F := (eqB x y).map F.bl
def neF (x y : F) : Option F := (eqB x y).map fun b => F.bl (!b)
def rEqF (K : PySem.W.Frag) : R2 := fun x y H Q => rEq x y H Q ∨ rEqD K x y H Q
def rNeF (K : PySem.W.Frag) : R2 := fun x y H Q => rNe x y H Q ∨ rNeD K x y H Q
theorem or_eq (hu : X.A.units + 64 < cLine) : OpR X (compareOp .Eq) (rEqF X.K) := OpR.or op_eq (op_eqD hu)
theorem or_ne (hu : X.A.units + 64 < cLine) : OpR X (compareOp .NotEq) (rNeF X.K) := OpR.or op_ne (op_neD hu)
theorem eqB_cases {x y : F} {b : Bool} (h : eqB x y = some b) : (∃ i j, x = .int i ∧ y = .int j ∧ b = decide (i = j)) ∨ (∃ i j, x = .str i ∧ y = .str j ∧ b = decide (i = j)) ∨ (∃ i j, x = .bl i ∧ y = .bl j ∧ b = decide (i = j)) ∨ eqD x y = some b := by
  unfold eqB at h
  split at h
  · cases h; exact .inl ⟨_, _, rfl, rfl, rfl⟩
  · cases h; exact .inr (.inl ⟨_, _, rfl, rfl, rfl⟩)
  · cases h; exact .inr (.inr (.inl ⟨_, _, rfl, rfl, rfl⟩))
  · exact .inr (.inr (.inr h))
theorem eqD_some {x y : F} {b : Bool} (h : eqD x y = some b) : ∃ d e, toD x = some d ∧ toD y = some e ∧ SeqAt.shaped d = true ∧ SeqAt.shaped e = true ∧ PyData.eqv d e = b := by
  obtain ⟨d, e1, h⟩ := opt_bind_some h
  obtain ⟨e, e2, h⟩ := opt_bind_some h
  obtain ⟨hs, h⟩ := ifSome h
  rw [Bool.and_eq_true] at hs
  exact ⟨d, e, e1, e2, hs.1, hs.2, h⟩
theorem o2_eq : Op2 X T (rEqF X.K) eqF := by
  intro Z H x y fx fy z Q s vx vy h g
  obtain ⟨b, e, rfl⟩ := opt_map_some h
  rcases eqB_cases e with ⟨i, j, rfl, rfl, rfl⟩ | ⟨i, j, rfl, rfl, rfl⟩ | ⟨i, j, rfl, rfl, rfl⟩ | e
  · cases vx.int; cases vy.int
    refine .inl ⟨rfl, ?_⟩
    rw [show decide (V.int i = V.int j) = decide (i = j) from by simp]
    exact g.here s (.bl _)
  · cases vx.str; cases vy.str
    refine .inl ⟨rfl, ?_⟩
    rw [show decide (V.str (S i) = V.str (S j)) = decide (i = j) from by simp [S_inj]]
    exact g.here s (.bl _)
  · cases vx.bl; cases vy.bl
    refine .inl ⟨rfl, ?_⟩
    rw [show decide (V.bl i = V.bl j) = decide (i = j) from by simp]
    exact g.here s (.bl _)
  · obtain ⟨d, e', e1, e2, h1, h2, rfl⟩ := eqD_some e
    exact .inr ⟨d, e', vx.dp s e1, vy.dp s e2, h1, h2, g.here s (.bl _)⟩
theorem o2_ne : Op2 X T (rNeF X.K) neF := by
  intro Z H x y fx fy z Q s vx vy h g
  obtain ⟨b, e, rfl⟩ := opt_map_some h
  rcases eqB_cases e with ⟨i, j, rfl, rfl, rfl⟩ | ⟨i, j, rfl, rfl, rfl⟩ | ⟨i, j, rfl, rfl, rfl⟩ | e
  · cases vx.int; cases vy.int
    refine .inl ⟨rfl, ?_⟩
    rw [show decide (V.int i = V.int j) = decide (i = j) from by simp]
    exact g.here s (.bl _)
  · cases vx.str; cases vy.str
    refine .inl ⟨rfl, ?_⟩
    rw [show decide (V.str (S i) = V.str (S j)) = decide (i = j) from by simp [S_inj]]
    exact g.here s (.bl _)
  · cases vx.bl; cases vy.bl
    refine .inl ⟨rfl, ?_⟩
    rw [show decide (V.bl i = V.bl j) = decide (i = j) from by simp]
    exact g.here s (.bl _)
  · obtain ⟨d, e', e1, e2, h1, h2, rfl⟩ := eqD_some e
    exact .inr ⟨d, e', vx.dp s e1, vy.dp s e2, h1, h2, g.here s (.bl _)⟩
end
end VS

set_option Elab.async false
set_option linter.all false
set_option maxRecDepth 100000
set_option maxHeartbeats 4000000
set_option autoImplicit false
/-! VH: in, is, subscripts, slices, built-in functions, isinstance. -/
namespace VS
open PySem PySem.Spec PyProof.Rows L2
section
variable {X : Cx} {T : Tab}
/-! ### in -/
/-- == of flat data -/
def eqFl : F → F → Option Bool
  | .non, .non => some true
  | .bl a, .bl b => some (a == b)
  | .bl a, .int b => some ((if a then 1 else 0) == b)
  | .int a, .bl b => some (a == (if b then 1 else 0))
  | .int a, .int b => some (a == b)
  | .str a, .str b => some (a == b)
  | .non, .bl _ | .non, .int _ | .non, .str _ | .bl _, .non | .bl _, .str _ | .int _, .non | .int _, .str _ | .str _, .non | .str _, .bl _ | .str _, .int _ => some false
  | _, _ => none
def flatF : F → Bool
  | .non | .bl _ | .int _ | .str _ => true
  | _ => false
def eqFb (x y : F) : Bool := (eqFl x y).getD false
def inFl (x : F) (ys : List F) : Option Bool := if (flatF x && ys.all flatF) = true then some (ys.any fun y => eqFb y x) else none
theorem flat_rep {K : PySem.W.Frag} {Z : Hp} {v : V} {x : F} (r : RepF K T Z v x) (h : flatF x = true) : flatV v = true := by
  cases r <;> first | rfl | cases h
theorem eq_rep {K : PySem.W.Frag} {Z : Hp} {v u : V} {x y : F} (r : RepF K T Z v x) (r' : RepF K T Z u y) (h : flatF x = true) (h' : flatF y = true) : eqV v u = eqFb x y := by
  have hs : ∀ a b : List Nat, (S a == S b) = (a == b) := fun a b => by
    by_cases e : a = b
    · subst e; simp
    · rw [beq_eq_false_iff_ne.mpr e, beq_eq_false_iff_ne.mpr (fun q => e (S_inj.mp q))]
  cases r <;> cases r' <;> first | rfl | exact hs _ _ | exact absurd h Bool.false_ne_true | exact absurd h' Bool.false_ne_true
theorem all_flat {K : PySem.W.Frag} {Z : Hp} : ∀ {vs : List V} {xs : List F}, RepFs K T Z vs xs → xs.all flatF = true → vs.all flatV = true
  | _, _, .nil, _ => rfl
  | _, _, .cons r t, h => by
    rw [List.all_cons, Bool.and_eq_true] at h ⊢
    exact ⟨flat_rep r h.1, all_flat t h.2⟩
theorem any_flat {K : PySem.W.Frag} {Z : Hp} {v : V} {x : F} (r : RepF K T Z v x) (hx : flatF x = true) : ∀ {vs : List V} {xs : List F}, RepFs K T Z vs xs → xs.all flatF = true → inV v vs = xs.any fun y => eqFb y x
  | _, _, .nil, _ => rfl
  | _, _, .cons q t, h => by
    rw [List.all_cons, Bool.and_eq_true] at h
    have ih := any_flat r hx t h.2
    unfold inV at ih ⊢
    rw [List.any_cons, List.any_cons, ih, eq_rep q r h.1 hx]
def inS (z : List Nat) : F → Option Bool
  | .str [c] => some (decide (c ∈ z))
  | _ => none
def inL (x : F) (ys : List F) : Option Bool := match inFl x ys with
  | some b => some b
  | none => (toD x).bind fun d => (toDs ys).bind fun ds => if (SeqAt.shaped d && SeqAt.shaped (.list ds)) = true then some (ds.any fun z => PyData.eqv z d) else none
def inB (x : F) : F → Option Bool
  | .str z => inS z x
  | .lst ys => inL x ys
  | .tup ys => inFl x ys
  | _ => none
def inF (x y : F) : Option F := (inB x y).map F.bl
def ninF (x y : F) : Option F := (inB x y).map fun b => F.bl (!b)
def rInF (K : PySem.W.Frag) : R2 := fun x y H Q => (∃ (c : Nat) (z : Str), x = .str ⟨#[c]⟩ ∧ y = .str z ∧ Q (.bl (decide (c ∈ z.cps.toList))) H) ∨ (rIn K false x y H Q ∨ rInD K x y H Q)
def rNinF (K : PySem.W.Frag) : R2 := fun x y H Q => (∃ (c : Nat) (z : Str), x = .str ⟨#[c]⟩ ∧ y = .str z ∧ Q (.bl (!decide (c ∈ z.cps.toList))) H) ∨ (rIn K true x y H Q ∨ rNotInD K x y H Q)
theorem or_in (hu : X.A.units + 65 < cLine) : OpR X (compareOp .In) (rInF X.K) := OpR.or op_in_sign (OpR.or op_in_seq (op_inD hu))
theorem or_nin (hu : X.A.units + 65 < cLine) : OpR X (compareOp .NotIn) (rNinF X.K) := OpR.or op_notIn_sign (OpR.or op_notIn_seq (op_notInD hu))
theorem inB_cases {x y : F} {b : Bool} (h : inB x y = some b) : (∃ c z, x = .str [c] ∧ y = .str z ∧ b = decide (c ∈ z)) ∨ (∃ ys, (y = .lst ys ∨ y = .tup ys) ∧ inFl x ys = some b) ∨
    (∃ ys d ds, y = .lst ys ∧ toD x = some d ∧ toDs ys = some ds ∧ SeqAt.shaped d = true ∧ SeqAt.shaped (.list ds) = true ∧ b = ds.any fun z => PyData.eqv z d) := by
  cases y with
  | str z =>
    have h : inS z x = some b := h
    cases x with
    | str l =>
      match l, h with
      | [], h => cases h
      | [c], h => cases h; exact .inl ⟨c, z, rfl, rfl, rfl⟩
      | _ :: _ :: _, h => cases h
    | _ => cases h
  | lst ys =>
    have h : inL x ys = some b := h
    unfold inL at h
    cases q : inFl x ys with
    | some b' => rw [q] at h; cases h; exact .inr (.inl ⟨ys, .inl rfl, q⟩)
    | none =>
      simp only [q] at h
      obtain ⟨d, e1, h⟩ := opt_bind_some h
      obtain ⟨ds, e2, h⟩ := opt_bind_some h
      obtain ⟨hs, h⟩ := ifSome h
      rw [Bool.and_eq_true] at hs
      exact .inr (.inr ⟨ys, d, ds, rfl, e1, e2, hs.1, hs.2, h.symm⟩)
  | tup ys => exact .inr (.inl ⟨ys, .inr rfl, h⟩)
  | _ => cases h
theorem View.rep {K : PySem.W.Frag} {Z H : Hp} {v : V} {x : F} (h : View K T Z H v x) (hx : flatF x = true) : RepF K T Z v x := by
  cases h with
  | f r => exact r
  | lst _ _ => cases hx
  | dct _ _ => cases hx
theorem o2_in : Op2 X T (rInF X.K) inF := by
  intro Z H x y fx fy z Q s vx vy h g
  obtain ⟨b, e, rfl⟩ := opt_map_some h
  rcases inB_cases e with ⟨c, z, rfl, rfl, rfl⟩ | ⟨ys, hy, e⟩ | ⟨ys, d, ds, rfl, e1, e2, h1, h2, rfl⟩
  · cases vx.str; cases vy.str
    exact .inl ⟨c, _, rfl, rfl, by rw [S_list]; exact g.here s (.bl _)⟩
  · obtain ⟨hf, eb⟩ := ifSome e
    rw [Bool.and_eq_true] at hf
    have rx := vx.rep hf.1
    rcases hy with rfl | rfl
    · obtain ⟨a, vs, rfl, e1, r1⟩ := vy.lst' s
      refine .inr (.inl ⟨a, vs, rfl, .inl (SqL.of e1), flat_rep rx hf.1, all_flat r1 hf.2, ?_⟩)
      show Q (.bl (inV x vs)) H
      rw [any_flat rx hf.1 r1 hf.2, eb]
      exact g.here s (.bl _)
    · obtain ⟨a, vs, rfl, e1, r1⟩ := vy.tup'
      refine .inr (.inl ⟨a, vs, rfl, .inr (same_sqt s e1), flat_rep rx hf.1, all_flat r1 hf.2, ?_⟩)
      show Q (.bl (inV x vs)) H
      rw [any_flat rx hf.1 r1 hf.2, eb]
      exact g.here s (.bl _)
  · exact .inr (.inr ⟨d, ds, vx.dp s e1, vy.dp s (by simp only [toD, e2]; rfl), h1, h2, g.here s (.bl _)⟩)
theorem o2_nin : Op2 X T (rNinF X.K) ninF := by
  intro Z H x y fx fy z Q s vx vy h g
  obtain ⟨b, e, rfl⟩ := opt_map_some h
  rcases inB_cases e with ⟨c, z, rfl, rfl, rfl⟩ | ⟨ys, hy, e⟩ | ⟨ys, d, ds, rfl, e1, e2, h1, h2, rfl⟩
  · cases vx.str; cases vy.str
    exact .inl ⟨c, _, rfl, rfl, by rw [S_list]; exact g.here s (.bl _)⟩
  · obtain ⟨hf, eb⟩ := ifSome e
    rw [Bool.and_eq_true] at hf
    have rx := vx.rep hf.1
    rcases hy with rfl | rfl
    · obtain ⟨a, vs, rfl, e1, r1⟩ := vy.lst' s
      refine .inr (.inl ⟨a, vs, rfl, .inl (SqL.of e1), flat_rep rx hf.1, all_flat r1 hf.2, ?_⟩)
      show Q (.bl (!inV x vs)) H
      rw [any_flat rx hf.1 r1 hf.2, eb]
      exact g.here s (.bl _)
    · obtain ⟨a, vs, rfl, e1, r1⟩ := vy.tup'
      refine .inr (.inl ⟨a, vs, rfl, .inr (same_sqt s e1), flat_rep rx hf.1, all_flat r1 hf.2, ?_⟩)
      show Q (.bl (!inV x vs)) H
      rw [any_flat rx hf.1 r1 hf.2, eb]
      exact g.here s (.bl _)
  · exact .inr (.inr ⟨d, ds, vx.dp s e1, vy.dp s (by simp only [toD, e2]; rfl), h1, h2, g.here s (.bl _)⟩)
/-! ### is None -/
def isNF : F → F → Option F
  | .non, .non => some (.bl true)
  | .scr _, _ => none
  | _, .non => some (.bl false)
  | .bl a, .bl b => some (.bl (decide (a = b)))
  | _, _ => none
def notNF : F → F → Option F
  | .non, .non => some (.bl false)
  | .scr _, _ => none
  | _, .non => some (.bl true)
  | .bl a, .bl b => some (.bl (!decide (a = b)))
  | _, _ => none
def rIsF : R2 := fun x y H Q => (y = .non ∧ Q (.bl (decide (x = .non))) H) ∨ rIsB x y H Q
def rNotF : R2 := fun x y H Q => (y = .non ∧ Q (.bl (!decide (x = .non))) H) ∨ rNotB x y H Q
theorem or_is : OpR X (compareOp .Is) rIsF := OpR.or op_isN op_isBl
theorem or_isnot : OpR X (compareOp .IsNot) rNotF := OpR.or op_notN op_notBl
theorem View.ne_non {K : PySem.W.Frag} {Z H : Hp} {v : V} {x : F} (h : View K T Z H v x) (hx : x ≠ .non) : decide (v = .non) = false := by
  refine decide_eq_false fun e => ?_
  subst e
  cases h with
  | f r => cases r; exact hx rfl
theorem o2_is : Op2 X T rIsF isNF := by
  intro Z H x y fx fy z Q s vx vy h g
  unfold isNF at h
  split at h
  · cases h; cases vx.non; cases vy.non; exact .inl ⟨rfl, g.here s (.bl _)⟩
  · cases h
  · rename_i hx1 _
    cases h; cases vy.non
    exact .inl ⟨rfl, by rw [vx.ne_non (by intro e; exact hx1 e)]; exact g.here s (.bl _)⟩
  · cases h; cases vx.bl; cases vy.bl; exact .inr ⟨_, _, rfl, rfl, g.here s (.bl _)⟩
  · cases h
theorem o2_isnot : Op2 X T rNotF notNF := by
  intro Z H x y fx fy z Q s vx vy h g
  unfold notNF at h
  split at h
  · cases h; cases vx.non; cases vy.non; exact .inl ⟨rfl, g.here s (.bl _)⟩
  · cases h
  · rename_i hx1 _
    cases h; cases vy.non
    exact .inl ⟨rfl, by rw [vx.ne_non (by intro e; exact hx1 e)]; exact g.here s (.bl _)⟩
  · cases h; cases vx.bl; cases vy.bl; exact .inr ⟨_, _, rfl, rfl, g.here s (.bl _)⟩
  · cases h
end
section
variable {X : Cx} {T : Tab} {E : XK} {a b c e o i value : Expr} {es : List Expr} {ta tb tc te to ti tv : TEv} {tr : TAv} {pos pos' apos cpos p2 : Pos}
/-! ### subscripts -/
def ixC (i : Int) : Option Cell → Option W
  | some (.lstF xs) => (atI xs i).map W.f
  | some (.lstW xs) => atI xs i
  | _ => none
def ixW (st : Store) : W → W → Option W
  | .f (.lst xs), .f (.int i) => (atI xs i).map W.f
  | .f (.tup xs), .f (.int i) => (atI xs i).map W.f
  | .f (.str s), .f (.int i) => if small s.length = true then (atI s i).map fun c => W.f (.str [c]) else none
  | .loc n, .f (.int i) => ixC i st[n]?
  | _, _ => none
def eIx (ta tb : TEv) : TEv := fun env st => (ta env st).bind fun w st1 => (tb env st1).bind fun u st2 => ofW (ixW st2 w u) st2
theorem atI_get {α : Type} {xs : List α} {i : Int} {x : α} (h : atI xs i = some x) : ∃ j, ixN xs.length i = some j ∧ xs[j]? = some x := opt_bind_some h
theorem RepFs.atI {K : PySem.W.Frag} {Z : Hp} {vs : List V} {xs : List F} {i : Int} {x : F} (r : RepFs K T Z vs xs) (h : L2.atI xs i = some x) : ∃ v, L2.atI vs i = some v ∧ RepF K T Z v x := by
  obtain ⟨j, e1, e2⟩ := atI_get h
  obtain ⟨v, e3, rv⟩ := r.get e2
  exact ⟨v, by unfold L2.atI; rw [r.length, e1]; exact e3, rv⟩
theorem RepWs.atI {K : PySem.W.Frag} {Z : Hp} {ι : List Addr} {vs : List V} {xs : List W} {i : Int} {x : W} (r : RepWs K T Z ι vs xs) (h : L2.atI xs i = some x) : ∃ v, L2.atI vs i = some v ∧ RepW K T Z ι v x := by
  obtain ⟨j, e1, e2⟩ := atI_get h
  obtain ⟨v, e3, rv⟩ := r.get e2
  exact ⟨v, by unfold L2.atI; rw [r.length, e1]; exact e3, rv⟩
theorem ve_ix (ha : VE X T E a ta) (hb : VE X T E b tb) (hs : PlainIx b := by exact fun _ _ => rfl) : VE X T E (.Subscript a b pos) (eIx ta tb) := pe_weak (pe_ix ix_seq ha hb hs) fun σ H Q h => by
  obtain ⟨Z, ι, env, st, s, re, p⟩ := h
  refine ⟨Z, ι, env, st, s, re, (Post.bind p).imp fun w st1 H1 Z1 ι1 l1 s1 p1 v rv => ?_⟩
  refine ⟨Z1, ι1, env, st1, s1, re.mono l1, (Post.bind p1).imp fun u st2 H2 Z2 ι2 l2 s2 p2 y ry => ?_⟩
  cases q : ixW st2 w u with
  | none => rw [q] at p2; exact p2.elim
  | some z =>
    rw [q] at p2
    have fin : ∀ v', RepW X.K T Z2 ι2 v' z → Q v' H2 := fun v' r' => p2 H2 Z2 ι2 Le.refl s2 v' r'
    replace rv := rv.mono l2
    clear p1
    unfold ixW at q
    split at q
    · obtain ⟨x, e1, rfl⟩ := opt_map_some q
      cases ry with | f ry =>
      cases ry
      cases rv with | f rv =>
      cases rv with | lst e rs =>
      obtain ⟨v', e2, r2⟩ := rs.atI e1
      exact .inl ⟨_, _, _, v', rfl, rfl, SqL.of (s2.sub _ _ e), e2, fin _ (.f r2)⟩
    · obtain ⟨x, e1, rfl⟩ := opt_map_some q
      cases ry with | f ry =>
      cases ry
      cases rv with | f rv =>
      cases rv with | tup e rs =>
      obtain ⟨v', e2, r2⟩ := rs.atI e1
      exact .inr (.inl ⟨_, _, _, v', rfl, rfl, same_sqt s2.sub e, e2, fin _ (.f r2)⟩)
    · rename_i z0 i0
      by_cases hsm : small z0.length = true
      · rw [if_pos hsm] at q
        obtain ⟨c, e1, rfl⟩ := opt_map_some q
        cases ry with | f ry =>
        cases ry
        cases rv with | f rv =>
        cases rv
        exact .inr (.inr ⟨_, _, c, rfl, rfl, by rw [S_len]; exact small_line hsm, by rw [S_list]; exact e1, fin _ (.f (.str [c]))⟩)
      · rw [if_neg hsm] at q; cases q
    · rename_i n0 i0
      cases ry with | f ry =>
      cases ry
      cases rv with | loc e =>
      rename_i a0
      cases q2 : st2[n0]? with
      | none => rw [q2] at q; cases q
      | some cl =>
        rw [q2] at q
        have k := s2.cell n0 a0 cl e q2
        cases cl with
        | lstF xs =>
          obtain ⟨x, e1, rfl⟩ := opt_map_some q
          obtain ⟨_, vs, e3, rs⟩ := k
          obtain ⟨v', e2, r2⟩ := rs.atI e1
          exact .inl ⟨_, _, _, v', rfl, rfl, SqL.of e3, e2, fin _ (.f r2)⟩
        | lstW xs =>
          obtain ⟨_, vs, e3, rs⟩ := k
          obtain ⟨v', e2, r2⟩ := rs.atI q
          exact .inl ⟨_, _, _, v', rfl, rfl, SqL.of e3, e2, fin _ r2⟩
        | dead => cases q
        | dct _ => cases q
        | ins _ _ => cases q
    · cases q
/-! ### slices -/
abbrev TOv := Env → Store → Res (Option Int)
def RdO (K : PySem.W.Frag) (T : Tab) (E : XK) (t : TOv) : TO := fun σ H Q => ∃ Z ι env st, SimS K T Z ι st H ∧ EnvR K T Z ι σ env ∧ Post K T E Z ι (t env st) fun o _ H' _ _ => Q o H'
abbrev VO (X : Cx) (T : Tab) (E : XK) (e : Option Expr) (t : TOv) : Prop := PO X e (RdO X.K T E t)
theorem po_weak {eo : Option Expr} {t t' : TO} (h : PO X eo t) (w : ∀ σ H Q, t' σ H Q → t σ H Q) : PO X eo t' := ⟨fun pins s σ H Q I q => h.run pins s σ H Q I (w σ H Q q)⟩
def oNone : TOv := fun _ st => .ok none st
def oSome (t : TEv) : TOv := fun env st => (t env st).bind fun w st1 => match w with
  | .f (.int i) => .ok (some i) st1
  | _ => .stuck
theorem vo_none : VO X T E none oNone := po_weak po_none fun σ H Q h => by
  obtain ⟨Z, ι, env, st, s, re, p⟩ := h
  exact p H Z ι Le.refl s
theorem vo_some (h : VE X T E e te) : VO X T E (some e) (oSome te) := po_weak (po_some h) fun σ H Q h => by
  obtain ⟨Z, ι, env, st, s, re, p⟩ := h
  refine ⟨Z, ι, env, st, s, re, (Post.bind p).imp fun w st1 H1 Z1 ι1 l1 s1 p1 v rv => ?_⟩
  cases rv with
  | loc _ => exact p1.elim
  | f rv => cases rv with
    | int i => exact ⟨i, rfl, p1 H1 Z1 ι1 Le.refl s1⟩
    | _ => exact p1.elim
def cutL {α : Type} (xs : List α) (lo hi : Option Int) : List α := (xs.drop (HT.sIx xs.length 0 lo)).take (HT.sIx xs.length xs.length hi - HT.sIx xs.length 0 lo)
def slF (lo hi : Option Int) : F → Option F
  | .lst xs => some (.lst (cutL xs lo hi))
  | .tup xs => some (.tup (cutL xs lo hi))
  | .str s => if small s.length = true then some (.str (cutL s lo hi)) else none
  | _ => none
def rSlF (K : PySem.W.Frag) : V → Option Int → Option Int → Hp → VK → Prop := fun x lo hi H Q => rSlL K x lo hi H Q ∨ (rSlA K x lo hi H Q ∨ rSlS x lo hi H Q)
theorem sr_sl : SlR X (rSlF X.K) := SlR.or sl_list (SlR.or sl_tupA sl_str)
theorem sl_ok {Z H : Hp} {x : V} {fx z : F} {lo hi : Option Int} {Q : VK} (s : Same Z H) (vx : View X.K T Z H x fx) (h : slF lo hi fx = some z) (g : Give X.K T Z H z Q) : rSlF X.K x lo hi H Q := by
  cases fx with
  | lst xs =>
    cases h
    obtain ⟨a, vs, rfl, e1, r1⟩ := vx.lst' s
    refine .inl ⟨a, vs, rfl, SqL.of e1, fun p hp => g.new s hp ?_⟩
    have gr := Grow.laid (o := .lst (cutV vs lo hi)) s hp
    refine .lst upd_same (RepFs.mono gr.z ?_)
    unfold cutV cutL
    rw [r1.length]
    exact (r1.drop _).take _
  | tup xs =>
    cases h
    obtain ⟨a, vs, rfl, e1, r1⟩ := vx.tup'
    refine .inr (.inl ⟨a, vs, rfl, same_sqt s e1, fun hw => ?_, fun _ p hp => g.new s hp ?_⟩)
    · have e : cutL xs lo hi = xs := by
        unfold cutL
        rw [r1.length] at hw
        rw [hw.1, hw.2]
        simp
      rw [e] at g
      exact g.here s (.tup e1 r1)
    · have gr := Grow.laid (o := .tup (cutV vs lo hi)) s hp
      refine .tup (SqT.of upd_same) (RepFs.mono gr.z ?_)
      unfold cutV cutL
      rw [r1.length]
      exact (r1.drop _).take _
  | str z =>
    obtain ⟨hs, h⟩ := ifSome h
    cases h; cases vx.str
    refine .inr (.inr ⟨_, rfl, by rw [S_len]; exact small_line hs, ?_⟩)
    have e : cutS (S z) lo hi = S (cutL z lo hi) := by
      unfold cutS cutL
      rw [S_list, S_len]
      rfl
    rw [e]
    exact g.here s (.str _)
  | _ => cases h
def eSl (ta : TEv) (tl th : TOv) : TEv := fun env st => (ta env st).bind fun w st1 => (tl env st1).bind fun lo st2 => (th env st2).bind fun hi st3 => lk1 (slF lo hi) w st3
theorem ve_sl {lo hi : Option Expr} {tl th : TOv} (ha : VE X T E a ta) (hl : VO X T E lo tl) (hh : VO X T E hi th) : VE X T E (.Subscript a (.Slice lo hi none p2) pos) (eSl ta tl th) := pe_weak (pe_slice sr_sl ha hl hh) fun σ H Q h => by
  obtain ⟨Z, ι, env, st, s, re, p⟩ := h
  refine ⟨Z, ι, env, st, s, re, (Post.bind p).imp fun w st1 H1 Z1 ι1 l1 s1 p1 v rv => ?_⟩
  refine ⟨Z1, ι1, env, st1, s1, re.mono l1, (Post.bind p1).imp fun lo st2 H2 Z2 ι2 l2 s2 p2 => ?_⟩
  refine ⟨Z2, ι2, env, st2, s2, (re.mono l1).mono l2, (Post.bind p2).imp fun hi st3 H3 Z3 ι3 l3 s3 p3 => ?_⟩
  obtain ⟨x, z, e1, e2, g⟩ := lk1_ok s3 p3
  exact sl_ok s3.sub (((rv.mono l2).mono l3).view s3 e1) e2 g
/-! ### calls of built-in functions and types on data -/
inductive Views (K : PySem.W.Frag) (T : Tab) (Z H : Hp) : List V → List F → Prop
  | nil : Views K T Z H [] []
  | cons {v : V} {x : F} {vs : List V} {xs : List F} : View K T Z H v x → Views K T Z H vs xs → Views K T Z H (v :: vs) (x :: xs)
def looks (st : Store) : List W → Option (List F)
  | [] => some []
  | w :: ws => (look st w).bind fun x => (looks st ws).map fun xs => x :: xs
theorem RepWs.views {K : PySem.W.Frag} {Z H : Hp} {ι : List Addr} {st : Store} (s : SimS K T Z ι st H) : ∀ {vs : List V} {ws : List W} {xs : List F}, RepWs K T Z ι vs ws → looks st ws = some xs → Views K T Z H vs xs
  | _, _, _, .nil, h => by cases h; exact .nil
  | _, _, _, .cons r t, h => by
    obtain ⟨x, e1, h⟩ := opt_bind_some (show (look st _).bind _ = some _ from h)
    obtain ⟨xs, e2, rfl⟩ := opt_map_some h
    exact .cons (r.view s e1) (RepWs.views s t e2)
def OpN (X : Cx) (T : Tab) (r : List V → Hp → VK → Prop) (g : List F → Option F) : Prop := ∀ Z H vs fs z Q, Same Z H → Views X.K T Z H vs fs → g fs = some z → Give X.K T Z H z Q → r vs H Q
def lkN (g : List F → Option F) (ws : List W) (st : Store) : Res W := ofOpt ((looks st ws).bind g) st
def eCB (g : List F → Option F) (t : TAv) : TEv := fun env st => (t env st).bind fun ws st1 => lkN g ws st1
theorem lkN_ok {K : PySem.W.Frag} {Z H : Hp} {ι : List Addr} {g : List F → Option F} {ws : List W} {st : Store} {Q : VK} (s : SimS K T Z ι st H) (h : Post K T E Z ι (lkN g ws st) fun w _ H' Z' ι' => ∀ v, RepW K T Z' ι' v w → Q v H') :
    ∃ xs z, looks st ws = some xs ∧ g xs = some z ∧ Give K T Z H z Q := by
  unfold lkN at h
  cases q : looks st ws with
  | none => rw [q] at h; exact h.elim
  | some x =>
    rw [q] at h
    cases q1 : g x with
    | none => simp only [Option.bind_some, q1] at h; exact h.elim
    | some z =>
      simp only [Option.bind_some, q1] at h
      exact ⟨x, z, rfl, q1, fun v H' Z' gr r => h H' Z' ι gr.le (s.grow gr) v (.f r)⟩
theorem rd_cb {r : List V → Hp → VK → Prop} {g : List F → Option F} (ho : OpN X T r g) {σ : L2.St} {H : Hp} {Q : VK} (h : RdE X.K T E (eCB g tr) σ H Q) : tCB r (RdA X.K T E tr) σ H Q := by
  obtain ⟨Z, ι, env, st, s, re, p⟩ := h
  refine ⟨Z, ι, env, st, s, re, (Post.bind p).imp fun ws st1 H1 Z1 ι1 l1 s1 p1 vs rvs => ?_⟩
  obtain ⟨xs, z, e1, e2, g⟩ := lkN_ok s1 p1
  exact ho Z1 H1 vs xs z Q s1.sub (rvs.views s1 e1) e2 g
variable {r : List V → Hp → VK → Prop} {g : List F → Option F} {x : Str} {id Ty : String} {p : Pos}
theorem ve_callB (hr : CallR X (.builtin id) r) (ho : OpN X T r g) (hg : Gl X x) (hm : X.mg x = none) (hv : bootBuiltins x = some (.builtin id)) (ha : VA X T E (e :: es) tr) (hn : x ≠ "__name__" := by decide) (hdb : (x == ("__debug__" : Str)) = false := by decide)
    (he : starEach (e :: es) X.env = (false, eval e X.env) :: starEach es X.env := by rfl) (hpl : (backTo pos (starEach es X.env)).any (·.1) = false := by rfl) : VE X T E (.Call (.Name x p) (e :: es) [] pos) (eCB g tr) :=
  pe_weak (pe_callB hr hg hm hv ha hn hdb he hpl) fun _ _ _ h => rd_cb ho h
theorem ve_callTy (hr : CallR X (.type Ty) r) (ho : OpN X T r g) (hg : Gl X x) (hm : X.mg x = none) (hv : bootBuiltins x = some (.type Ty)) (ha : VA X T E (e :: es) tr) (hn : x ≠ "__name__" := by decide) (hdb : (x == ("__debug__" : Str)) = false := by decide)
    (he : starEach (e :: es) X.env = (false, eval e X.env) :: starEach es X.env := by rfl) (hpl : (backTo pos (starEach es X.env)).any (·.1) = false := by rfl) : VE X T E (.Call (.Name x p) (e :: es) [] pos) (eCB g tr) :=
  pe_weak (pe_callTy hr hg hm hv ha hn hdb he hpl) fun _ _ _ h => rd_cb ho h
end
end VS

set_option Elab.async false
set_option linter.all false
set_option maxRecDepth 100000
set_option maxHeartbeats 4000000
set_option autoImplicit false
/-! VI: the built-in functions by name, isinstance, methods of texts and lists on data. -/
namespace VS
open PySem PySem.Spec PyProof.Rows L2
section
variable {X : Cx} {T : Tab}
/-! ### one and two arguments -/
theorem Views.one {K : PySem.W.Frag} {Z H : Hp} {vs : List V} {x : F} (h : Views K T Z H vs [x]) : ∃ v, vs = [v] ∧ View K T Z H v x := by
  cases h with | cons h t => cases t; exact ⟨_, rfl, h⟩
theorem Views.two {K : PySem.W.Frag} {Z H : Hp} {vs : List V} {x y : F} (h : Views K T Z H vs [x, y]) : ∃ v u, vs = [v, u] ∧ View K T Z H v x ∧ View K T Z H u y := by
  cases h with | cons h t => obtain ⟨u, rfl, hu⟩ := t.one; exact ⟨_, u, rfl, h, hu⟩
/-- a function of one argument -/
def g1 (g : F → Option F) : List F → Option F
  | [x] => g x
  | _ => none
def g2 (g : F → F → Option F) : List F → Option F
  | [x, y] => g x y
  | _ => none
theorem on1 {r : List V → Hp → VK → Prop} {g : F → Option F} (h : ∀ Z H x fx z Q, Same Z H → View X.K T Z H x fx → g fx = some z → Give X.K T Z H z Q → r [x] H Q) : OpN X T r (g1 g) := by
  intro Z H vs fs z Q s v e gi
  match fs, v, e with
  | [x], v, e => obtain ⟨u, rfl, hu⟩ := v.one; exact h Z H u x z Q s hu e gi
  | [], _, e => cases e
  | _ :: _ :: _, _, e => cases e
theorem on2 {r : List V → Hp → VK → Prop} {g : F → F → Option F} (h : ∀ Z H x y fx fy z Q, Same Z H → View X.K T Z H x fx → View X.K T Z H y fy → g fx fy = some z → Give X.K T Z H z Q → r [x, y] H Q) : OpN X T r (g2 g) := by
  intro Z H vs fs z Q s v e gi
  match fs, v, e with
  | [x, y], v, e => obtain ⟨u, w, rfl, hu, hw⟩ := v.two; exact h Z H u w x y z Q s hu hw e gi
  | [], _, e => cases e
  | [_], _, e => cases e
  | _ :: _ :: _ :: _, _, e => cases e
/-! ### len -/
def lenF : F → Option F
  | .str s => if small s.length = true then some (.int s.length) else none
  | .lst xs => some (.int xs.length)
  | .tup xs => some (.int xs.length)
  | .dct xs => some (.int xs.length)
  | _ => none
def rLenF (K : PySem.W.Frag) : List V → Hp → VK → Prop := fun xs H Q => (∃ x n, xs = [x] ∧ LenV K x H n ∧ Q (.int n) H) ∨ (∃ a kvs, xs = [V.ref a] ∧ H a = some (.dK kvs) ∧ Q (.int kvs.length) H)
theorem cr_len : CallR X (.builtin "len") (rLenF X.K) := CallR.or call_len call_lenD
theorem RepFk.length {K : PySem.W.Frag} {Z : Hp} : ∀ {vs : List (Key × V)} {xs : List (F × F)}, RepFk K T Z vs xs → vs.length = xs.length
  | _, _, .nil => rfl
  | _, _, .cons _ _ t => by rw [List.length_cons, List.length_cons, RepFk.length t]
theorem on_len : OpN X T (rLenF X.K) (g1 lenF) := on1 fun Z H x fx z Q s vx h g => by
  cases fx with
  | str a =>
    obtain ⟨hs, h⟩ := ifSome h
    cases h; cases vx.str
    exact .inl ⟨_, a.length, rfl, ⟨by rw [S_len]; exact small_line hs, (S_len a).symm⟩, g.here s (.int _)⟩
  | lst xs =>
    cases h
    obtain ⟨a, vs, rfl, e1, r1⟩ := vx.lst' s
    exact .inl ⟨_, xs.length, rfl, .inl ⟨vs, SqL.of e1, r1.length.symm⟩, g.here s (.int _)⟩
  | tup xs =>
    cases h
    obtain ⟨a, vs, rfl, e1, r1⟩ := vx.tup'
    exact .inl ⟨_, xs.length, rfl, .inr ⟨vs, same_sqt s e1, r1.length.symm⟩, g.here s (.int _)⟩
  | dct xs =>
    cases h
    obtain ⟨a, vs, rfl, e1, r1⟩ := vx.dct' s
    exact .inr ⟨a, vs, rfl, e1, by rw [r1.length]; exact g.here s (.int _)⟩
  | _ => cases h
/-! ### max, min -/
def max2F : F → F → Option F
  | .int i, .int j => some (.int (if j > i then j else i))
  | _, _ => none
def min2F : F → F → Option F
  | .int i, .int j => some (.int (if j < i then j else i))
  | _, _ => none
theorem on_max2 : OpN X T (fun xs H Q => ∃ i j, xs = [.int i, .int j] ∧ Q (.int (if j > i then j else i)) H) (g2 max2F) := on2 fun Z H x y fx fy z Q s vx vy h g => by
  cases fx with
  | int i => cases fy with
    | int j => cases h; cases vx.int; cases vy.int; exact ⟨i, j, rfl, g.here s (.int _)⟩
    | _ => cases h
  | _ => cases h
theorem on_min2 : OpN X T (fun xs H Q => ∃ i j, xs = [.int i, .int j] ∧ Q (.int (if j < i then j else i)) H) (g2 min2F) := on2 fun Z H x y fx fy z Q s vx vy h g => by
  cases fx with
  | int i => cases fy with
    | int j => cases h; cases vx.int; cases vy.int; exact ⟨i, j, rfl, g.here s (.int _)⟩
    | _ => cases h
  | _ => cases h
/-- the ints of a list -/
def intsOf : List F → Option (List Int)
  | [] => some []
  | .int i :: r => (intsOf r).map (i :: ·)
  | _ :: _ => none
theorem intsOf_eq : ∀ {xs : List F} {ns : List Int}, intsOf xs = some ns → xs = ns.map F.int
  | [], _, h => by cases h; rfl
  | .int i :: r, _, h => by
    obtain ⟨m, e, rfl⟩ := opt_map_some (show (intsOf r).map _ = some _ from h)
    rw [intsOf_eq e]
    rfl
  | .non :: _, _, h => by cases h
  | .bl _ :: _, _, h => by cases h
  | .str _ :: _, _, h => by cases h
  | .tup _ :: _, _, h => by cases h
  | .lst _ :: _, _, h => by cases h
  | .dct _ :: _, _, h => by cases h
  | .obj _ _ :: _, _, h => by cases h
  | .scr _ :: _, _, h => by cases h
theorem intsOf_map (ns : List Int) : intsOf (ns.map F.int) = some ns := by
  induction ns with
  | nil => rfl
  | cons n r ih => show (intsOf (r.map F.int)).map (n :: ·) = _; rw [ih]; rfl
def blsOf : List F → Option (List Bool)
  | [] => some []
  | .bl i :: r => (blsOf r).map (i :: ·)
  | _ :: _ => none
theorem blsOf_eq : ∀ {xs : List F} {ns : List Bool}, blsOf xs = some ns → xs = ns.map F.bl
  | [], _, h => by cases h; rfl
  | .bl i :: r, _, h => by
    obtain ⟨m, e, rfl⟩ := opt_map_some (show (blsOf r).map _ = some _ from h)
    rw [blsOf_eq e]
    rfl
  | .non :: _, _, h => by cases h
  | .int _ :: _, _, h => by cases h
  | .str _ :: _, _, h => by cases h
  | .tup _ :: _, _, h => by cases h
  | .lst _ :: _, _, h => by cases h
  | .dct _ :: _, _, h => by cases h
  | .obj _ _ :: _, _, h => by cases h
  | .scr _ :: _, _, h => by cases h
theorem blsOf_map (ns : List Bool) : blsOf (ns.map F.bl) = some ns := by
  induction ns with
  | nil => rfl
  | cons n r ih => show (blsOf (r.map F.bl)).map (n :: ·) = _; rw [ih]; rfl
def strsOf : List F → Option (List (List Nat))
  | [] => some []
  | .str i :: r => (strsOf r).map (i :: ·)
  | _ :: _ => none
theorem strsOf_eq : ∀ {xs : List F} {ns : List (List Nat)}, strsOf xs = some ns → xs = ns.map F.str
  | [], _, h => by cases h; rfl
  | .str i :: r, _, h => by
    obtain ⟨m, e, rfl⟩ := opt_map_some (show (strsOf r).map _ = some _ from h)
    rw [strsOf_eq e]
    rfl
  | .non :: _, _, h => by cases h
  | .int _ :: _, _, h => by cases h
  | .bl _ :: _, _, h => by cases h
  | .tup _ :: _, _, h => by cases h
  | .lst _ :: _, _, h => by cases h
  | .dct _ :: _, _, h => by cases h
  | .obj _ _ :: _, _, h => by cases h
  | .scr _ :: _, _, h => by cases h
theorem strsOf_map (ns : List (List Nat)) : strsOf (ns.map F.str) = some ns := by
  induction ns with
  | nil => rfl
  | cons n r ih => show (strsOf (r.map F.str)).map (n :: ·) = _; rw [ih]; rfl
/-- the greatest, the least of some ints -/
def maxL : Int → List Int → Int
  | m, [] => m
  | m, x :: r => maxL (if x > m then x else m) r
def minL : Int → List Int → Int
  | m, [] => m
  | m, x :: r => minL (if x < m then x else m) r
theorem maxL_spec : ∀ (r : List Int) (m : Int), (maxL m r ∈ m :: r) ∧ ∀ y ∈ m :: r, y ≤ maxL m r
  | [], m => ⟨List.mem_cons_self, fun y hy => by simp at hy; subst hy; exact Int.le_refl _⟩
  | x :: r, m => by
    have e : maxL m (x :: r) = maxL (if x > m then x else m) r := rfl
    rw [e]
    obtain ⟨k, hk, h0⟩ : ∃ k, (if x > m then x else m) = k ∧ (k = x ∨ k = m) ∧ x ≤ k ∧ m ≤ k := ⟨_, rfl, by split <;> omega⟩
    rw [hk]
    obtain ⟨h1, h2⟩ := maxL_spec r k
    have h3 := h2 _ List.mem_cons_self
    refine ⟨?_, fun y hy => ?_⟩
    · rcases List.mem_cons.mp h1 with h | h
      · rw [h]; rcases h0.1 with h | h <;> simp [h]
      · exact List.mem_cons_of_mem _ (List.mem_cons_of_mem _ h)
    · rcases List.mem_cons.mp hy with h | h
      · subst h; omega
      · rcases List.mem_cons.mp h with h | h
        · subst h; omega
        · exact h2 y (List.mem_cons_of_mem _ h)
theorem minL_spec : ∀ (r : List Int) (m : Int), (minL m r ∈ m :: r) ∧ ∀ y ∈ m :: r, minL m r ≤ y
  | [], m => ⟨List.mem_cons_self, fun y hy => by simp at hy; subst hy; exact Int.le_refl _⟩
  | x :: r, m => by
    have e : minL m (x :: r) = minL (if x < m then x else m) r := rfl
    rw [e]
    obtain ⟨k, hk, h0⟩ : ∃ k, (if x < m then x else m) = k ∧ (k = x ∨ k = m) ∧ k ≤ x ∧ k ≤ m := ⟨_, rfl, by split <;> omega⟩
    rw [hk]
    obtain ⟨h1, h2⟩ := minL_spec r k
    have h3 := h2 _ List.mem_cons_self
    refine ⟨?_, fun y hy => ?_⟩
    · rcases List.mem_cons.mp h1 with h | h
      · rw [h]; rcases h0.1 with h | h <;> simp [h]
      · exact List.mem_cons_of_mem _ (List.mem_cons_of_mem _ h)
    · rcases List.mem_cons.mp hy with h | h
      · subst h; omega
      · rcases List.mem_cons.mp h with h | h
        · subst h; omega
        · exact h2 y (List.mem_cons_of_mem _ h)
def maxF : F → Option F
  | .lst xs => (intsOf xs).bind fun ns => match ns with
    | [] => none
    | m :: r => some (.int (maxL m r))
  | _ => none
def minF : F → Option F
  | .lst xs => (intsOf xs).bind fun ns => match ns with
    | [] => none
    | m :: r => some (.int (minL m r))
  | _ => none
theorem View.ints {K : PySem.W.Frag} {Z H : Hp} {v : V} {xs : List F} {ns : List Int} (s : Same Z H) (h : View K T Z H v (.lst xs)) (e : intsOf xs = some ns) : ∃ a, v = .ref a ∧ SqL K H a (ns.map V.int) := by
  obtain ⟨a, vs, rfl, e1, r1⟩ := h.lst' s
  have := intsOf_eq e
  subst this
  rw [r1.ints] at e1
  exact ⟨a, rfl, SqL.of e1⟩
theorem on_max : OpN X T (rMax X.K) (g1 maxF) := on1 fun Z H x fx z Q s vx h g => by
  cases fx with
  | lst xs =>
    obtain ⟨ns, e, h⟩ := opt_bind_some h
    obtain ⟨a, rfl, hq⟩ := vx.ints s e
    cases ns with
    | nil => cases h
    | cons m r =>
      cases h
      refine ⟨a, m :: r, rfl, hq, by simp, fun k hk hm => ?_⟩
      obtain ⟨h1, h2⟩ := maxL_spec r m
      have : k = maxL m r := Int.le_antisymm (h2 k hk) (hm _ h1)
      rw [this]
      exact g.here s (.int _)
  | _ => cases h
theorem on_min : OpN X T (rMin X.K) (g1 minF) := on1 fun Z H x fx z Q s vx h g => by
  cases fx with
  | lst xs =>
    obtain ⟨ns, e, h⟩ := opt_bind_some h
    obtain ⟨a, rfl, hq⟩ := vx.ints s e
    cases ns with
    | nil => cases h
    | cons m r =>
      cases h
      refine ⟨a, m :: r, rfl, hq, by simp, fun k hk hm => ?_⟩
      obtain ⟨h1, h2⟩ := minL_spec r m
      have : k = minL m r := Int.le_antisymm (hm _ h1) (h2 k hk)
      rw [this]
      exact g.here s (.int _)
  | _ => cases h
/-! ### sum, any, all -/
def sumF : F → Option F
  | .lst xs => (intsOf xs).map fun ns => .int ns.sum
  | _ => none
theorem on_sum : OpN X T (rSum X.K) (g1 sumF) := on1 fun Z H x fx z Q s vx h g => by
  cases fx with
  | lst xs =>
    obtain ⟨ns, e, rfl⟩ := opt_map_some h
    obtain ⟨a, rfl, hq⟩ := vx.ints s e
    exact ⟨a, ns, rfl, hq, g.here s (.int _)⟩
  | _ => cases h
theorem View.bls {K : PySem.W.Frag} {Z H : Hp} {v : V} {xs : List F} {ns : List Bool} (s : Same Z H) (h : View K T Z H v (.lst xs)) (e : blsOf xs = some ns) : ∃ a, v = .ref a ∧ SqL K H a (ns.map V.bl) := by
  obtain ⟨a, vs, rfl, e1, r1⟩ := h.lst' s
  have := blsOf_eq e
  subst this
  rw [r1.bls] at e1
  exact ⟨a, rfl, SqL.of e1⟩
def anyF : F → Option F
  | .lst xs => (blsOf xs).map fun ns => .bl (ns.any id)
  | _ => none
def allB : F → Option F
  | .lst xs => (blsOf xs).map fun ns => .bl (ns.all id)
  | _ => none
theorem on_any : OpN X T (rAny X.K) (g1 anyF) := on1 fun Z H x fx z Q s vx h g => by
  cases fx with
  | lst xs =>
    obtain ⟨ns, e, rfl⟩ := opt_map_some h
    obtain ⟨a, rfl, hq⟩ := vx.bls s e
    exact ⟨a, ns, rfl, hq, g.here s (.bl _)⟩
  | _ => cases h
theorem on_all : OpN X T (rAll X.K) (g1 allB) := on1 fun Z H x fx z Q s vx h g => by
  cases fx with
  | lst xs =>
    obtain ⟨ns, e, rfl⟩ := opt_map_some h
    obtain ⟨a, rfl, hq⟩ := vx.bls s e
    exact ⟨a, ns, rfl, hq, g.here s (.bl _)⟩
  | _ => cases h
/-! ### sorted of ints -/
def insI (x : Int) : List Int → List Int
  | [] => [x]
  | y :: r => if x ≤ y then x :: y :: r else y :: insI x r
def sortI : List Int → List Int
  | [] => []
  | x :: r => insI x (sortI r)
theorem insI_perm (x : Int) : ∀ l : List Int, (insI x l).Perm (x :: l)
  | [] => List.Perm.refl _
  | y :: r => by
    unfold insI
    split
    · exact List.Perm.refl _
    · exact ((insI_perm x r).cons y).trans (List.Perm.swap x y r)
theorem sortI_perm : ∀ l : List Int, (sortI l).Perm l
  | [] => List.Perm.refl _
  | x :: r => (insI_perm x _).trans ((sortI_perm r).cons x)
theorem insI_sorted (x : Int) : ∀ l : List Int, l.Pairwise (· ≤ ·) → (insI x l).Pairwise (· ≤ ·)
  | [], _ => by simp [insI]
  | y :: r, h => by
    rw [List.pairwise_cons] at h
    unfold insI
    split
    · rename_i hxy
      rw [List.pairwise_cons]
      refine ⟨fun z hz => ?_, List.pairwise_cons.mpr h⟩
      rcases List.mem_cons.mp hz with e | e
      · subst e; exact hxy
      · exact Int.le_trans hxy (h.1 z e)
    · rename_i hxy
      rw [List.pairwise_cons]
      refine ⟨fun z hz => ?_, insI_sorted x r h.2⟩
      rcases List.mem_cons.mp ((insI_perm x r).mem_iff.mp hz) with e | e
      · subst e; omega
      · exact h.1 z e
theorem sortI_sorted : ∀ l : List Int, (sortI l).Pairwise (· ≤ ·)
  | [] => List.Pairwise.nil
  | x :: r => insI_sorted x _ (sortI_sorted r)
theorem sorted_unique : ∀ {a b : List Int}, a.Perm b → a.Pairwise (· ≤ ·) → b.Pairwise (· ≤ ·) → a = b := fun p h1 h2 => List.Perm.eq_of_pairwise (fun x y _ _ h h' => Int.le_antisymm h h') h1 h2 p
def sortedF : F → Option F
  | .lst xs => (intsOf xs).map fun ns => .lst ((sortI ns).map F.int)
  | _ => none
theorem on_sorted : OpN X T (rSortedI X.K) (g1 sortedF) := on1 fun Z H x fx z Q s vx h g => by
  cases fx with
  | lst xs =>
    obtain ⟨ns, e, rfl⟩ := opt_map_some h
    obtain ⟨a, rfl, hq⟩ := vx.ints s e
    refine ⟨a, ns, rfl, hq, fun ns' p hp hs hn => ?_⟩
    have : ns' = sortI ns := sorted_unique (hp.trans (sortI_perm ns).symm) hs (sortI_sorted ns)
    subst this
    exact g.new s hn (.lst upd_same (RepFs.ofInts _))
  | _ => cases h
/-! ### list(..), tuple(..), int(..), str(..), abs, bool -/
def listF : F → Option F
  | .lst xs => some (.lst xs)
  | .tup xs => some (.lst xs)
  | .scr ns => some (.lst (ns.map F.int))
  | _ => none
def rListF (K : PySem.W.Frag) : List V → Hp → VK → Prop := fun xs H Q => ∃ p ys, xs = [.ref p] ∧ (SqL K H p ys ∨ SqT K H p ys) ∧ ∀ l, H l = none → Q (.ref l) (upd H l (.lst ys))
theorem on_list : OpN X T (rListF X.K) (g1 listF) := on1 fun Z H x fx z Q s vx h g => by
  cases fx with
  | lst xs =>
    cases h
    obtain ⟨a, vs, rfl, e1, r1⟩ := vx.lst' s
    exact ⟨a, vs, rfl, .inl (SqL.of e1), fun p hp => g.new s hp (.lst upd_same (r1.mono (Grow.laid (o := .lst vs) s hp).z))⟩
  | tup xs =>
    cases h
    obtain ⟨a, vs, rfl, e1, r1⟩ := vx.tup'
    exact ⟨a, vs, rfl, .inr (same_sqt s e1), fun p hp => g.new s hp (.lst upd_same (r1.mono (Grow.laid (o := .lst vs) s hp).z))⟩
  | scr ns =>
    cases h
    cases vx with | f r =>
    cases r with | scr e =>
    exact ⟨_, _, rfl, .inl (s.seq e), fun p hp => g.new s hp (.lst upd_same (RepFs.ofInts ns))⟩
  | _ => cases h
def tupleF : F → Option F
  | .lst xs => some (.tup xs)
  | .tup xs => some (.tup xs)
  | _ => none
def rTupleF (K : PySem.W.Frag) : List V → Hp → VK → Prop := fun xs H Q => ∃ p ys, xs = [.ref p] ∧ ((SqL K H p ys ∧ ∀ l, H l = none → Q (.ref l) (upd H l (.tup ys))) ∨ (SqT K H p ys ∧ Q (.ref p) H))
theorem on_tuple : OpN X T (rTupleF X.K) (g1 tupleF) := on1 fun Z H x fx z Q s vx h g => by
  cases fx with
  | lst xs =>
    cases h
    obtain ⟨a, vs, rfl, e1, r1⟩ := vx.lst' s
    exact ⟨a, vs, rfl, .inl ⟨SqL.of e1, fun p hp => g.new s hp (.tup (SqT.of upd_same) (r1.mono (Grow.laid (o := .tup vs) s hp).z))⟩⟩
  | tup xs =>
    cases h
    obtain ⟨a, vs, rfl, e1, r1⟩ := vx.tup'
    exact ⟨a, vs, rfl, .inr ⟨same_sqt s e1, g.here s (.tup e1 r1)⟩⟩
  | _ => cases h
def intF : F → Option F
  | .int i => some (.int i)
  | .bl k => some (.int (if k then 1 else 0))
  | _ => none
theorem on_int : OpN X T (fun xs H Q => (∃ i, xs = [.int i] ∧ Q (.int i) H) ∨ ∃ k, xs = [.bl k] ∧ Q (.int (if k then 1 else 0)) H) (g1 intF) := on1 fun Z H x fx z Q s vx h g => by
  cases fx with
  | int i => cases h; cases vx.int; exact .inl ⟨i, rfl, g.here s (.int _)⟩
  | bl i => cases h; cases vx.bl; exact .inr ⟨i, rfl, g.here s (.int _)⟩
  | _ => cases h
def boolF : F → Option F
  | .int i => some (.bl (i != 0))
  | .bl k => some (.bl k)
  | _ => none
theorem on_bool : OpN X T (fun xs H Q => (∃ i, xs = [.int i] ∧ Q (.bl (i != 0)) H) ∨ ∃ k, xs = [.bl k] ∧ Q (.bl k) H) (g1 boolF) := on1 fun Z H x fx z Q s vx h g => by
  cases fx with
  | int i => cases h; cases vx.int; exact .inl ⟨i, rfl, g.here s (.bl _)⟩
  | bl i => cases h; cases vx.bl; exact .inr ⟨i, rfl, g.here s (.bl _)⟩
  | _ => cases h
def absF : F → Option F
  | .int i => some (.int (if i < 0 then -i else i))
  | _ => none
theorem on_abs : OpN X T (fun xs H Q => ∃ i, xs = [.int i] ∧ Q (.int (if i < 0 then -i else i)) H) (g1 absF) := on1 fun Z H x fx z Q s vx h g => by
  cases fx with
  | int i => cases h; cases vx.int; exact ⟨i, rfl, g.here s (.int _)⟩
  | _ => cases h
end
end VS

set_option Elab.async false
set_option linter.all false
set_option maxRecDepth 100000
set_option maxHeartbeats 4000000
set_option autoImplicit false
/-! VJ: what is walked; list comprehensions. -/
namespace VS
open PySem PySem.Spec PyProof.Rows L2
section
variable {X : Cx} {T : Tab} {E : XK} {a b c e tg : Expr} {es : List Expr} {ta tb tc te : TEv} {tr : TAv} {pos pos' p p2 : Pos}
/-! ### what is walked -/
def iSeq (t : TEv) : TIv := fun env st => (t env st).bind fun w st1 => match w with
  | .f (.lst xs) => .ok (xs.map W.f) st1
  | _ => .stuck
theorem map_get {xs : List F} {i : Nat} {w : W} (h : (xs.map W.f)[i]? = some w) : ∃ x, xs[i]? = some x ∧ w = .f x := by
  rw [List.getElem?_map] at h
  obtain ⟨x, e, rfl⟩ := opt_map_some h
  exact ⟨x, e, rfl⟩
theorem map_none {xs : List F} {i : Nat} (h : (xs.map W.f)[i]? = none) : xs.length ≤ i := by
  have := List.getElem?_eq_none_iff.mp h
  simpa using this
theorem sql_inj {K : PySem.W.Frag} {H : Hp} {a : Addr} {vs us : List V} (h : H a = some (.lst vs)) (hk : K.lookup a = none ∨ True) : True := trivial
theorem walks_list {K : PySem.W.Frag} {Z : Hp} {ι : List Addr} {a : Addr} {vs : List V} {xs : List F} (e : Z a = some (.lst vs)) (r : RepFs K T Z vs xs) : Walks K T Z ι (Itl K a) (xs.map W.f) := by
  intro i Z' ι' H' st' l s
  have e' := s.sub _ _ (l.z _ _ e)
  refine ⟨fun w h => ?_, fun h => ⟨vs, SqL.of e', by rw [r.length]; exact map_none h⟩⟩
  obtain ⟨x, hx, rfl⟩ := map_get h
  obtain ⟨v, hv, rv⟩ := r.get hx
  refine ⟨⟨vs, v, SqL.of e', hv⟩, fun y H2 hy => ?_⟩
  obtain ⟨rfl, hy⟩ := hy
  have := hy vs (SqL.of e')
  rw [hv] at this
  cases this
  exact ⟨Z', Grow.refl s.sub, .f (rv.mono l.z)⟩
theorem vi_list (h : VE X T E e te) : VI X T E tg e (iSeq te) := pi_weak (pi_list h) fun σ H R h => by
  obtain ⟨Z, ι, env, st, s, re, p⟩ := h
  refine ⟨Z, ι, env, st, s, re, (Post.bind p).imp fun w st1 H1 Z1 ι1 l1 s1 p1 v rv => ?_⟩
  cases rv with
  | loc _ => exact p1.elim
  | f rv => cases rv with
    | lst e r => exact ⟨_, rfl, ⟨_, SqL.of (s1.sub _ _ e)⟩, p1 H1 Z1 ι1 Le.refl s1 _ (walks_list e r)⟩
    | _ => exact p1.elim
def iTupV (t : TEv) : TIv := fun env st => (t env st).bind fun w st1 => match w with
  | .f (.tup xs) => .ok (xs.map W.f) st1
  | _ => .stuck
theorem walks_tup {K : PySem.W.Frag} {Z : Hp} {ι : List Addr} {a : Addr} {vs : List V} {xs : List F} (e : SqT K Z a vs) (r : RepFs K T Z vs xs) : Walks K T Z ι (Itt K a) (xs.map W.f) := by
  intro i Z' ι' H' st' l s
  have e' := same_sqt s.sub (same_sqt l.z e)
  refine ⟨fun w h => ?_, fun h => ⟨vs, e', by rw [r.length]; exact map_none h⟩⟩
  obtain ⟨x, hx, rfl⟩ := map_get h
  obtain ⟨v, hv, rv⟩ := r.get hx
  refine ⟨⟨vs, v, e', hv⟩, fun y H2 hy => ?_⟩
  obtain ⟨rfl, hy⟩ := hy
  have := hy vs e'
  rw [hv] at this
  cases this
  exact ⟨Z', Grow.refl s.sub, .f (rv.mono l.z)⟩
theorem vi_tup (h : VE X T E e te) : VI X T E tg e (iTupV te) := pi_weak (pi_tup h) fun σ H R h => by
  obtain ⟨Z, ι, env, st, s, re, p⟩ := h
  refine ⟨Z, ι, env, st, s, re, (Post.bind p).imp fun w st1 H1 Z1 ι1 l1 s1 p1 v rv => ?_⟩
  cases rv with
  | loc _ => exact p1.elim
  | f rv => cases rv with
    | tup e r => exact ⟨_, rfl, ⟨_, same_sqt s1.sub e⟩, p1 H1 Z1 ι1 Le.refl s1 _ (walks_tup e r)⟩
    | _ => exact p1.elim
/-- the signs of a text -/
def signs (s : List Nat) : List W := s.map fun c => W.f (.str [c])
def iStrV (t : TEv) : TIv := fun env st => (t env st).bind fun w st1 => match w with
  | .f (.str s) => .ok (signs s) st1
  | _ => .stuck
theorem walks_str {K : PySem.W.Frag} {Z : Hp} {ι : List Addr} (s : List Nat) : Walks K T Z ι (Its (S s)) (signs s) := by
  intro i Z' ι' H' st' l sm
  have hz : (S s).cps.size = s.length := S_len s
  unfold signs
  refine ⟨fun w h => ?_, fun h => ?_⟩
  · rw [List.getElem?_map] at h
    obtain ⟨c, hc, rfl⟩ := opt_map_some h
    have hi := (List.getElem?_eq_some_iff.mp hc).1
    refine ⟨show i < (S s).cps.size by rw [hz]; exact hi, fun y H2 hy => ?_⟩
    obtain ⟨rfl, c', hc', rfl⟩ := hy
    have : s[i]? = some c' := by
      have := hc'
      rw [show (S s).cps = s.toArray from rfl] at this
      simpa using this
    rw [hc] at this
    cases this
    exact ⟨Z', Grow.refl sm.sub, .f (.str [c])⟩
  · have := List.getElem?_eq_none_iff.mp h
    show (S s).cps.size ≤ i
    rw [hz]
    simpa using this
theorem vi_str (h : VE X T E e te) : VI X T E tg e (iStrV te) := pi_weak (pi_str h) fun σ H R h => by
  obtain ⟨Z, ι, env, st, s, re, p⟩ := h
  refine ⟨Z, ι, env, st, s, re, (Post.bind p).imp fun w st1 H1 Z1 ι1 l1 s1 p1 v rv => ?_⟩
  cases rv with
  | loc _ => exact p1.elim
  | f rv => cases rv with
    | str z => exact ⟨_, rfl, p1 H1 Z1 ι1 Le.refl s1 _ (walks_str z)⟩
    | _ => exact p1.elim
/-- lo, lo + c, .. (n of them) -/
def rangeW (lo c : Int) (n : Nat) : List W := (List.range n).map fun i => W.f (.int (lo + (i : Nat) * c))
theorem walks_rangeC {K : PySem.W.Frag} {Z : Hp} {ι : List Addr} (lo c : Int) (n : Nat) : Walks K T Z ι (Itc lo c n) (rangeW lo c n) := by
  intro i Z' ι' H' st' l sm
  unfold rangeW
  refine ⟨fun w h => ?_, fun h => ?_⟩
  · rw [List.getElem?_map] at h
    obtain ⟨k, hk, rfl⟩ := opt_map_some h
    obtain ⟨hi, hk⟩ := List.getElem?_eq_some_iff.mp hk
    rw [List.getElem_range] at hk
    subst hk
    rw [List.length_range] at hi
    refine ⟨hi, fun y H2 hy => ?_⟩
    obtain ⟨rfl, rfl⟩ := hy
    exact ⟨Z', Grow.refl sm.sub, .f (.int _)⟩
  · have := List.getElem?_eq_none_iff.mp h
    show n ≤ i
    simpa using this
theorem walks_range {K : PySem.W.Frag} {Z : Hp} {ι : List Addr} (lo : Int) (n : Nat) : Walks K T Z ι (Itr lo n) (rangeW lo 1 n) := by
  have h := walks_rangeC (K := K) (T := T) (Z := Z) (ι := ι) lo 1 n
  intro i Z' ι' H' st' l sm
  obtain ⟨h1, h2⟩ := h i Z' ι' H' st' l sm
  refine ⟨fun w hw => ?_, h2⟩
  obtain ⟨g, y⟩ := h1 w hw
  refine ⟨g, fun x H2 hx => y x H2 ?_⟩
  obtain ⟨e1, e2⟩ := hx
  exact ⟨e1, by rw [e2, Int.mul_one]⟩
def smallI (i : Int) : Bool := decide (-(2 ^ 62) ≤ i) && decide (i < 2 ^ 62)
def rng1 (ws : List W) (st : Store) : Res (List W) := match ws with
  | [.f (.int j)] => if smallI j = true then .ok (rangeW 0 1 j.toNat) st else .stuck
  | _ => .stuck
def iRange1 (t : TAv) : TIv := fun env st => (t env st).bind rng1
theorem smallI_ok {i : Int} (h : smallI i = true) : -(2 ^ 62) ≤ i ∧ i < 2 ^ 62 := by
  unfold smallI at h
  rw [Bool.and_eq_true] at h
  exact ⟨of_decide_eq_true h.1, of_decide_eq_true h.2⟩
theorem rep_int {K : PySem.W.Frag} {Z : Hp} {ι : List Addr} {v : V} {i : Int} (h : RepW K T Z ι v (.f (.int i))) : v = .int i := by
  cases h with | f r => cases r; rfl
theorem vi_range1 (hg : Gl X "range") (hm : X.mg "range" = none) (ha : VA X T E [a] tr) (hs : starEach [a] X.env = [(false, eval a X.env)] := by rfl) : VI X T E tg (.Call (.Name "range" p) [a] [] pos) (iRange1 tr) := pi_weak (pi_range1 hg hm ha hs) fun σ H R h => by
  obtain ⟨Z, ι, env, st, s, re, p⟩ := h
  refine ⟨Z, ι, env, st, s, re, (Post.bind p).imp fun ws st1 H1 Z1 ι1 l1 s1 p1 vs rvs => ?_⟩
  unfold rng1 at p1
  split at p1
  · rename_i j
    by_cases hj : smallI j = true
    · rw [if_pos hj] at p1
      obtain ⟨b1, b2⟩ := smallI_ok hj
      cases rvs with | cons r t =>
      cases t
      cases rep_int r
      exact ⟨j, rfl, b1, b2, p1 H1 Z1 ι1 Le.refl s1 _ (walks_range 0 j.toNat)⟩
    · rw [if_neg hj] at p1; exact p1.elim
  · exact p1.elim
def rng2 (ws : List W) (st : Store) : Res (List W) := match ws with
  | [.f (.int i), .f (.int j)] => if (smallI i && smallI j) = true then .ok (rangeW i 1 (j - i).toNat) st else .stuck
  | _ => .stuck
def iRange2 (t : TAv) : TIv := fun env st => (t env st).bind rng2
theorem vi_range2 (hg : Gl X "range") (hm : X.mg "range" = none) (ha : VA X T E [a, b] tr) (hs : starEach [a, b] X.env = [(false, eval a X.env), (false, eval b X.env)] := by rfl) (hs2 : starEach [b] X.env = [(false, eval b X.env)] := by rfl) : VI X T E tg (.Call (.Name "range" p) [a, b] [] pos) (iRange2 tr) := pi_weak (pi_range2 hg hm ha hs hs2) fun σ H R h => by
  obtain ⟨Z, ι, env, st, s, re, p⟩ := h
  refine ⟨Z, ι, env, st, s, re, (Post.bind p).imp fun ws st1 H1 Z1 ι1 l1 s1 p1 vs rvs => ?_⟩
  unfold rng2 at p1
  split at p1
  · rename_i i j
    by_cases hj : (smallI i && smallI j) = true
    · rw [if_pos hj] at p1
      rw [Bool.and_eq_true] at hj
      obtain ⟨b1, b2⟩ := smallI_ok hj.1
      obtain ⟨b3, b4⟩ := smallI_ok hj.2
      cases rvs with | cons r t =>
      cases t with | cons r2 t =>
      cases t
      cases rep_int r
      cases rep_int r2
      exact ⟨i, j, rfl, ⟨b1, b2, b3, b4⟩, p1 H1 Z1 ι1 Le.refl s1 _ (walks_range i (j - i).toNat)⟩
    · rw [if_neg hj] at p1; exact p1.elim
  · exact p1.elim
/-- range(i, j, -1) -/
def rng3 (ws : List W) (st : Store) : Res (List W) := match ws with
  | [.f (.int i), .f (.int j), .f (.int c)] => if (smallI i && smallI j && decide (c = -1)) = true then .ok (rangeW i (-1) (i - j).toNat) st else .stuck
  | _ => .stuck
def iRange3 (t : TAv) : TIv := fun env st => (t env st).bind rng3
theorem vi_range3 (hg : Gl X "range") (hm : X.mg "range" = none) (ha : VA X T E [a, b, c] tr) (hs : starEach [a, b, c] X.env = (false, eval a X.env) :: starEach [b, c] X.env := by rfl) (hpl : (backTo pos (starEach [b, c] X.env)).any (·.1) = false := by rfl) : VI X T E tg (.Call (.Name "range" p) [a, b, c] [] pos) (iRange3 tr) := pi_weak (pi_range3 hg hm ha hs hpl) fun σ H R h => by
  obtain ⟨Z, ι, env, st, s, re, p⟩ := h
  refine ⟨Z, ι, env, st, s, re, (Post.bind p).imp fun ws st1 H1 Z1 ι1 l1 s1 p1 vs rvs => ?_⟩
  unfold rng3 at p1
  split at p1
  · rename_i i j c
    by_cases hj : (smallI i && smallI j && decide (c = -1)) = true
    · rw [if_pos hj] at p1
      rw [Bool.and_eq_true, Bool.and_eq_true] at hj
      obtain ⟨b1, b2⟩ := smallI_ok hj.1.1
      obtain ⟨b3, b4⟩ := smallI_ok hj.1.2
      have hc : c = -1 := of_decide_eq_true hj.2
      subst hc
      cases rvs with | cons r t =>
      cases t with | cons r2 t =>
      cases t with | cons r3 t =>
      cases t
      cases rep_int r
      cases rep_int r2
      cases rep_int r3
      exact ⟨i, j, -1, (i - j).toNat, rfl, RgC.neg b1 b2 b3 b4, p1 H1 Z1 ι1 Le.refl s1 _ (walks_rangeC i (-1) (i - j).toNat)⟩
    · rw [if_neg hj] at p1; exact p1.elim
  · exact p1.elim

/-! ### targets that set some slots alone -/
def RdGw (K : PySem.W.Frag) (T : Tab) (ss : List Nat) (g : TGv) : TG := fun v σ H Q => ∃ Z ι env st w env', SimS K T Z ι st H ∧ EnvR K T Z ι σ env ∧ RepW K T Z ι v w ∧ g w env = some env' ∧ ∀ σ', EnvR K T Z ι σ' env' → (∀ vs, (∀ i ∈ ss, i ∈ vs) → wipe σ' vs = wipe σ vs) → Q σ' H
def RdGsw (K : PySem.W.Frag) (T : Tab) (ss : List Nat) (g : TGsv) : TGs := fun vs σ H Q => ∃ Z ι env st xs env', SimS K T Z ι st H ∧ EnvR K T Z ι σ env ∧ RepFs K T Z vs xs ∧ g xs env = some env' ∧ ∀ σ', EnvR K T Z ι σ' env' → (∀ vs, (∀ i ∈ ss, i ∈ vs) → wipe σ' vs = wipe σ vs) → Q σ' H
abbrev VGw (X : Cx) (T : Tab) (e : Expr) (ss : List Nat) (g : TGv) : Prop := PG X e (RdGw X.K T ss g)
abbrev VGsw (X : Cx) (T : Tab) (es : List Expr) (ss : List Nat) (g : TGsv) : Prop := PGs X es (RdGsw X.K T ss g)
theorem VGw.vg {ss : List Nat} {g : TGv} (h : VGw X T e ss g) : VG X T e g := pg_weak h fun v σ H Q q => by
  obtain ⟨Z, ι, env, st, w, env', s, re, rv, e, k⟩ := q
  exact ⟨Z, ι, env, st, w, env', s, re, rv, e, fun σ' r _ => k σ' r⟩
theorem wipe_set {σ : L2.St} {i : Nat} {o : Option V} : ∀ {vs : List Nat}, i ∈ vs → wipe (σ.set i o) vs = wipe σ vs
  | [], h => by cases h
  | v :: vs, h => by
    show (wipe (σ.set i o) vs).set v none = (wipe σ vs).set v none
    by_cases hv : i ∈ vs
    · rw [wipe_set hv]
    · have hi : i = v := by
        rcases List.mem_cons.mp h with e | e
        · exact e
        · exact absurd e hv
      subst hi
      have gen : ∀ (ws : List Nat) (σ : L2.St), i ∉ ws → (wipe (σ.set i o) ws).set i none = (wipe σ ws).set i none := by
        intro ws
        induction ws with
        | nil => intro σ _; show (σ.set i o).set i none = σ.set i none; rw [List.set_set]
        | cons u us ih =>
          intro σ hn
          rw [List.mem_cons, not_or] at hn
          show ((wipe (σ.set i o) us).set u none).set i none = ((wipe σ us).set u none).set i none
          rw [List.set_comm _ _ (Ne.symm hn.1), ih σ hn.2, List.set_comm _ _ hn.1]
      exact gen vs σ hv
theorem vgw_name {i : Nat} {x : Str} (hN : X.N.Nodup) (hi : X.N[i]? = some x) (hx : Loc X.env.scope x) (hf : X.fn x = true ∨ X.env.scope.names.lookup x = some .local := by first | exact .inl rfl | exact .inr rfl | assumption) : VGw X T (.Name x pos) [i] (gNm i) := pg_weak (pg_name hN hi hx hf) fun v σ H Q h => by
  obtain ⟨Z, ι, env, st, w, env', s, re, rv, e, k⟩ := h
  cases e
  exact k _ (re.set rv i) fun vs hv => wipe_set (hv i (by simp))
theorem vgsw_nil : VGsw X T [] [] gsNil := pgs_weak pgs_nil fun vs σ H Q h => by
  obtain ⟨Z, ι, env, st, xs, env', s, re, rv, e, k⟩ := h
  cases rv with
  | nil => cases e; exact ⟨rfl, k _ re fun _ _ => rfl⟩
  | cons _ _ => cases e
theorem vgsw_cons {es : List Expr} {g : TGv} {gs : TGsv} {s1 s2 : List Nat} (h1 : VGw X T e s1 g) (h2 : VGsw X T es s2 gs)
    (hs : (assignEach (e :: es) X.env).map (·.2) = assign e X.env :: (assignEach es X.env).map (·.2) := by rfl) : VGsw X T (e :: es) (s1 ++ s2) (gsCons g gs) := pgs_weak (pgs_cons h1 h2 hs) fun vs σ H Q h => by
  obtain ⟨Z, ι, env, st, xs, env', s, re, rv, e, k⟩ := h
  cases rv with
  | nil => cases e
  | cons r rr =>
    rename_i v x vs xs
    obtain ⟨env1, q, e⟩ := opt_bind_some (show (g (.f x) env).bind (fun env1 => gs xs env1) = some env' from e)
    refine ⟨_, _, rfl, Z, ι, env, st, _, env1, s, re, .f r, q, fun σ' re' hw => ⟨Z, ι, env1, st, xs, env', s, re', rr, e, fun σ2 re2 hw2 => k σ2 re2 fun vs hv => ?_⟩⟩
    rw [hw2 vs fun i hi => hv i (List.mem_append_right _ hi), hw vs fun i hi => hv i (List.mem_append_left _ hi)]
theorem vgw_tup {es : List Expr} {k : Nat} {gs : TGsv} {n : Nat} {ss : List Nat} (hc : X.calm = true) (h : VGsw X T es ss gs) (hl : ∀ xs env env', gs xs env = some env' → xs.length = n)
    (hn : (assignEach es X.env).length = n := by rfl) (hst : (assignEach es X.env).findIdx? (·.1) = none := by rfl) : VGw X T (.Tuple es k pos) ss (gTp gs) := pg_weak (pg_tup hc h hn hst) fun v σ H Q h => by
  obtain ⟨Z, ι, env, st, w, env', s, re, rv, e, k⟩ := h
  cases rv with
  | loc _ => cases e
  | f r =>
    cases r with
    | tup ht rs => exact ⟨_, _, rfl, same_sqt s.sub ht, by rw [rs.length]; exact hl _ _ _ e, Z, ι, env, st, _, env', s, re, rs, e, k⟩
    | _ => cases e

/-! ### list comprehensions -/
def wipeE (env : Env) : List Nat → Env
  | [] => env
  | v :: vs => (wipeE env vs).set v none
def lcL (g : TGv) (tt : TTv) (te : TEv) (L : Nat) (env : Env) : List W → Store → Res W
  | [], st => .ok (.loc L) st
  | w :: ws, st => match g w env with
    | none => .stuck
    | some env1 => (tt env1 st).bind fun b st1 => if b = true then (te env1 st1).bind fun y st2 => (doCell cAppend L [y] st2).bind fun _ st3 => lcL g tt te L env ws st3 else lcL g tt te L env ws st1
def eLc (ti : TIv) (g : TGv) (tt : TTv) (te : TEv) (vs : List Nat) : TEv := fun env st => (ti env st).bind fun ws st1 => lcL g tt te st1.length (wipeE env vs) ws (st1 ++ [.lstF []])
theorem env_wipe {K : PySem.W.Frag} {Z : Hp} {ι : List Addr} {σ : L2.St} {env : Env} (r : EnvR K T Z ι σ env) : ∀ vs : List Nat, EnvR K T Z ι (wipe σ vs) (wipeE env vs)
  | [] => r
  | v :: vs => by
    have ih := env_wipe r vs
    refine ⟨by show ((wipe σ vs).set v none).length = ((wipeE env vs).set v none).length; simp [ih.len], fun j u h => ?_⟩
    by_cases hj : v = j
    · subst hj
      have h : ((wipeE env vs).set v none)[v]? = some (some u) := h
      by_cases hl : v < (wipeE env vs).length
      · rw [List.getElem?_set_self hl] at h; cases h
      · rw [List.getElem?_eq_none (by simp; omega)] at h; cases h
    · have h : ((wipeE env vs).set v none)[j]? = some (some u) := h
      rw [List.getElem?_set_ne hj] at h
      obtain ⟨v', e, p⟩ := ih.get j u h
      exact ⟨v', by show ((wipe σ vs).set v none)[j]? = _; rw [List.getElem?_set_ne hj]; exact e, p⟩
theorem mut_append' {K : PySem.W.Frag} {Z H : Hp} {ι : List Addr} {a : Addr} {c c' : Cell} {w y : W} {v : V} (s : Same Z H) (k : CellOk K T Z ι H a c) (r : RepW K T Z ι v y) (h : cAppend c [y] = some (w, c')) :
    Z a = none ∧ ∃ acc, H a = some (.lst acc) ∧ acc.length < sizeLine ∧ CellOk K T Z ι (upd H a (.lst (acc ++ [v]))) a c' := by
  cases c with
  | lstF xs =>
    obtain ⟨hz, us, e, ru⟩ := k
    cases r with
    | f r1 =>
      obtain ⟨hs, h⟩ := ifSome h
      cases h
      exact ⟨hz, us, e, by rw [ru.length]; exact small_app hs, hz, _, upd_same, ru.append (.cons r1 .nil)⟩
    | loc r1 =>
      obtain ⟨hs, h⟩ := ifSome h
      cases h
      exact ⟨hz, us, e, by rw [ru.length]; exact small_app hs, hz, _, upd_same, (RepWs.ofFs ru).append (.cons (.loc r1) .nil)⟩
  | lstW xs =>
    obtain ⟨hz, us, e, ru⟩ := k
    obtain ⟨hs, h⟩ := ifSome h
    cases h
    exact ⟨hz, us, e, by rw [ru.length]; exact small_app hs, hz, _, upd_same, ru.append (.cons r .nil)⟩
  | dead => cases h
  | dct _ => cases h
  | ins _ _ => cases h
variable {ti : TIv} {g : TGv} {tt : TTv} {vs ss : List Nat}
theorem rd_lc {K : PySem.W.Frag} (hss : ∀ i ∈ ss, i ∈ vs) {σ : L2.St} {H : Hp} {Q : VK} (h : RdE K T E (eLc ti g tt te vs) σ H Q) : tLc (RdI K T E ti) (RdGw K T ss g) (RdT K T E tt) (RdE K T E te) vs σ H Q := by
  obtain ⟨Z, ι, env, st, s, re, p⟩ := h
  refine ⟨Z, ι, env, st, s, re, (Post.bind p).imp fun ws st1 H1 Z1 ι1 l1 s1 p1 J wk D hD => ?_⟩
  have hz := free_sub s1.sub hD
  have s2 := s1.alloc (c := Cell.lstF []) (o := .lst []) hD ⟨hz, [], upd_same, .nil⟩
  have hL : (ι1 ++ [D])[st1.length]? = some D := by rw [← s1.len]; exact last_get _ _
  refine ⟨fun i m H => ∃ Z ι st, Le Z1 (ι1 ++ [D]) Z ι ∧ SimS K T Z ι st H ∧ m = ws.length - i ∧ Post K T E Z ι (lcL g tt te st1.length (wipeE env vs) (ws.drop i) st) fun w _ H' Z' ι' => ∀ v, RepW K T Z' ι' v w → Q v H',
    ⟨ws.length, Z1, ι1 ++ [D], _, Le.refl, s2, by simp, p1.le Le.alloc⟩, fun i m H h => ?_⟩
  obtain ⟨Z2, ι2, st2, l2, s2, hm, p2⟩ := h
  have l12 : Le Z1 ι1 Z2 ι2 := Le.alloc.trans l2
  have wki := wk i Z2 ι2 H st2 l12 s2
  by_cases hlt : i < ws.length
  · have e : ws[i]? = some ws[i] := by simp [hlt]
    have ed : ws.drop i = ws[i] :: ws.drop (i + 1) := (List.drop_eq_getElem_cons hlt)
    rw [ed] at p2
    obtain ⟨go, yl⟩ := wki.1 _ e
    refine .inr ⟨go, fun H' => ∃ Z ι st, Le Z1 (ι1 ++ [D]) Z ι ∧ SimS K T Z ι st H' ∧ Post K T E Z ι (lcL g tt te st1.length (wipeE env vs) (ws.drop (i + 1)) st) fun w _ H' Z' ι' => ∀ v, RepW K T Z' ι' v w → Q v H',
      fun H' ⟨Z, ι, st, l, s, p⟩ => ⟨ws.length - (i + 1), by omega, Z, ι, st, l, s, rfl, p⟩, fun x H' y => ?_⟩
    obtain ⟨Z3, gr, rx⟩ := yl x H' y
    have p2 : Post K T E Z2 ι2 (match g ws[i] (wipeE env vs) with
      | none => Res.stuck
      | some env1 => (tt env1 st2).bind fun b st1' => if b = true then (te env1 st1').bind fun y st2 => (doCell cAppend st1.length [y] st2).bind fun _ st3 => lcL g tt te st1.length (wipeE env vs) (ws.drop (i + 1)) st3 else lcL g tt te st1.length (wipeE env vs) (ws.drop (i + 1)) st1') _ := p2
    cases q : g ws[i] (wipeE env vs) with
    | none => rw [q] at p2; exact p2.elim
    | some env3 =>
      rw [q] at p2
      have re0 := env_wipe (re.mono l1) vs
      refine ⟨Z3, ι2, wipeE env vs, st2, _, env3, s2.grow gr, (re0.mono l12).mono gr.le, rx, q, fun σ4 re4 hw => ⟨?_, ?_⟩⟩
      · rw [hw vs hss]
        have wid : ∀ (us : List Nat) (σ : L2.St), (∀ i ∈ vs, i ∈ us) → wipe (wipe σ vs) us = wipe σ us := by
          intro us σ hu
          have : ∀ ws : List Nat, (∀ i ∈ ws, i ∈ us) → wipe (wipe σ ws) us = wipe σ us := by
            intro ws
            induction ws with
            | nil => intro _; rfl
            | cons v ws ih =>
              intro h
              show wipe ((wipe σ ws).set v none) us = _
              rw [wipe_set (h v (by simp)), ih fun i hi => h i (by simp [hi])]
          exact this vs hu
        exact wid vs σ fun _ h => h
      · have p3 := p2.le (gr.le (ι := ι2))
        refine ⟨Z3, ι2, env3, st2, s2.grow gr, re4, (Post.bind p3).imp fun b st5 H5 Z5 ι5 l5 s5 p5 => ?_⟩
        have l15 : Le Z1 (ι1 ++ [D]) Z5 ι5 := (l2.trans gr.le).trans l5
        cases b with
        | false => exact ⟨Z5, ι5, st5, l15, s5, p5⟩
        | true =>
          refine ⟨Z5, ι5, env3, st5, s5, re4.mono l5, (Post.bind p5).imp fun y st6 H6 Z6 ι6 l6 s6 p6 v rv => ?_⟩
          have l16 := l15.trans l6
          have hD6 := l16.i _ _ hL
          unfold doCell at p6
          cases qc : st6[st1.length]? with
          | none => simp only [qc] at p6; exact p6.elim
          | some cl =>
            simp only [qc] at p6
            cases qa : cAppend cl [y] with
            | none => simp only [qa] at p6; exact p6.elim
            | some wc =>
              obtain ⟨w', c'⟩ := wc
              simp only [qa] at p6
              obtain ⟨hzz, acc, e1, e2, ok⟩ := mut_append' s6.sub (s6.cell _ _ _ hD6 qc) rv qa
              exact ⟨acc, e1, e2, Z6, ι6, _, l16, s6.write hD6 hzz ok, p6⟩
  · have ed : ws.drop i = [] := by simp; omega
    rw [ed] at p2
    exact .inl ⟨wki.2 (by simp; omega), p2 H Z2 ι2 Le.refl s2 _ (.loc (l2.i _ _ hL))⟩
variable {elt iter : Expr} {ifs : List Expr} {scope : Scope} {own : List (Str × Nat)} {spos py : Pos}
abbrev VTs (X : Cx) (T : Tab) (E : XK) (ifs : List Expr) (t : TTv) : Prop := PTs X ifs (RdT X.K T E t)
def tYesV : TTv := fun _ st => .ok true st
theorem pts_weak {t t' : TT} (h : PTs X ifs t) (w : ∀ σ H Q, t' σ H Q → t σ H Q) : PTs X ifs t' := ⟨fun pins s σ H Q I q => h.run pins s σ H Q I (w σ H Q q)⟩
theorem vts_nil : VTs X T E [] tYesV := pts_weak pts_nil fun σ H Q h => by
  obtain ⟨Z, ι, env, st, s, re, p⟩ := h
  exact p H Z ι Le.refl s
theorem vts_one {t : TTv} (h : VT X T E c t) : VTs X T E [c] t := pts_one h
theorem ve_lc (hc : X.calm = true) (hN : X.N.Nodup) (hi : VI X T E tg iter ti) (ok : BlkOk X.N X.env.scope scope own) (hss : ∀ i ∈ ss, i ∈ own.map (·.2))
    (hg : ∀ (s : Shared) (H : Hp) (C : Addr) (cl : List (Str × Addr)) (fp : List Addr), VGw (X.blk s H scope (compEnvC scope cl C X.env) fp) T tg ss g)
    (ht : ∀ (s : Shared) (H : Hp) (C : Addr) (cl : List (Str × Addr)) (fp : List Addr), VTs (X.blk s H scope (compEnvC scope cl C X.env) fp) T E ifs tt)
    (he : ∀ (s : Shared) (H : Hp) (C : Addr) (cl : List (Str × Addr)) (fp : List Addr), VE (X.blk s H scope (compEnvC scope cl C X.env) fp) T E elt te) (hs : ∀ x, foldedSetIterable iter X.env x = pure x := by intro _; rfl) :
    VE X T E (.ListComp elt [⟨tg, iter, ifs, 0⟩] scope pos) (eLc ti g tt te (own.map (·.2))) :=
  pe_weak (pe_lc hc hN hi ok hg ht he hs) fun _ _ _ h => rd_lc hss h
/-- y = [..], where the store comes first in the machine -/
theorem vs_setLc {i : Nat} {y : Str} (hc : X.calm = true) (hN : X.N.Nodup) (hy : X.N[i]? = some y) (hyl : X.env.scope.names.lookup y = some .local)
    (hsw : swapsWith (.ListComp elt [⟨tg, iter, ifs, 0⟩] scope pos) (some (.Name y py)) spos.line X.env = pure true) (hi : VI X T E tg iter ti) (ok : BlkOk X.N X.env.scope scope own) (hss : ∀ i ∈ ss, i ∈ own.map (·.2))
    (hg : ∀ (s : Shared) (H : Hp) (C : Addr) (cl : List (Str × Addr)) (fp : List Addr), VGw (X.blk s H scope (compEnvC scope cl C X.env) fp) T tg ss g)
    (ht : ∀ (s : Shared) (H : Hp) (C : Addr) (cl : List (Str × Addr)) (fp : List Addr), VTs (X.blk s H scope (compEnvC scope cl C X.env) fp) T E ifs tt)
    (he : ∀ (s : Shared) (H : Hp) (C : Addr) (cl : List (Str × Addr)) (fp : List Addr), VE (X.blk s H scope (compEnvC scope cl C X.env) fp) T E elt te) (hs : ∀ x, foldedSetIterable iter X.env x = pure x := by intro _; rfl) :
    VS X T E (.Assign [.Name y py] (.ListComp elt [⟨tg, iter, ifs, 0⟩] scope pos) spos) (sSet i (eLc ti g tt te (own.map (·.2)))) :=
  ps_weak (ps_setLc hc hN hy hyl hsw hi ok hg ht he hs) fun D σ H h => by
    obtain ⟨Z, ι, env, st, s, re, p⟩ := h
    exact rd_lc hss ⟨Z, ι, env, st, s, re, (PostS.thenS p).imp fun w st1 H1 Z1 ι1 l1 s1 p1 v rv => p1 _ H1 Z1 ι1 Le.refl s1 ((re.mono l1).set rv i)⟩
theorem vs_setLcF {i : Nat} {y : Str} (hc : X.calm = true) (hN : X.N.Nodup) (hy : X.N[i]? = some y) (hyl : X.env.scope.names.lookup y = some .local)
    (hsw : swapsWith (.ListComp elt [⟨tg, iter, ifs, 0⟩] scope pos) (some (.Name y py)) spos.line X.env = pure true) (hi : VI X T E tg iter ti) (ok : BlkOk X.N X.env.scope scope own) (hss : ∀ i ∈ ss, i ∈ own.map (·.2))
    (hg : ∀ (s : Shared) (H : Hp) (C : Addr) (cl : List (Str × Addr)) (fp : List Addr), VGw (X.blk s H scope (compEnvC scope cl C X.env) fp) T tg ss g)
    (ht : ∀ (s : Shared) (H : Hp) (C : Addr) (cl : List (Str × Addr)) (fp : List Addr), VTs (X.blk s H scope (compEnvC scope cl C X.env) fp) T E ifs tt)
    (he : ∀ (s : Shared) (H : Hp) (C : Addr) (cl : List (Str × Addr)) (fp : List Addr), VE (X.blk s H scope (compEnvC scope cl C X.env) fp) T E elt te) (hs : ∀ x, foldedSetIterable iter X.env x = pure x := by intro _; rfl) :
    VS X T E (.Assign [.Name y py] (.ListComp elt [⟨tg, iter, ifs, 0⟩] scope pos) spos) (sSet i (eFrz (eLc ti g tt te (own.map (·.2))))) :=
  ps_weak (ps_setLc hc hN hy hyl hsw hi ok hg ht he hs) fun D σ H h => by
    obtain ⟨Z, ι, env, st, s, re, p⟩ := h
    exact rd_lc hss (rd_frz ⟨Z, ι, env, st, s, re, (PostS.thenS p).imp fun w st1 H1 Z1 ι1 l1 s1 p1 v rv => p1 _ H1 Z1 ι1 Le.refl s1 ((re.mono l1).set rv i)⟩)
end
end VS

set_option Elab.async false
set_option linter.all false
set_option maxRecDepth 100000
set_option maxHeartbeats 4000000
set_option autoImplicit false
/-! VK: stores to items, pop(i), insert, remove; methods of texts. -/
namespace VS
open PySem PySem.Spec PyProof.Rows L2
section
variable {X : Cx} {T : Tab} {E : XK} {a b c e o i value : Expr} {es : List Expr} {ta tb tc te to ti tv : TEv} {tr : TAv} {pos pos' apos cpos p p2 : Pos}
theorem RepFs.erase {K : PySem.W.Frag} {Z : Hp} : ∀ {vs : List V} {xs : List F} (n : Nat), RepFs K T Z vs xs → RepFs K T Z (vs.eraseIdx n) (xs.eraseIdx n)
  | _, _, _, .nil => .nil
  | _, _, 0, .cons _ t => t
  | _, _, n + 1, .cons r t => .cons r (RepFs.erase n t)
theorem RepWs.erase {K : PySem.W.Frag} {Z : Hp} {ι : List Addr} : ∀ {vs : List V} {xs : List W} (n : Nat), RepWs K T Z ι vs xs → RepWs K T Z ι (vs.eraseIdx n) (xs.eraseIdx n)
  | _, _, _, .nil => .nil
  | _, _, 0, .cons _ t => t
  | _, _, n + 1, .cons r t => .cons r (RepWs.erase n t)
/-- xs.pop(i) -/
def cPopAt : CellOp := fun c ws => match c, ws with
  | .lstF xs, [.f (.int i)] => if smallI i = true then (seqIndex? i xs.length).bind fun k => (xs[k]?).map fun x => (.f x, .lstF (xs.eraseIdx k)) else none
  | .lstW xs, [.f (.int i)] => if smallI i = true then (seqIndex? i xs.length).bind fun k => (xs[k]?).map fun x => (x, .lstW (xs.eraseIdx k)) else none
  | _, _ => none
theorem ifElse {α : Type} {p : Prop} [Decidable p] {a : Option α} {b : α} (h : (if p then a else none) = some b) : p ∧ a = some b := by
  by_cases hp : p
  · rw [if_pos hp] at h; exact ⟨hp, h⟩
  · rw [if_neg hp] at h; cases h
theorem mut_popAt : MutOk X T rPopAt cPopAt := by
  intro Z H ι a c c' ws w vs Q s k r h q
  cases c with
  | lstF xs =>
    obtain ⟨hz, us, e, ru⟩ := k
    cases r with
    | nil => cases h
    | cons r1 r2 =>
      cases r1 with
      | loc _ => cases h
      | f r1 =>
        cases r1 with
        | int i =>
          cases r2 with
          | cons _ _ => cases h
          | nil =>
            obtain ⟨hi, h⟩ := ifElse h
            obtain ⟨b1, b2⟩ := smallI_ok hi
            obtain ⟨k, ek, h⟩ := opt_bind_some h
            obtain ⟨x, ex, h⟩ := opt_map_some h
            cases h
            obtain ⟨v, ev, rv⟩ := ru.get ex
            exact ⟨a, us, i, k, v, rfl, rfl, e, by omega, by omega, by rw [ru.length]; exact ek, ev, q _ _ (.f rv) ⟨hz, _, upd_same, ru.erase k⟩ hz⟩
        | _ => cases h
  | lstW xs =>
    obtain ⟨hz, us, e, ru⟩ := k
    cases r with
    | nil => cases h
    | cons r1 r2 =>
      cases r1 with
      | loc _ => cases h
      | f r1 =>
        cases r1 with
        | int i =>
          cases r2 with
          | cons _ _ => cases h
          | nil =>
            obtain ⟨hi, h⟩ := ifElse h
            obtain ⟨b1, b2⟩ := smallI_ok hi
            obtain ⟨k, ek, h⟩ := opt_bind_some h
            obtain ⟨x, ex, h⟩ := opt_map_some h
            cases h
            obtain ⟨v, ev, rv⟩ := ru.get ex
            exact ⟨a, us, i, k, v, rfl, rfl, e, by omega, by omega, by rw [ru.length]; exact ek, ev, q _ _ rv ⟨hz, _, upd_same, ru.erase k⟩ hz⟩
        | _ => cases h
  | dead => cases h
  | dct _ => cases h
  | ins _ _ => cases h
theorem ve_pop (ho : VE X T E o to) (hbase : attributeBase o "pop" X.env (eval o X.env) = eval o X.env := by rfl) (hline : (apos.endLine == cpos.line) = true := by rfl) :
    VE X T E (.Call (.Attribute o "pop" apos) [] [] cpos) (eMut false cPop to aNil) := ve_mutL0 PySem.F.slot_list_pop PySem.F.type_list_pop mt_pop mut_pop ho hbase hline
theorem ve_popAt (ho : VE X T E o to) (he : VE X T E e te) (hbase : attributeBase o "pop" X.env (eval o X.env) = eval o X.env := by rfl)
    (hline : (apos.endLine == cpos.line) = true := by rfl) (hs : starEach [e] X.env = [(false, eval e X.env)] := by rfl) :
    VE X T E (.Call (.Attribute o "pop" apos) [e] [] cpos) (eMut false cPopAt to (aCons te aNil)) :=
  ve_mutL PySem.F.slot_list_pop PySem.F.type_list_pop mt_popAt mut_popAt ho (va_cons he va_nil hs) hbase (by rw [hs]; rfl) hline hs rfl
/-- xs.insert(i, x) -/
def cInsert : CellOp := fun c ws => match c, ws with
  | .lstF xs, [.f (.int i), .f y] => if (small (xs.length + 1) && decide (0 ≤ i) && smallI i) = true then some (.f .non, .lstF (xs.take i.toNat ++ [y] ++ xs.drop i.toNat)) else none
  | _, _ => none
theorem mut_insert : MutOk X T (fun x vs H Q => ∃ (l : Addr) (xs : List V) (i : Int) (y : V), x = .ref l ∧ vs = [.int i, y] ∧ H l = some (.lst xs) ∧ xs.length < sizeLine ∧ 0 ≤ i ∧ i < 2 ^ 63 ∧ Q .non (upd H l (.lst (xs.take i.toNat ++ [y] ++ xs.drop i.toNat)))) cInsert := by
  intro Z H ι a c c' ws w vs Q s k r h q
  cases c with
  | lstF xs =>
    obtain ⟨hz, us, e, ru⟩ := k
    cases r with
    | nil => cases h
    | cons r1 r2 =>
      cases r1 with
      | loc _ => cases h
      | f r1 =>
        cases r1 with
        | int i =>
          cases r2 with
          | nil => cases h
          | cons r2 r3 =>
            cases r3 with
            | cons _ _ => cases r2 <;> cases h
            | nil =>
              cases r2 with
              | loc _ => cases h
              | f r2 =>
                obtain ⟨hi, h⟩ := ifSome h
                cases h
                rw [Bool.and_eq_true, Bool.and_eq_true] at hi
                obtain ⟨b1, b2⟩ := smallI_ok hi.2
                exact ⟨a, us, i, _, rfl, rfl, e, by rw [ru.length]; exact small_app hi.1.1, of_decide_eq_true hi.1.2, by omega, q _ _ (.f .non) ⟨hz, _, upd_same, ((ru.take _).append (.cons r2 .nil)).append (ru.drop _)⟩ hz⟩
        | _ => cases h
  | lstW xs => cases h
  | dead => cases h
  | dct _ => cases h
  | ins _ _ => cases h
/-! ### o[i] = v -/
def setC (i : Int) (w : W) : Cell → Option Cell
  | .lstF xs => (ixN xs.length i).map fun j => match w with
    | .f x => .lstF (xs.set j x)
    | .loc n => .lstW ((xs.map W.f).set j (.loc n))
  | .lstW xs => (ixN xs.length i).map fun j => .lstW (xs.set j w)
  | _ => none
def setI (w : W) (st : Store) : W → W → Option Store
  | .loc n, .f (.int i) => (st[n]?).bind fun c => (setC i w c).map fun c' => st.set n c'
  | _, _ => none
def sSub (to ti tv : TEv) : TSv := fun env st => (tv env st).thenS fun w st1 => (to env st1).thenS fun o st2 => (ti env st2).thenS fun i st3 => match setI w st3 o i with
  | some st4 => .nx env st4
  | none => .stuck
theorem setI_ok {K : PySem.W.Frag} {Z H : Hp} {ι : List Addr} {st st' : Store} {w o i : W} {x y v : V} (s : SimS K T Z ι st H) (ro : RepW K T Z ι x o) (ri : RepW K T Z ι y i) (rw' : RepW K T Z ι v w) (h : setI w st o i = some st') :
    ∃ p xs k j, x = .ref p ∧ y = .int k ∧ H p = some (.lst xs) ∧ ixN xs.length k = some j ∧ SimS K T Z ι st' (upd H p (.lst (xs.set j v))) := by
  cases ro with
  | f _ => cases i <;> cases h
  | loc e =>
    rename_i a n
    cases ri with
    | loc _ => cases h
    | f ri =>
      cases ri with
      | int k =>
        obtain ⟨c, ec, h⟩ := opt_bind_some (show (st[n]?).bind (fun c => (setC k w c).map fun c' => st.set n c') = some st' from h)
        obtain ⟨c', ec', rfl⟩ := opt_map_some h
        have kk := s.cell n a c e ec
        cases c with
        | lstF xs =>
          obtain ⟨hz, us, e1, ru⟩ := kk
          obtain ⟨j, ej, rfl⟩ := opt_map_some ec'
          refine ⟨a, us, k, j, rfl, rfl, e1, by rw [ru.length]; exact ej, s.write e hz ?_⟩
          cases rw' with
          | f r => exact ⟨hz, _, upd_same, ru.set r j⟩
          | loc r => exact ⟨hz, _, upd_same, RepWs.set (.loc r) j (RepWs.ofFs ru)⟩
        | lstW xs =>
          obtain ⟨hz, us, e1, ru⟩ := kk
          obtain ⟨j, ej, rfl⟩ := opt_map_some ec'
          exact ⟨a, us, k, j, rfl, rfl, e1, by rw [ru.length]; exact ej, s.write e hz ⟨hz, _, upd_same, ru.set rw' j⟩⟩
        | dead => cases ec'
        | dct _ => cases ec'
        | ins _ _ => cases ec'
      | _ => cases h
theorem vs_sub (ho : VE X T E o to) (hi : VE X T E i ti) (hv : VE X T E value tv)
    (ha : ∀ v, assign (.Subscript o i pos') X.env v = (do
      let ov ← holding [v] (eval o X.env)
      let iv ← holding [v, ov] (eval i X.env)
      standAt pos'
      holding [v, ov, iv] (setItem ov iv v)
      release [v, ov, iv] []) := by intro _; rfl)
    (hs : swapsWithSole [.Subscript o i pos'] value pos.line X.env = pure false := by rfl) (hw : swappedStores [.Subscript o i pos'] value X.env = pure none := by rfl)
    (h1 : (assignEach [.Subscript o i pos'] X.env).map (·.2) = [assign (.Subscript o i pos') X.env] := by rfl) : VS X T E (.Assign [.Subscript o i pos'] value pos) (sSub to ti tv) :=
  ps_weak (ps_asg hv (pg_sub ho hi set_list ha) hs hw h1) fun D σ H h => by
    obtain ⟨Z, ι, env, st, s, re, p⟩ := h
    refine ⟨Z, ι, env, st, s, re, (PostS.thenS p).imp fun w st1 H1 Z1 ι1 l1 s1 p1 v rv => ?_⟩
    refine ⟨Z1, ι1, env, st1, s1, re.mono l1, (PostS.thenS p1).imp fun o st2 H2 Z2 ι2 l2 s2 p2 x rx => ?_⟩
    refine ⟨Z2, ι2, env, st2, s2, (re.mono l1).mono l2, (PostS.thenS p2).imp fun i st3 H3 Z3 ι3 l3 s3 p3 y ry => ?_⟩
    cases q : setI w st3 o i with
    | none => simp only [q] at p3; exact p3.elim
    | some st4 =>
      simp only [q] at p3
      obtain ⟨pa, xs, k, j, e1, e2, e3, e4, s4⟩ := setI_ok s3 (rx.mono l3) ry ((rv.mono l2).mono l3) q
      exact ⟨pa, xs, k, j, e1, e2, e3, e4, p3 σ _ Z3 ι3 Le.refl s4 (((re.mono l1).mono l2).mono l3)⟩
/-! ### methods on data -/
def OpM (X : Cx) (T : Tab) (Ty : String) (r : V → List V → Hp → VK → Prop) (g : F → List F → Option F) : Prop := ∀ Z H x vs fx fs z Q, Same Z H → View X.K T Z H x fx → Views X.K T Z H vs fs → g fx fs = some z → Give X.K T Z H z Q → r x vs H Q
/-- of which built-in type -/
def tyF : F → String
  | .str _ => "str"
  | .int _ => "int"
  | .lst _ => "list"
  | .dct _ => "dict"
  | _ => ""
theorem View.ty {K : PySem.W.Frag} {Z H : Hp} {v : V} {x : F} {Ty : String} (s : Same Z H) (h : View K T Z H v x) (e : tyF x = Ty) (hne : Ty ≠ "") : tyV K Ty v H := by
  subst e
  cases x with
  | str z => cases h.str; rfl
  | int z => cases h.int; rfl
  | lst xs => obtain ⟨a, vs, rfl, e1, r1⟩ := h.lst' s; exact .inl ⟨rfl, vs, SqL.of e1⟩
  | dct xs => obtain ⟨a, vs, rfl, e1, r1⟩ := h.dct' s; exact .inr (.inr (.inl ⟨rfl, .inl ⟨vs, e1⟩⟩))
  | _ => exact absurd rfl hne
def eBM (Ty : String) (g : F → List F → Option F) (to : TEv) (t : TAv) : TEv := fun env st => (to env st).bind fun w st1 => match look st1 w with
  | some x => if tyF x = Ty then (t env st1).bind fun ws st2 => match look st2 w with
    | some x => lkN (g x) ws st2
    | none => .stuck
    else .stuck
  | none => .stuck
theorem rd_bm {Ty : String} {r : V → List V → Hp → VK → Prop} {g : F → List F → Option F} (hne : Ty ≠ "") (hm : OpM X T Ty r g) {σ : L2.St} {H : Hp} {Q : VK} (h : RdE X.K T E (eBM Ty g to tr) σ H Q) : tBM X.K Ty r (RdE X.K T E to) (RdA X.K T E tr) σ H Q := by
  obtain ⟨Z, ι, env, st, s, re, p⟩ := h
  refine ⟨Z, ι, env, st, s, re, (Post.bind p).imp fun w st1 H1 Z1 ι1 l1 s1 p1 v rv => ?_⟩
  cases q : look st1 w with
  | none => simp only [q] at p1; exact p1.elim
  | some x =>
    simp only [q] at p1
    by_cases hty : tyF x = Ty
    · rw [if_pos hty] at p1
      refine ⟨(rv.view s1 q).ty s1.sub hty hne, Z1, ι1, env, st1, s1, re.mono l1, (Post.bind p1).imp fun ws st2 H2 Z2 ι2 l2 s2 p2 vs rvs => ?_⟩
      cases q2 : look st2 w with
      | none => simp only [q2] at p2; exact p2.elim
      | some x2 =>
        simp only [q2] at p2
        obtain ⟨xs, z, e1, e2, gi⟩ := lkN_ok s2 p2
        exact hm Z2 H2 v vs x2 xs z Q s2.sub ((rv.mono l2).view s2 q2) (rvs.views s2 e1) e2 gi
    · rw [if_neg hty] at p1; exact p1.elim
variable {name : Str} {id : String}
theorem ve_bm {Ty : String} {r : V → List V → Hp → VK → Prop} {g : F → List F → Option F} (hne : Ty ≠ "") (pa : PlainAttrs Ty) (slot : Slot Ty name id) (hty : typeOf (.builtin id) = pure (.type "method_descriptor")) (hr : MtR X id r) (hm : OpM X T Ty r g) (ho : VE X T E o to) (ha : VA X T E (e :: es) tr)
    (hbase : attributeBase o name X.env (eval o X.env) = eval o X.env := by rfl)
    (hfew : ((backTo cpos (starEach (e :: es) X.env)).all (fun x => !x.1) && (backToKw cpos (keywordEach [] X.env)).all (fun x => x.1.isSome)
      && decide ((e :: es).length + ([] : List Keyword).length + (if ([] : List Keyword).isEmpty then 0 else 1) < 30)) = true := by rfl)
    (hline : (apos.endLine == cpos.line) = true := by rfl) (hs : starEach (e :: es) X.env = (false, eval e X.env) :: starEach es X.env := by rfl) (hplain : (backTo cpos (starEach es X.env)).any (·.1) = false := by rfl) :
    VE X T E (.Call (.Attribute o name apos) (e :: es) [] cpos) (eBM Ty g to tr) :=
  pe_weak (pe_bm pa slot hty hr ho ha hbase hfew hline hs hplain) fun _ _ _ h => rd_bm hne hm h
/-- sep.join(texts) -/
def joinL (sep : List Nat) : List (List Nat) → List Nat
  | [] => []
  | [x] => x
  | x :: y :: r => x ++ sep ++ joinL sep (y :: r)
def joinF : F → List F → Option F
  | .str sep, [.lst xs] => (strsOf xs).bind fun ts => if small ((ts.map List.length).sum + ts.length * sep.length) = true then some (.str (joinL sep ts)) else none
  | _, _ => none
theorem S_join (sep : List Nat) : ∀ ts : List (List Nat), Str.join (S sep) (ts.map S) = S (joinL sep ts)
  | [] => rfl
  | [x] => rfl
  | x :: y :: r => by
    show S x ++ S sep ++ Str.join (S sep) (S y :: r.map S) = S (x ++ sep ++ joinL sep (y :: r))
    rw [← S_app, ← S_app, ← S_join sep (y :: r)]
    rfl
theorem map_len (ts : List (List Nat)) : ((ts.map S).map (·.length)) = ts.map List.length := by
  rw [List.map_map]
  exact List.map_congr_left fun x _ => S_len x
theorem om_join : OpM X T "str" (fun x xs H Q => ∃ a p, ∃ ys : List Str, x = .str a ∧ xs = [.ref p] ∧ (SqL X.K H p (ys.map V.str) ∨ SqT X.K H p (ys.map V.str)) ∧ (ys.map (·.length)).sum + ys.length * a.length ≤ 16777216 ∧ Q (.str (Txt.join a ys)) H) joinF := by
  intro Z H x vs fx fs z Q s vx vv h g
  cases fx with
  | str sep =>
    match fs, vv, h with
    | [.lst xs], vv, h =>
      obtain ⟨ts, e, h⟩ := opt_bind_some (show (strsOf xs).bind _ = some z from h)
      obtain ⟨hs, h⟩ := ifSome h
      cases h; cases vx.str
      obtain ⟨v, rfl, hv⟩ := vv.one
      obtain ⟨a, us, rfl, e1, r1⟩ := hv.lst' s
      have := strsOf_eq e
      subst this
      rw [r1.strs'] at e1
      have hb : (ts.map List.length).sum + ts.length * sep.length ≤ 1000000 := of_decide_eq_true hs
      refine ⟨S sep, a, ts.map S, rfl, rfl, .inl (SqL.of e1), ?_, ?_⟩
      · rw [map_len, List.length_map, S_len]; omega
      · have : Txt.join (S sep) (ts.map S) = S (joinL sep ts) := by
          show Builtin.Str.glued _ _ = _
          rw [StrLaws.glued_eq_join, S_join]
        rw [this]
        exact g.here s (.str _)
    | [], _, h => cases h
    | .non :: _, _, h => cases h
    | .bl _ :: _, _, h => cases h
    | .int _ :: _, _, h => cases h
    | .str _ :: _, _, h => cases h
    | .tup _ :: _, _, h => cases h
    | .dct _ :: _, _, h => cases h
    | .obj _ _ :: _, _, h => cases h
    | .scr _ :: _, _, h => cases h
    | .lst _ :: _ :: _, _, h => cases h
  | _ => cases h
theorem ve_join (ho : VE X T E o to) (he : VE X T E e te) (hbase : attributeBase o "join" X.env (eval o X.env) = eval o X.env := by rfl)
    (hline : (apos.endLine == cpos.line) = true := by rfl) (hs : starEach [e] X.env = [(false, eval e X.env)] := by rfl) :
    VE X T E (.Call (.Attribute o "join" apos) [e] [] cpos) (eBM "str" joinF to (aCons te aNil)) :=
  ve_bm (by decide) PySem.F.plainAttrs_str PySem.F.slot_str_join PySem.F.type_str_join mt_join om_join ho (va_cons he va_nil hs) hbase (by rw [hs]; rfl) hline hs rfl
end
end VS

set_option Elab.async false
set_option linter.all false
set_option maxRecDepth 100000
set_option maxHeartbeats 4000000
set_option autoImplicit false
/-! VL: a walk over a list, a tuple or a text; objects made as data; a cell becomes data where it stands; several targets. -/
namespace VS
open PySem PySem.Spec PyProof.Rows L2
section
variable {X : Cx} {T : Tab} {E : XK} {a b c e o i value tg : Expr} {es : List Expr} {ta tb tc te to ti tv : TEv} {tr : TAv} {pos pos' apos cpos p p2 : Pos}
/-! ### any sequence -/
def iAnyR (K : PySem.W.Frag) (tl : TE) : TI := fun σ H R => tl σ H fun x H1 => (∃ a, x = .ref a ∧ (∃ xs, SqL K H1 a xs) ∧ R (Itl K a) H1) ∨ (∃ a, x = .ref a ∧ (∃ xs, SqT K H1 a xs) ∧ R (Itt K a) H1) ∨ ∃ z, x = .str z ∧ R (Its z) H1
theorem pi_any {l : Expr} {tl : TE} (hl : PE X l tl) : PI X tg l (iAnyR X.K tl) := by
  refine ⟨fun pins s σ H R I h => ?_⟩
  refine thn (hl.run pins s σ H _ I h) fun v s1 ⟨x, H1, I1, r1, q1⟩ => ?_
  rcases q1 with ⟨a, e, ⟨xs, hq⟩, q⟩ | ⟨a, e, ⟨xs, hq⟩, q⟩ | ⟨z, e, q⟩
  · subst e
    cases r1
    obtain ⟨its, rv, p, hz⟩ := I1.list hq
    refine wpAny_pyIter_list p.isList ?_
    refine ⟨s1.heap.objs.size, [s1.heap.objs.size], _, _, H1, rfl, I1.kept (t' := s1.toks) fun b o e => Heap.get?_push_of_some _ e, turn_list a _, ⟨_, Heap.get?_push_size _ rfl, rfl, rfl⟩, fun b hb => ?_, q⟩
    have e : b = s1.heap.objs.size := by simpa using hb
    subst e
    exact I1.fpOk (Nat.le_refl _) (I1.hok.fresh (Nat.le_refl _))
  · subst e
    cases r1
    obtain ⟨its, rv, p, hz⟩ := I1.tuple hq
    refine wpAny_pyIter_tuple (show s1.heap.IsTuple a its.toArray from p) ?_
    refine ⟨s1.heap.objs.size, [s1.heap.objs.size], _, _, H1, rfl, I1.kept (t' := s1.toks) fun b o e => Heap.get?_push_of_some _ e, turn_tuple a _, ⟨_, Heap.get?_push_size _ rfl, rfl, rfl⟩, fun b hb => ?_, q⟩
    have e : b = s1.heap.objs.size := by simpa using hb
    subst e
    exact I1.fpOk (Nat.le_refl _) (I1.hok.fresh (Nat.le_refl _))
  · subst e
    obtain ⟨t, rfl⟩ := r1
    cases ha : z.cps.all (· < 128)
    · exact wpAny_pyIter_wide ha (pi_one (tk := s1.toks) I1 _ (turn_str _ z t "str_iterator" (.inr rfl)) ⟨_, Heap.get?_push_size _ rfl, rfl, rfl⟩ q)
    · exact wpAny_pyIter_ascii ha (pi_one (tk := s1.toks) I1 _ (turn_str _ z t "str_ascii_iterator" (.inl rfl)) ⟨_, Heap.get?_push_size _ rfl, rfl, rfl⟩ q)
/-- the items of data -/
def itemsF : F → Option (List W)
  | .lst xs => some (xs.map W.f)
  | .tup xs => some (xs.map W.f)
  | .str s => some (signs s)
  | _ => none
def itemsW : W → Option (List W)
  | .f x => itemsF x
  | .loc _ => none
def ofL (o : Option (List W)) (st : Store) : Res (List W) := match o with
  | some w => .ok w st
  | none => .stuck
def iAny (t : TEv) : TIv := fun env st => (t env st).bind fun w st1 => ofL (itemsW w) st1
theorem vi_any (h : VE X T E e te) : VI X T E tg e (iAny te) := pi_weak (pi_any h) fun σ H R h => by
  obtain ⟨Z, ι, env, st, s, re, p⟩ := h
  refine ⟨Z, ι, env, st, s, re, (Post.bind p).imp fun w st1 H1 Z1 ι1 l1 s1 p1 v rv => ?_⟩
  cases rv with
  | loc _ => exact p1.elim
  | f rv => cases rv with
    | lst e r => exact .inl ⟨_, rfl, ⟨_, SqL.of (s1.sub _ _ e)⟩, p1 H1 Z1 ι1 Le.refl s1 _ (walks_list e r)⟩
    | tup e r => exact .inr (.inl ⟨_, rfl, ⟨_, same_sqt s1.sub e⟩, p1 H1 Z1 ι1 Le.refl s1 _ (walks_tup e r)⟩)
    | str z => exact .inr (.inr ⟨_, rfl, p1 H1 Z1 ι1 Le.refl s1 _ (walks_str z)⟩)
    | _ => exact p1.elim
/-! ### a cell becomes data where it stands -/
def frzC (w : W) (st : Store) : Res W := match w with
  | .f x => .ok (.f x) st
  | .loc n => (match st[n]? with
    | some (.lstF xs) => .ok (.f (.lst xs)) (st.set n .dead)
    | some (.dct xs) => .ok (.f (.dct xs)) (st.set n .dead)
    | _ => .stuck)
def eFrzC (t : TEv) : TEv := fun env st => (t env st).bind frzC
theorem ve_frzC (h : VE X T E e te) : VE X T E e (eFrzC te) := pe_weak h fun σ H Q h => by
  obtain ⟨Z, ι, env, st, s, re, p⟩ := h
  refine ⟨Z, ι, env, st, s, re, (Post.bind p).imp fun w st1 H1 Z1 ι1 l1 s1 p1 v rv => ?_⟩
  cases rv with
  | f rv => exact p1 H1 Z1 ι1 Le.refl s1 v (.f rv)
  | loc e =>
    rename_i a n
    have p1 : Post X.K T E Z1 ι1 (match st1[n]? with
      | some (.lstF xs) => Res.ok (W.f (.lst xs)) (st1.set n .dead)
      | some (.dct xs) => Res.ok (W.f (.dct xs)) (st1.set n .dead)
      | _ => Res.stuck) _ := p1
    cases q : st1[n]? with
    | none => simp only [q] at p1; exact p1.elim
    | some cl =>
      have k := s1.cell n a cl e q
      cases cl with
      | lstF xs =>
        simp only [q] at p1
        obtain ⟨hz, vs, e1, r1⟩ := k
        have hs : Same Z1 (upd Z1 a (.lst vs)) := same_new hz
        exact p1 H1 _ ι1 ⟨hs, fun _ _ h => h⟩ (s1.freeze e hz e1) _ (.f (.lst upd_same (r1.mono hs)))
      | dct xs =>
        simp only [q] at p1
        obtain ⟨hz, vs, e1, r1⟩ := k
        have hs : Same Z1 (upd Z1 a (.dK vs)) := same_new hz
        exact p1 H1 _ ι1 ⟨hs, fun _ _ h => h⟩ (s1.freeze e hz e1) _ (.f (.dct upd_same (r1.mono hs)))
      | lstW xs => simp only [q] at p1; exact p1.elim
      | dead => simp only [q] at p1; exact p1.elim
      | ins c fs => simp only [q] at p1; exact p1.elim
/-! ### objects made as data -/
variable {CX : CXT} {k : Nat} {f : Addr} {m : FnM} {x : Str}
def mkF (c : Nat) (m : FnM) : FnM := fun ws st => (m (.loc st.length :: ws) (st ++ [.ins c []])).bind fun w st2 => match w with
  | .f .non => frz st.length (.loc st.length) st2
  | _ => .stuck
theorem rd_mkF {K : PySem.W.Frag} {c : Nat} (hc : (T.cls[c]?).isSome = true) {dvs : List V} {dfs : List F} (r : ∀ Z, RepFs K T Z dvs dfs) {Z H : Hp} {ι : List Addr} {st : Store} {ws : List W} {vs : List V} {Q : VK} (s : SimS K T Z ι st H) (rvs : RepWs K T Z ι vs ws)
    (p : Post K T E Z ι (mkF c (fun ws st => m (ws ++ dfs.map W.f) st) ws st) fun w _ H' Z' ι' => ∀ v, RepW K T Z' ι' v w → Q v H') {x dx : Addr} (nx : H x = none) (nd : H dx = none) (ne : dx ≠ x) :
    spM K T m (.ref x :: (vs ++ dvs)) (upd (upd H dx (.own x)) x (.ins (T.ca K c) dx [])) (fun v H2 => v = .non ∧ Q (.ref x) H2) E := by
  have g1 : Grow Z H Z (upd H dx (.own x)) := ⟨Same.refl Z, same_new nd, s.sub.trans (same_new nd), fun _ _ _ => rfl⟩
  have s1 := s.grow g1
  have nx1 : (upd H dx (.own x)) x = none := by rw [upd_ne (Ne.symm ne)]; exact nx
  have hz : Z x = none := free_sub s.sub nx
  have s2 := s1.alloc (c := Cell.ins c []) (o := .ins (T.ca K c) dx []) nx1 ⟨hz, dx, [], upd_same, hc, .nil⟩
  have l2 : Le Z ι Z (ι ++ [x]) := Le.alloc
  have hl : (ι ++ [x])[st.length]? = some x := by rw [List.getElem?_append_right (by rw [s.len]; omega), s.len]; simp
  refine ⟨Z, ι ++ [x], W.loc st.length :: (ws ++ dfs.map W.f), st ++ [Cell.ins c []], s2, .cons (.loc hl) ((rvs.mono l2).append (RepWs.map_f (r Z))), ?_⟩
  unfold mkF at p
  have p : Post K T E Z ι ((m (W.loc st.length :: (ws ++ dfs.map W.f)) (st ++ [Cell.ins c []])).bind fun w st2 => match w with
    | .f .non => frz st.length (.loc st.length) st2
    | _ => .stuck) fun w _ H' Z' ι' => ∀ v, RepW K T Z' ι' v w → Q v H' := p
  cases q : m (W.loc st.length :: (ws ++ dfs.map W.f)) (st ++ [Cell.ins c []]) with
  | stuck => rw [q] at p; exact p.elim
  | exc c' fs st3 => rw [q] at p; exact PX.le l2 p
  | ok w st3 =>
    rw [q] at p
    intro H3 Z3 ι3 l3 s3 v rv
    cases rv with
    | loc e => exact p.elim
    | f rv =>
      cases rv with
      | non => exact ⟨rfl, frz_ok (Z0 := Z) (ι0 := ι) s.len (l2.trans l3) s3 (.loc (l3.i _ _ hl)) p⟩
      | _ => exact p.elim
theorem ve_mkF {c : Nat} (hc : (T.cls[c]?).isSome = true) (M : Mk X.K (T.ca X.K c) f) (F : Fn X.prog X.w X.K X.mg X.base T CX k f m) (hr : Room (k + 1) X.A) (hg : Gl X x) (hm : X.mg x = some (.ref (T.ca X.K c))) (hx : Passes CX X E)
    (ha : VA X T E (e :: es) tr) (hdb : (x == ("__debug__" : Str)) = false := by decide) (he : starEach (e :: es) X.env = (false, eval e X.env) :: starEach es X.env := by rfl) (hpl : (backTo pos (starEach es X.env)).any (·.1) = false := by rfl) :
    VE X T E (.Call (.Name x p) (e :: es) [] pos) (eCall (mkF c m) tr) := by
  obtain ⟨fd, ps, ds, dvs, dfs, m0, F0, b, v, r, rfl⟩ := F.ex
  refine pe_weak (pe_make M F0 hr hg hm b v hx ha hdb he hpl) fun σ H Q h => ?_
  obtain ⟨Z, ι, env, st, s, re, p⟩ := h
  refine ⟨Z, ι, env, st, s, re, (Post.bind p).imp fun ws st1 H1 Z1 ι1 l1 s1 p1 vs rvs x dx nx nd ne => ?_⟩
  exact rd_mkF (m := m0) hc r s1 rvs p1 nx nd ne
theorem ve_mkF0 {c : Nat} (hc : (T.cls[c]?).isSome = true) (M : Mk X.K (T.ca X.K c) f) (F : Fn X.prog X.w X.K X.mg X.base T CX k f m) (hr : Room (k + 1) X.A) (hg : Gl X x) (hm : X.mg x = some (.ref (T.ca X.K c))) (hx : Passes CX X E)
    (hdb : (x == ("__debug__" : Str)) = false := by decide) : VE X T E (.Call (.Name x p) [] [] pos) (eCall (mkF c m) aNil) := by
  obtain ⟨fd, ps, ds, dvs, dfs, m0, F0, b, v, r, rfl⟩ := F.ex
  refine pe_weak (pe_make0 M F0 hr hg hm b v hx hdb) fun σ H Q h => ?_
  obtain ⟨Z, ι, env, st, s, re, p⟩ := h
  intro x dx nx nd ne
  exact rd_mkF (m := m0) (ws := []) hc r s .nil p nx nd ne
/-! ### a, b, c = x, y, z -/
def sPar3 (i j l : Nat) (t : TAv) : TSv := fun env st => (t env st).thenS fun ws st1 => match ws with
  | [w1, w2, w3] => .nx (((env.set i (some w1)).set j (some w2)).set l (some w3)) st1
  | _ => .stuck
theorem vs_par3 {i j l : Nat} {x y z : Str} {px py pz pt pos : Pos} {kt k2 : Nat} {pt2 : Pos} (hc : X.calm = true) (hN : X.N.Nodup) (hi : X.N[i]? = some x) (hj : X.N[j]? = some y) (hl : X.N[l]? = some z) (hij : i ≠ j) (hil : i ≠ l) (hjl : j ≠ l)
    (hx : X.env.scope.names.lookup x = some .local) (hy : X.env.scope.names.lookup y = some .local) (hz : X.env.scope.names.lookup z = some .local) (ha : VA X T E [a, b, c] tr)
    (hw : swappedStores [.Tuple [.Name x px, .Name y py, .Name z pz] kt pt] (.Tuple [a, b, c] k2 pt2) X.env = pure (some [x, y, z]))
    (hs : swapsWithSole [.Tuple [.Name x px, .Name y py, .Name z pz] kt pt] (.Tuple [a, b, c] k2 pt2) pos.line X.env = pure false := by rfl) :
    VS X T E (.Assign [.Tuple [.Name x px, .Name y py, .Name z pz] kt pt] (.Tuple [a, b, c] k2 pt2) pos) (sPar3 i j l tr) := ps_weak (ps_par3 hc hN hi hj hl hij hil hjl hx hy hz ha hw hs) fun D σ H h => by
  obtain ⟨Z, ι, env, st, s, re, p⟩ := h
  refine ⟨Z, ι, env, st, s, re, (PostS.thenS p).imp fun ws st1 H1 Z1 ι1 l1 s1 p1 vs rvs => ?_⟩
  cases rvs with
  | nil => exact p1.elim
  | cons r1 t1 =>
    cases t1 with
    | nil => exact p1.elim
    | cons r2 t2 =>
      cases t2 with
      | nil => exact p1.elim
      | cons r3 t3 =>
        cases t3 with
        | cons _ _ => exact p1.elim
        | nil => exact ⟨_, _, _, rfl, p1 _ H1 Z1 ι1 Le.refl s1 ((((re.mono l1).set r1 i).set r2 j).set r3 l)⟩
/-! ### (t1, .., tn) = (x1, .., xn): the tuple is made and taken apart; its items may be cells -/
abbrev TM := W → Env → Store → Option (Env × Store)
def RdM (K : PySem.W.Frag) (T : Tab) (g : TM) : TG := fun v σ H Q => ∃ Z ι env st w env' st', SimS K T Z ι st H ∧ EnvR K T Z ι σ env ∧ RepW K T Z ι v w ∧ g w env st = some (env', st') ∧ ∀ σ' H', SimS K T Z ι st' H' → EnvR K T Z ι σ' env' → Q σ' H'
abbrev VM (X : Cx) (T : Tab) (e : Expr) (g : TM) : Prop := PG X e (RdM X.K T g)
def mNm (i : Nat) : TM := fun w env st => some (env.set i (some w), st)
theorem vm_name {i : Nat} {x : Str} (hN : X.N.Nodup) (hi : X.N[i]? = some x) (hx : Loc X.env.scope x) (hf : X.fn x = true ∨ X.env.scope.names.lookup x = some .local := by first | exact .inl rfl | exact .inr rfl | assumption) : VM X T (.Name x pos) (mNm i) := pg_weak (pg_name hN hi hx hf) fun v σ H Q h => by
  obtain ⟨Z, ι, env, st, w, env', st', s, re, rv, e, k⟩ := h
  cases e
  exact k _ _ s (re.set rv i)
def msRun : List TM → List W → Env → Store → Option (Env × Store)
  | [], [], env, st => some (env, st)
  | g :: gs, w :: ws, env, st => (g w env st).bind fun r => msRun gs ws r.1 r.2
  | _, _, _, _ => none
def RdMs (K : PySem.W.Frag) (T : Tab) (gs : List TM) : TGs := fun vs σ H Q => ∃ Z ι env st ws env' st', SimS K T Z ι st H ∧ EnvR K T Z ι σ env ∧ RepWs K T Z ι vs ws ∧ msRun gs ws env st = some (env', st') ∧ ∀ σ' H', SimS K T Z ι st' H' → EnvR K T Z ι σ' env' → Q σ' H'
abbrev VMs (X : Cx) (T : Tab) (es : List Expr) (gs : List TM) : Prop := PGs X es (RdMs X.K T gs)
theorem vms_nil : VMs X T [] [] := pgs_weak pgs_nil fun vs σ H Q h => by
  obtain ⟨Z, ι, env, st, ws, env', st', s, re, rv, e, k⟩ := h
  cases rv with
  | nil => cases e; exact ⟨rfl, k _ _ s re⟩
  | cons _ _ => cases e
theorem vms_cons {es : List Expr} {g : TM} {gs : List TM} (h1 : VM X T e g) (h2 : VMs X T es gs)
    (hs : (assignEach (e :: es) X.env).map (·.2) = assign e X.env :: (assignEach es X.env).map (·.2) := by rfl) : VMs X T (e :: es) (g :: gs) := pgs_weak (pgs_cons h1 h2 hs) fun vs σ H Q h => by
  obtain ⟨Z, ι, env, st, ws, env', st', s, re, rv, e, k⟩ := h
  cases rv with
  | nil => cases e
  | cons r rr =>
    rename_i v w vs ws
    obtain ⟨⟨env1, st1⟩, q, e⟩ := opt_bind_some (show (g w env st).bind (fun r => msRun gs ws r.1 r.2) = some (env', st') from e)
    exact ⟨_, _, rfl, Z, ι, env, st, _, env1, st1, s, re, r, q, fun σ' H' s' re' => ⟨Z, ι, env1, st1, ws, env', st', s', re', rr, e, k⟩⟩
theorem ms_len : ∀ {gs : List TM} {ws : List W} {env : Env} {st : Store} {r : Env × Store}, msRun gs ws env st = some r → ws.length = gs.length
  | [], [], _, _, _, _ => rfl
  | [], _ :: _, _, _, _, h => by cases h
  | _ :: _, [], _, _, _, h => by cases h
  | g :: gs, w :: ws, env, st, r, h => by
    obtain ⟨r1, _, h⟩ := opt_bind_some (show (g w env st).bind (fun r => msRun gs ws r.1 r.2) = some r from h)
    rw [List.length_cons, List.length_cons, ms_len h]
def sUnp (gs : List TM) (t : TAv) : TSv := fun env st => (t env st).thenS fun ws st1 => if small ws.length = true then (match msRun gs ws env st1 with
  | some r => .nx r.1 r.2
  | none => .stuck) else .stuck
theorem vs_unp {ts : List Expr} {gs : List TM} {kt k2 : Nat} {pt pt2 : Pos} (hc : X.calm = true) (ha : VA X T E es tr) (hg : VMs X T ts gs)
    (hn : (assignEach ts X.env).length = gs.length := by rfl) (hst : (assignEach ts X.env).findIdx? (·.1) = none := by rfl)
    (hs : swapsWithSole [.Tuple ts kt pt] (.Tuple es k2 pt2) pos.line X.env = pure false := by rfl) (hw : swappedStores [.Tuple ts kt pt] (.Tuple es k2 pt2) X.env = pure none := by rfl)
    (h1 : (assignEach [.Tuple ts kt pt] X.env).map (·.2) = [assign (.Tuple ts kt pt) X.env] := by rfl) : VS X T E (.Assign [.Tuple ts kt pt] (.Tuple es k2 pt2) pos) (sUnp gs tr) :=
  ps_weak (ps_asg (pe_tup ha) (pg_tup hc hg hn hst) hs hw h1) fun D σ H h => by
    obtain ⟨Z, ι, env, st, s, re, p⟩ := h
    refine ⟨Z, ι, env, st, s, re, (PostS.thenS p).imp fun ws st1 H1 Z1 ι1 l1 s1 p1 vs rvs => ?_⟩
    by_cases hsm : small ws.length = true
    · rw [if_pos hsm] at p1
      refine ⟨small_line (by rw [rvs.length]; exact hsm), fun a ha => ?_⟩
      cases q : msRun gs ws env st1 with
      | none => simp only [q] at p1; exact p1.elim
      | some r =>
        simp only [q] at p1
        have g : Grow Z1 H1 Z1 (upd H1 a (.tup vs)) := ⟨Same.refl Z1, same_new ha, s1.sub.trans (same_new ha), fun _ _ _ => rfl⟩
        exact ⟨a, vs, rfl, SqT.of upd_same, by rw [rvs.length]; exact ms_len q, Z1, ι1, env, st1, ws, r.1, r.2, s1.grow g, re.mono l1, rvs, q, fun σ' H' s' re' => p1 σ' H' Z1 ι1 Le.refl s' re'⟩
    · rw [if_neg hsm] at p1; exact p1.elim
end
end VS

set_option Elab.async false
set_option linter.all false
set_option maxRecDepth 100000
set_option maxHeartbeats 4000000
set_option autoImplicit false
/-! VM: x op= e; list(..) as a cell; small helpers for the printed terms. -/
namespace VS
open PySem PySem.Spec PyProof.Rows L2
theorem hu64 {A : Around} {k : Nat} (hr : Room k A) : A.units + 64 < cLine := hr.units
theorem hu65 {A : Around} {k : Nat} (hr : Room k A) : A.units + 65 < cLine := by have := hr.un; omega
theorem passV {X : Cx} {E : XK} : Passes CX0 X E := fun _ _ _ _ _ _ _ h => h.elim
section
variable {X : Cx} {T : Tab} {E : XK} {a b c e o i value tg : Expr} {es : List Expr} {ta tb tc te to ti tv : TEv} {tr : TAv} {pos pos' apos cpos p p2 : Pos}
def sAug (i : Nat) (g : F → F → Option F) (t : TEv) : TSv := fun env st => match env[i]? with
  | some (some w) => (t env st).thenS fun u st1 => (lk2 g w u st1).thenS fun z st2 => .nx (env.set i (some z)) st2
  | _ => .stuck
theorem vs_aug {i : Nat} {x : Str} {op : Operator} {r : R2} {g : F → F → Option F} (hN : X.N.Nodup) (hi : X.N[i]? = some x) (hx : Loc X.env.scope x) (hr : OpR X (inplaceOp op) r) (ho : Op2 X T r g) (he : VE X T E e te) (hf : X.fn x = true ∨ X.env.scope.names.lookup x = some .local := by first | exact .inl rfl | exact .inr rfl | assumption) :
    VS X T E (.AugAssign (.Name x pos') op e pos) (sAug i g te) := by
  have hp : PIp X op r := fun pins s σ H x y v u Q I r1 r2 q => hr pins s σ H x y v u Q I r1 r2 q
  refine ps_weak (ps_aug hN hi hx he hp hf) fun D σ H h => ?_
  obtain ⟨Z, ι, env, st, s, re, p⟩ := h
  unfold sAug at p
  cases q : env[i]? with
  | none => simp only [q] at p; exact p.elim
  | some o =>
    cases o with
    | none => simp only [q] at p; exact p.elim
    | some w =>
      simp only [q] at p
      obtain ⟨v, ev, rv⟩ := re.get i w q
      refine ⟨v, ev, Z, ι, env, st, s, re, (PostS.thenS p).imp fun u st1 H1 Z1 ι1 l1 s1 p1 y ry => ?_⟩
      have p2 := PostS.thenS p1
      unfold lk2 at p2
      cases q1 : look st1 w with
      | none => rw [q1] at p2; exact p2.elim
      | some x1 =>
        rw [q1] at p2
        cases q2 : look st1 u with
        | none => rw [q2] at p2; exact p2.elim
        | some y1 =>
          rw [q2] at p2
          cases q3 : g x1 y1 with
          | none => simp only [Option.bind_some, q3] at p2; exact p2.elim
          | some z =>
            simp only [Option.bind_some, q3] at p2
            refine ho Z1 H1 v y x1 y1 z _ s1.sub ((rv.mono l1).view s1 q1) (ry.view s1 q2) q3 fun v' H' Z' gr rz => ?_
            exact p2 H' Z' ι1 gr.le (s1.grow gr) _ _ Z' ι1 Le.refl (s1.grow gr) (((re.mono l1).mono gr.le).set (.f rz) i)
/-- list(x) as a cell -/
def lstM (ws : List W) (st : Store) : Res W := match looks st ws with
  | some [x] => (match listF x with
    | some (.lst xs) => .ok (.loc st.length) (st ++ [.lstF xs])
    | _ => .stuck)
  | _ => .stuck
def eListM (t : TAv) : TEv := fun env st => (t env st).bind lstM
theorem ve_listM (hg : Gl X "list") (hm : X.mg "list" = none) (ha : VA X T E [e] tr)
    (he : starEach [e] X.env = (false, eval e X.env) :: starEach [] X.env := by rfl) (hpl : (backTo pos (starEach [] X.env)).any (·.1) = false := by rfl) : VE X T E (.Call (.Name "list" p) [e] [] pos) (eListM tr) :=
  pe_weak (pe_callTy call_list_of hg hm PyProof.Rows.boot_list ha (by decide) (by decide) he hpl) fun σ H Q h => by
    obtain ⟨Z, ι, env, st, s, re, p⟩ := h
    refine ⟨Z, ι, env, st, s, re, (Post.bind p).imp fun ws st1 H1 Z1 ι1 l1 s1 p1 vs rvs => ?_⟩
    unfold lstM at p1
    cases q : looks st1 ws with
    | none => simp only [q] at p1; exact p1.elim
    | some xs =>
      have vv := rvs.views s1 q
      match xs, vv, q with
      | [x], vv, q =>
        simp only [q] at p1
        obtain ⟨v, rfl, hv⟩ := vv.one
        cases q2 : listF x with
        | none => simp only [q2] at p1; exact p1.elim
        | some z =>
          have fin : ∀ (a : Addr) (us : List V) (ys : List F), z = .lst ys → RepFs X.K T Z1 us ys → v = .ref a → (SqL X.K H1 a us ∨ SqT X.K H1 a us) → ∃ p ys, [v] = [.ref p] ∧ (SqL X.K H1 p ys ∨ SqT X.K H1 p ys) ∧ ∀ l, H1 l = none → Q (.ref l) (upd H1 l (.lst ys)) := by
            intro a us ys ez r ev hq
            subst ev ez
            simp only [q2] at p1
            refine ⟨a, us, rfl, hq, fun l hl => ?_⟩
            have hz := free_sub s1.sub hl
            have s2 := s1.alloc (c := Cell.lstF ys) (o := .lst us) hl ⟨hz, us, upd_same, r⟩
            exact p1 _ _ _ Le.alloc s2 _ (.loc (by rw [← s1.len]; exact last_get _ _))
          cases x with
          | lst xs =>
            obtain ⟨a, us, ev, e1, r1⟩ := hv.lst' s1.sub
            cases q2
            exact fin a us xs rfl r1 ev (.inl (SqL.of e1))
          | tup xs =>
            obtain ⟨a, us, ev, e1, r1⟩ := hv.tup'
            cases q2
            exact fin a us xs rfl r1 ev (.inr (same_sqt s1.sub e1))
          | scr ns =>
            cases hv with | f r =>
            cases r with | scr e1 =>
            cases q2
            exact fin _ _ _ rfl (RepFs.ofInts ns) rfl (.inl (s1.sub.seq e1))
          | _ => cases q2
      | [], _, q => simp only [q] at p1; exact p1.elim
      | _ :: _ :: _, _, q => simp only [q] at p1; exact p1.elim
end
end VS

set_option Elab.async false
set_option linter.all false
set_option maxRecDepth 100000
set_option maxHeartbeats 4000000
set_option autoImplicit false
/-! VN: isinstance; what the table of classes must know of it. -/
namespace VS
open PySem PySem.Spec PyProof.Rows L2

/-- the type of a value -/
inductive Ty where
  | non | bl | int | str | tup | lst | dct | own (c : Nat)
/-- a class that is asked for -/
inductive Tg where
  | bl | int | str | tup | lst | dct | own (c : Nat)
def isT : Tg → Ty → Bool
  | .bl, .bl => true
  | .int, .int => true
  | .int, .bl => true
  | .str, .str => true
  | .tup, .tup => true
  | .lst, .lst => true
  | .dct, .dct => true
  | .own c, .own d => c == d
  | _, _ => false
def kyF : F → Ty
  | .non => .non
  | .bl _ => .bl
  | .int _ => .int
  | .str _ => .str
  | .tup _ => .tup
  | .lst _ => .lst
  | .dct _ => .dct
  | .obj c _ => .own c
  | .scr _ => .lst
def tyC : Option Cell → Option Ty
  | some (.lstF _) => some .lst
  | some (.lstW _) => some .lst
  | some (.dct _) => some .dct
  | some (.ins c _) => some (.own c)
  | _ => none
def tyW (st : Store) : W → Option Ty
  | .f x => some (kyF x)
  | .loc n => tyC st[n]?
def tyVal (K : PySem.W.Frag) (T : Tab) : Ty → Value
  | .non => .type "NoneType"
  | .bl => .type "bool"
  | .int => .type "int"
  | .str => .type "str"
  | .tup => .type "tuple"
  | .lst => .type "list"
  | .dct => .type "dict"
  | .own c => .ref (T.ca K c)
def tgVal (K : PySem.W.Frag) (T : Tab) : Tg → Value
  | .bl => .type "bool"
  | .int => .type "int"
  | .str => .type "str"
  | .tup => .type "tuple"
  | .lst => .type "list"
  | .dct => .type "dict"
  | .own c => .ref (T.ca K c)
def insB (K : PySem.W.Frag) (C : Addr) : Bool :=
  decide (PySem.W.findIn K (.ref C) "__class__" = some (some (.builtin "object.__class__"))) && (decide (PySem.W.specialIn K (.builtin "object.__class__") "__get__" = some (some (.builtin "getset_descriptor.__get__"))) &&
    (decide (PySem.W.takesIn K (.builtin "object.__class__") = some true) && decide (PySem.W.mroIn K C (.type "object") = some true)))
structure IsiOk (K : PySem.W.Frag) (T : Tab) : Prop where
  ins : ∀ c, (T.cls[c]?).isSome = true → insB K (T.ca K c) = true
  one : ∀ t g, (∀ c, t = .own c → (T.cls[c]?).isSome = true) → (∀ c, g = .own c → (T.cls[c]?).isSome = true) → PySem.W.kitOne K (tyVal K T t) (tgVal K T g) = some (isT g t)
section
variable {X : Cx} {T : Tab} {E : XK} {Z H : Hp} {ι : List Addr} {st : Store}
theorem sqt_ty {K : PySem.W.Frag} {a : Addr} {vs : List V} (h : SqT K H a vs) : TyX K H (.ref a) (.type "tuple") := by
  rcases h with (h | ⟨o, h⟩) | ⟨o, its, n, e, c, _⟩
  · exact .base (.tup h)
  · exact .fTuple h
  · exact .kTuple e c
theorem sql_ty {K : PySem.W.Frag} {a : Addr} {vs : List V} (h : SqL K H a vs) : TyX K H (.ref a) (.type "list") := by
  rcases h with (h | ⟨o, h⟩) | ⟨o, its, n, e, c, _⟩
  · exact .base (.lst h)
  · exact .base (.frz h)
  · exact .kList e c
theorem ins_ty {K : PySem.W.Frag} {c : Nat} {a dx : Addr} {fs : List (Str × V)} (hT : TabOk K T) (hI : IsiOk K T) (hc : (T.cls[c]?).isSome = true) (e : H a = some (.ins (T.ca K c) dx fs)) : TyX K H (.ref a) (.ref (T.ca K c)) := by
  have h := hI.ins c hc
  unfold insB at h
  simp only [Bool.and_eq_true, decide_eq_true_eq] at h
  exact .base (.ins e (hT.cls c hc) h.1 h.2.1 h.2.2.1 h.2.2.2)
theorem ty_ok {K : PySem.W.Frag} (hT : TabOk K T) (hI : IsiOk K T) (s : SimS K T Z ι st H) {v : V} {w : W} (r : RepW K T Z ι v w) {t : Ty} (h : tyW st w = some t) : TyX K H v (tyVal K T t) ∧ ∀ c, t = .own c → (T.cls[c]?).isSome = true := by
  cases r with
  | f r =>
    cases h
    cases r with
    | non => exact ⟨.base .non, fun _ q => nomatch q⟩
    | bl b => exact ⟨.base (.bl b), fun _ q => nomatch q⟩
    | int b => exact ⟨.base (.int b), fun _ q => nomatch q⟩
    | str b => exact ⟨.base (.str _), fun _ q => nomatch q⟩
    | tup h r => exact ⟨sqt_ty (same_sqt s.sub h), fun _ q => nomatch q⟩
    | lst h r => exact ⟨.base (.lst (s.sub _ _ h)), fun _ q => nomatch q⟩
    | dct h r => exact ⟨.base (.dK (s.sub _ _ h)), fun _ q => nomatch q⟩
    | obj h c r => exact ⟨ins_ty hT hI c (s.sub _ _ h), fun _ q => by cases q; exact c⟩
    | scr h => exact ⟨sql_ty (s.sub.seq h), fun _ q => nomatch q⟩
  | loc e =>
    rename_i a n
    have h : tyC st[n]? = some t := h
    cases q : st[n]? with
    | none => rw [q] at h; cases h
    | some c =>
      rw [q] at h
      have k := s.cell n a c e q
      cases c with
      | dead => cases h
      | lstF xs => cases h; obtain ⟨_, vs, e1, _⟩ := k; exact ⟨.base (.lst e1), fun _ q => nomatch q⟩
      | lstW xs => cases h; obtain ⟨_, vs, e1, _⟩ := k; exact ⟨.base (.lst e1), fun _ q => nomatch q⟩
      | dct xs => cases h; obtain ⟨_, vs, e1, _⟩ := k; exact ⟨.base (.dK e1), fun _ q => nomatch q⟩
      | ins c fs => cases h; obtain ⟨_, dx, fvs, e1, hc, _⟩ := k; exact ⟨ins_ty hT hI hc e1, fun _ q => by cases q; exact hc⟩
theorem tyx_mono {K : PySem.W.Frag} {H H' : Hp} (m : Same H H') {v : V} {t : Value} (h : TyX K H v t) : TyX K H' v t := by
  cases h with
  | base h =>
    cases h with
    | non => exact .base .non
    | bl b => exact .base (.bl b)
    | int b => exact .base (.int b)
    | str b => exact .base (.str b)
    | flt b => exact .base (.flt b)
    | lst e => exact .base (.lst (m _ _ e))
    | frz e => exact .base (.frz (m _ _ e))
    | tup e => exact .base (.tup (m _ _ e))
    | dK e => exact .base (.dK (m _ _ e))
    | dT e => exact .base (.dT (m _ _ e))
    | ins e a b c d f => exact .base (.ins (m _ _ e) a b c d f)
  | byt b => exact .byt b
  | set e => exact .set (m _ _ e)
  | kList e c => exact .kList e c
  | kTuple e c => exact .kTuple e c
  | kDict e c => exact .kDict e c
  | fTuple e => exact .fTuple (m _ _ e)
  | fDict e => exact .fDict (m _ _ e)
/-- a class, as it is written -/
structure TgOk (X : Cx) (T : Tab) (e : Expr) (g : Tg) : Prop where
  ex : ∃ v, PE X e (tC v) ∧ ClsV v (tgVal X.K T g)
  ok : ∀ c, g = .own c → (T.cls[c]?).isSome = true
def tgName : Tg → String
  | .bl => "bool"
  | .int => "int"
  | .str => "str"
  | .tup => "tuple"
  | .lst => "list"
  | .dct => "dict"
  | .own _ => ""
theorem tg_ty {x : Str} {pos : Pos} {g : Tg} (hg : Gl X x) (hm : X.mg x = none) (hv : bootBuiltins x = some (tgVal ([] : PySem.W.Frag) T g)) (ho : ∀ c, g ≠ .own c := by intro c; exact fun q => nomatch q) (hn : x ≠ "__name__" := by decide) (hd : (x == ("__debug__" : Str)) = false := by decide) : TgOk X T (.Name x pos) g := by
  refine ⟨?_, fun c q => absurd q (ho c)⟩
  cases g with
  | own c => exact absurd rfl (ho c)
  | bl => exact ⟨.ty "bool", pe_bltn hg hm hv rfl hn hd, .ty _⟩
  | int => exact ⟨.ty "int", pe_bltn hg hm hv rfl hn hd, .ty _⟩
  | str => exact ⟨.ty "str", pe_bltn hg hm hv rfl hn hd, .ty _⟩
  | tup => exact ⟨.ty "tuple", pe_bltn hg hm hv rfl hn hd, .ty _⟩
  | lst => exact ⟨.ty "list", pe_bltn hg hm hv rfl hn hd, .ty _⟩
  | dct => exact ⟨.ty "dict", pe_bltn hg hm hv rfl hn hd, .ty _⟩
theorem tg_own {x : Str} {pos : Pos} {c : Nat} (hc : (T.cls[c]?).isSome = true) (hg : Gl X x) (hm : X.mg x = some (.ref (T.ca X.K c))) (hd : (x == ("__debug__" : Str)) = false := by decide) : TgOk X T (.Name x pos) (.own c) :=
  ⟨⟨.ref (T.ca X.K c), pe_glob hg hm rfl hd, .own _⟩, fun _ q => by cases q; exact hc⟩
def isiAny (gs : List Tg) (t : Ty) : Bool := gs.any fun g => isT g t
def eIsi (gs : List Tg) (te : TEv) : TEv := fun env st => (te env st).bind fun w st1 => match tyW st1 w with
  | some t => .ok (.f (.bl (isiAny gs t))) st1
  | none => .stuck
variable {e c c1 c2 c3 : Expr} {te : TEv} {p pos p2 : Pos}
theorem rd_isi {gs : List Tg} {σ : L2.St} {Q : VK} (hT : TabOk X.K T) (hI : IsiOk X.K T) (h : RdE X.K T E (eIsi gs te) σ H Q) : RdE X.K T E te σ H (fun x H1 => ∃ t, TyX X.K H1 x (tyVal X.K T t) ∧ (∀ c, t = .own c → (T.cls[c]?).isSome = true) ∧ Q (.bl (isiAny gs t)) H1 ∧ ∀ l cs, H1 l = none → Q (.bl (isiAny gs t)) (upd H1 l (.tup cs))) := by
  obtain ⟨Z, ι, env, st, s, re, p⟩ := h
  refine ⟨Z, ι, env, st, s, re, (Post.bind p).imp fun w st1 H1 Z1 ι1 l1 s1 p1 v rv => ?_⟩
  cases q : tyW st1 w with
  | none => simp only [q] at p1; exact p1.elim
  | some t =>
    simp only [q] at p1
    obtain ⟨h1, h2⟩ := ty_ok hT hI s1 rv q
    refine ⟨t, h1, h2, p1 H1 Z1 ι1 Le.refl s1 _ (.f (.bl _)), fun l cs hl => ?_⟩
    have g : Grow Z1 H1 Z1 (upd H1 l (.tup cs)) := ⟨Same.refl Z1, same_new hl, s1.sub.trans (same_new hl), fun _ _ _ => rfl⟩
    exact p1 _ Z1 ι1 g.le (s1.grow g) _ (.f (.bl _))
theorem ve_isi {g : Tg} (hT : TabOk X.K T) (hI : IsiOk X.K T) (hg : Gl X "isinstance") (hm : X.mg "isinstance" = none) (he : VE X T E e te) (hc : TgOk X T c g)
    (hs : starEach [e, c] X.env = (false, eval e X.env) :: starEach [c] X.env := by rfl) (hs2 : starEach [c] X.env = (false, eval c X.env) :: starEach [] X.env := by rfl) (hpl : (backTo pos (starEach [c] X.env)).any (·.1) = false := by rfl) :
    VE X T E (.Call (.Name "isinstance" p) [e, c] [] pos) (eIsi [g] te) := by
  obtain ⟨v, hv, kv⟩ := hc.ex
  refine pe_weak (pe_callB call_isi hg hm (by decide +kernel) (pa_cons he (pa_cons hv pa_nil hs2) hs) (by decide) (by decide) hs hpl) fun σ H Q h => ?_
  obtain ⟨Z, ι, env, st, s, re, p⟩ := rd_isi hT hI h
  refine ⟨Z, ι, env, st, s, re, p.imp fun w st1 H1 Z1 ι1 l1 s1 p1 x rx => ?_⟩
  obtain ⟨t, h1, h2, h3, _⟩ := p1 x rx
  refine ⟨x, v, _, _, _, rfl, kv, h1, hI.one t g h2 hc.ok, ?_⟩
  simpa [isiAny] using h3
theorem kit_any {K : PySem.W.Frag} (hI : IsiOk K T) {t : Ty} (ht : ∀ c, t = .own c → (T.cls[c]?).isSome = true) : ∀ {gs : List Tg}, (∀ g ∈ gs, ∀ c, g = Tg.own c → (T.cls[c]?).isSome = true) → PySem.W.kitAny K (tyVal K T t) (gs.map (tgVal K T)) = some (isiAny gs t)
  | [], _ => rfl
  | g :: gs, h => by
    refine kitAny_cons (b := isT g t) (hI.one t g ht (h g (by simp))) (fun hb => ?_) (fun hb => ?_)
    · rw [kit_any hI ht (gs := gs) fun g' m => h g' (by simp [m])]
      simp [isiAny, hb]
    · simp [isiAny, hb]
inductive TgsOk (X : Cx) (T : Tab) : List Expr → List Tg → Prop
  | nil : TgsOk X T [] []
  | cons {e : Expr} {es : List Expr} {g : Tg} {gs : List Tg} : TgOk X T e g → starEach (e :: es) X.env = (false, eval e X.env) :: starEach es X.env → TgsOk X T es gs → TgsOk X T (e :: es) (g :: gs)
theorem TgsOk.all {es : List Expr} {gs : List Tg} (h : TgsOk X T es gs) : ∃ vs, Paired ClsV vs (gs.map (tgVal X.K T)) ∧ (∀ g ∈ gs, ∀ c, g = Tg.own c → (T.cls[c]?).isSome = true) ∧ PA X es (fun _ H Q => Q vs H) ∧ vs.length = gs.length := by
  induction h with
  | nil => exact ⟨[], Paired.nil, fun g m => (List.not_mem_nil m).elim, pa_weak pa_nil (fun _ _ _ h => h), rfl⟩
  | @cons e es g gs a hs _ ih =>
    obtain ⟨vs, k, o, pa, hl⟩ := ih
    obtain ⟨v, hv, kv⟩ := a.ex
    refine ⟨v :: vs, .cons kv k, fun g' m => ?_, pa_weak (pa_cons hv pa hs) fun _ _ _ h => h, by simp [hl]⟩
    rcases List.mem_cons.mp m with rfl | m
    · exact a.ok
    · exact o g' m
theorem ve_isiT {es : List Expr} {gs : List Tg} {z : _} (hT : TabOk X.K T) (hI : IsiOk X.K T) (hg : Gl X "isinstance") (hm : X.mg "isinstance" = none) (he : VE X T E e te) (hc : TgsOk X T es gs) (hn : gs.length < 100 := by decide)
    (hs : starEach [e, .Tuple es z p2] X.env = (false, eval e X.env) :: starEach [.Tuple es z p2] X.env := by rfl) (hs2 : starEach [.Tuple es z p2] X.env = (false, eval (.Tuple es z p2) X.env) :: starEach [] X.env := by rfl) (hpl : (backTo pos (starEach [.Tuple es z p2] X.env)).any (·.1) = false := by rfl) :
    VE X T E (.Call (.Name "isinstance" p) [e, .Tuple es z p2] [] pos) (eIsi gs te) := by
  obtain ⟨vs, k, o, pa, hl⟩ := hc.all
  refine pe_weak (pe_callB call_isiT hg hm (by decide +kernel) (pa_cons he (pa_cons (pe_tup pa) pa_nil hs2) hs) (by decide) (by decide) hs hpl) fun σ H Q h => ?_
  obtain ⟨Z, ι, env, st, s, re, p⟩ := rd_isi hT hI h
  refine ⟨Z, ι, env, st, s, re, p.imp fun w st1 H1 Z1 ι1 l1 s1 p1 x rx => ?_⟩
  obtain ⟨t, h1, h2, h3, h4⟩ := p1 x rx
  refine ⟨by rw [hl]; exact Nat.le_of_lt (Nat.lt_of_lt_of_le hn (by decide)), fun l hl0 => ?_⟩
  refine ⟨x, l, vs, _, _, _, rfl, upd_same, k, ?_, kit_any hI h2 o, h4 l vs hl0⟩
  exact tyx_mono (same_new hl0) h1
end
end VS

set_option Elab.async false
set_option linter.all false
set_option maxRecDepth 100000
set_option maxHeartbeats 4000000
set_option autoImplicit false
/-! VO: operators of own classes. -/
namespace VS
open PySem PySem.Spec PyProof.Rows L2

section
variable {P : Program} {w : World} {K : PySem.W.Frag} {mg : Str → Option Value} {base : Heap} {T : Tab} {CX : CXT} {k : Nat} {f : Addr} {m : FnM}
theorem Fn.raw (F : Fn P w K mg base T CX k f m) : FnR P w K mg base CX k f (spM K T m) := by
  obtain ⟨fd, ps, ds, dvs, dfs, m0, F0, b, v, r, rfl⟩ := F.ex
  refine (F0.raw b v).imp fun vs H Q E h => ?_
  obtain ⟨Z, ι, ws, st, s, rw, p⟩ := h
  exact ⟨Z, ι, ws ++ dfs.map W.f, st, s, rw.append (RepWs.map_f (r Z)), p⟩
end
/-- a value handed to sp: what is known of it -/
def OwnAt (H : Hp) (C : Addr) (x : V) : Prop := ∃ a dx fs, x = .ref a ∧ H a = some (.ins C dx fs)
section
variable {X : Cx} {T : Tab} {E : XK} {CX : CXT} {k : Nat} {g C : Addr} {m : FnM} {sp : Sp}
theorem own_inst {pins : List (Addr × Obj)} {σ : L2.St} {H : Hp} {s : Shared} {a dx : Addr} {fs : List (Str × V)} (I : Inv X pins σ H s) (e : H a = some (.ins C dx fs)) : ∃ ox od, PySem.W.InstAt s.heap a ox C (some od) := by
  obtain ⟨mA, O, _⟩ := ins_get I.hok e
  obtain ⟨od, J, _⟩ := O.look
  exact ⟨_, _, J⟩
/-! ### len -/
def rLenO (C : Addr) (sp : Sp) (E : XK) : List V → Hp → VK → Prop := fun xs H Q => ∃ x, xs = [x] ∧ OwnAt H C x ∧ sp [x] H (fun z H' => ∃ i : Int, z = .int i ∧ (0 ≤ i ∧ i < 2 ^ 63) ∧ Q z H') E
theorem call_lenO (hm : Meth X.K C "__len__" g) (F : FnR X.prog X.w X.K X.mg X.base CX k g sp) (hr : Room (k + 1) X.A) (hx : Passes CX X E) : CallR X (.builtin "len") (rLenO C sp E) := by
  intro pins s σ H xs us Q I r h
  obtain ⟨x, rfl, ⟨a, dx, fs, rfl, ea⟩, q⟩ := h
  obtain ⟨u, rfl, ru⟩ := r.one
  cases (show u = Value.ref a from ru)
  obtain ⟨ox, od, J⟩ := own_inst I ea
  obtain ⟨mm, hF⟩ := I.fr
  refine PySem.W.len_K hF I.ok.mod.kin J hm.at_ hm.fn (wpAny_mono (wpAny_call (SlX.run_at (us := [.ref a]) (ws := [.ref a]) F hr.in1 I.env0.in1 hx I (.cons rfl .nil) q)) (fun w s' z => ?_) fun _ _ x => x)
  obtain ⟨z', H', I', rz, i, rfl, hi, qz⟩ := z
  obtain ⟨t, e⟩ := (show ∃ t, w = Value.int i t from rz)
  cases e
  exact ⟨hi, .int i, H', I'.tok _, ⟨_, rfl⟩, qz⟩
/-! ### str -/
def rStrO (C : Addr) (sp : Sp) (E : XK) : List V → Hp → VK → Prop := fun xs H Q => ∃ x, xs = [x] ∧ OwnAt H C x ∧ sp [x] H (fun z H' => ∃ y : Str, z = .str y ∧ Q z H') E
theorem call_strO (hm : Meth X.K C "__str__" g) (F : FnR X.prog X.w X.K X.mg X.base CX k g sp) (hr : Room (k + 2) X.A) (hx : Passes CX X E) : CallR X (.type "str") (rStrO C sp E) := by
  intro pins s σ H xs us Q I r h
  obtain ⟨x, rfl, ⟨a, dx, fs, rfl, ea⟩, q⟩ := h
  obtain ⟨u, rfl, ru⟩ := r.one
  cases (show u = Value.ref a from ru)
  obtain ⟨ox, od, J⟩ := own_inst I ea
  have hr2 : Room k X.A.in1.in1 := (show Room (k + 1) X.A.in1 from Room.in1 hr).in1
  refine PySem.W.kso_call hr2.units0 I.kIn J hm.at_ hm.fn (wpAny_mono (wpAny_call (SlX.run_at (us := [.ref a]) (ws := [.ref a]) F hr2 I.env0.in1.in1 hx I (.cons rfl .nil) q)) (fun w s' z => ?_) fun _ _ x => x)
  obtain ⟨z', H', I', rz, i, rfl, qz⟩ := z
  obtain ⟨t, e⟩ := (show ∃ t, w = Value.str i t from rz)
  cases e
  exact ⟨.str i, H', I', ⟨_, rfl⟩, qz⟩
/-! ### two values, the first one's class has the def -/
def rOwn2 (C : Addr) (ok : V → Hp → Prop) (sp : Sp) (E : XK) : R2 := fun x y H Q => OwnAt H C x ∧ ok y H ∧ sp [x, y] H Q E
theorem op_ownEq (hm : Meth X.K C "__eq__" g) (F : FnR X.prog X.w X.K X.mg X.base CX k g sp) (hr : Room k X.A) (hx : Passes CX X E) :
    OpR X (compareOp .Eq) (rOwn2 C (fun y H => ∃ t, TyX X.K H y t ∧ PySem.W.notFirst X.K C t = true) sp E) := by
  intro pins s σ H x y v u Q I rx ry h
  obtain ⟨⟨a, dx, fs, rfl, ea⟩, ⟨t, ty, hn⟩, q⟩ := h
  cases (show v = Value.ref a from rx)
  obtain ⟨ox, od, J⟩ := own_inst I ea
  obtain ⟨Pk, kx, pk, _⟩ := kit_of I ry ty
  obtain ⟨mm, hF⟩ := I.fr
  refine PySem.W.cmp_K (op := .Eq) (tb := t) hr.units0 hF I.ok.mod.kin J (kx.ty _ _ I.kIn pk) hn hm.at_ hm.fn ?_
  refine wpAny_mono (wpAny_call (run_fnR (us := [.ref a, u]) (vs := [.ref a, y]) F hr hx I (.cons rfl (.cons ry .nil)) q)) (fun w s' z => ?_) fun _ _ x => x
  obtain ⟨z', H', I', rz, qz⟩ := z
  exact SlX.cmpback rz ⟨z', H', I', rz, qz⟩
theorem op_ownBin {op : Operator} (hc : PySem.W.selfFirst X.K C = true) (hm : Meth X.K C (PySem.dunder op.info.2) g) (F : FnR X.prog X.w X.K X.mg X.base CX k g sp) (hr : Room k X.A) (hx : Passes CX X E) :
    OpR X (binaryOp op) (rOwn2 C (fun y H => OwnAt H C y) sp E) := by
  intro pins s σ H x y v u Q I rx ry h
  obtain ⟨⟨a, dx, fs, rfl, ea⟩, ⟨b, dy, fs', rfl, eb⟩, q⟩ := h
  cases (show v = Value.ref a from rx)
  cases (show u = Value.ref b from ry)
  obtain ⟨ox, od, J⟩ := own_inst I ea
  obtain ⟨ox', od', J'⟩ := own_inst I eb
  obtain ⟨mm, hF⟩ := I.fr
  refine PySem.W.binop_K hF I.ok.mod.kin J J'.type hc hm.at_ hm.fn ?_
  refine wpAny_mono (wpAny_call (run_fnR (us := [.ref a, .ref b]) (vs := [.ref a, .ref b]) F hr hx I (.cons rfl (.cons rfl .nil)) q)) (fun w s' z => ?_) fun _ _ x => x
  obtain ⟨z', H', I', rz, qz⟩ := z
  exact SlX.cmpback rz ⟨z', H', I', rz, qz⟩
/-- .. the second one an int or a text -/
structure BinT (K : PySem.W.Frag) (C : Addr) (nm : String) (Ty : String) : Prop where
  rc : ∃ rc, PySem.W.findIn K (.ref C) (PySem.dunderR nm) = some rc ∧ (rc = none ∨ ∃ g : Addr, rc = some (.ref g))
  fo : ∃ fo, PySem.W.findIn K (.type Ty) (PySem.dunder nm) = some fo
  ro : ∃ ro, PySem.W.findIn K (.type Ty) (PySem.dunderR nm) = some ro
  sub : PySem.W.subIn K (.type Ty) (.ref C) = some false
def IsV (Ty : String) : V → Prop
  | .int _ => Ty = "int"
  | .str _ => Ty = "str"
  | _ => False
theorem op_ownBinT {op : Operator} {Ty : String} (hc : PySem.W.selfFirst X.K C = true) (hm : Meth X.K C (PySem.dunder op.info.2) g) (hb : BinT X.K C op.info.2 Ty) (F : FnR X.prog X.w X.K X.mg X.base CX k g sp) (hr : Room k X.A) (hx : Passes CX X E) :
    OpR X (binaryOp op) (rOwn2 C (fun y H => IsV Ty y) sp E) := by
  intro pins s σ H x y v u Q I rx ry h
  obtain ⟨⟨a, dx, fs, rfl, ea⟩, hy, q⟩ := h
  cases (show v = Value.ref a from rx)
  obtain ⟨ox, od, J⟩ := own_inst I ea
  obtain ⟨mm, hF⟩ := I.fr
  obtain ⟨rc, h1, h2⟩ := hb.rc
  obtain ⟨fo, h3⟩ := hb.fo
  obtain ⟨ro, h4⟩ := hb.ro
  have ht : typeOf u = pure (.type Ty) := by
    cases y with
    | int i => obtain ⟨t, e⟩ := (show ∃ t, u = Value.int i t from ry); cases e; cases (show Ty = "int" from hy); rfl
    | str i => obtain ⟨t, e⟩ := (show ∃ t, u = Value.str i t from ry); cases e; cases (show Ty = "str" from hy); rfl
    | _ => exact hy.elim
  refine PySem.W.ksp_binT hF I.ok.mod.kin J ht hc hm.at_ hm.fn h1 h2 h3 h4 hb.sub ?_
  refine wpAny_mono (wpAny_call (run_fnR (us := [.ref a, u]) (vs := [.ref a, y]) F hr hx I (.cons rfl (.cons ry .nil)) q)) (fun w s' z => ?_) fun _ _ x => x
  obtain ⟨z', H', I', rz, qz⟩ := z
  exact SlX.cmpback rz ⟨z', H', I', rz, qz⟩
/-! ### x in y, y of the class -/
def rInO (C : Addr) (neg : Bool) (sp : Sp) (E : XK) : R2 := fun x y H Q => OwnAt H C y ∧ sp [y, x] H (fun z H' => ∃ b, z = .bl b ∧ Q (.bl (neg ^^ b)) H') E
theorem op_inO (hm : Meth X.K C "__contains__" g) (F : FnR X.prog X.w X.K X.mg X.base CX k g sp) (hr : Room k X.A) (hx : Passes CX X E) : OpR X (compareOp .In) (rInO C false sp E) := by
  intro pins s σ H x y v u Q I rx ry h
  obtain ⟨⟨b, dy, fs, rfl, eb⟩, q⟩ := h
  cases (show u = Value.ref b from ry)
  obtain ⟨ox, od, J⟩ := own_inst I eb
  obtain ⟨mm, hF⟩ := I.fr
  refine PySem.W.in_K hF I.ok.mod.kin J hm.at_ hm.fn ?_
  refine wpAny_mono (wpAny_call (run_fnR (us := [.ref b, v]) (vs := [.ref b, x]) F hr hx I (.cons rfl (.cons rx .nil)) q)) (fun w s' z => ?_) fun _ _ x => x
  obtain ⟨z', H', I', rz, c, rfl, qz⟩ := z
  cases (show w = Value.bool c from rz)
  exact wpAny_truthy_bool ⟨.bl c, H', I', rfl, by simpa using qz⟩
theorem op_ninO (hm : Meth X.K C "__contains__" g) (F : FnR X.prog X.w X.K X.mg X.base CX k g sp) (hr : Room k X.A) (hx : Passes CX X E) : OpR X (compareOp .NotIn) (rInO C true sp E) := by
  intro pins s σ H x y v u Q I rx ry h
  obtain ⟨⟨b, dy, fs, rfl, eb⟩, q⟩ := h
  cases (show u = Value.ref b from ry)
  obtain ⟨ox, od, J⟩ := own_inst I eb
  obtain ⟨mm, hF⟩ := I.fr
  refine PySem.W.notIn_K hF I.ok.mod.kin J hm.at_ hm.fn ?_
  refine wpAny_mono (wpAny_call (run_fnR (us := [.ref b, v]) (vs := [.ref b, x]) F hr hx I (.cons rfl (.cons rx .nil)) q)) (fun w s' z => ?_) fun _ _ x => x
  obtain ⟨z', H', I', rz, c, rfl, qz⟩ := z
  cases (show w = Value.bool c from rz)
  exact wpAny_truthy_bool ⟨.bl (!c), H', I', rfl, by simpa using qz⟩
end

/-! ### over plain data -/
section
variable {X : Cx} {T : Tab} {E : XK} {CX : CXT} {k c : Nat} {g : Addr} {m : FnM} {a b e : Expr} {ta tb te : TEv} {pos p : Pos}
theorem own_at {K : PySem.W.Frag} {Z H : Hp} {ι : List Addr} {st : Store} {v : V} {w : W} (s : SimS K T Z ι st H) (r : RepW K T Z ι v w) (h : clsW st w = some c) : OwnAt H (T.ca K c) v := by
  obtain ⟨a, dx, fvs, e1, e2, _⟩ := obj_at s r h
  exact ⟨a, dx, fvs, e1, e2⟩
def backInt (r : Res W) : Res W := r.bind fun w st => match w with
  | .f (.int i) => if 0 ≤ i ∧ i < 2 ^ 63 then .ok (.f (.int i)) st else .stuck
  | _ => .stuck
def backStr (r : Res W) : Res W := r.bind fun w st => match w with
  | .f (.str i) => .ok (.f (.str i)) st
  | _ => .stuck
def backBl (neg : Bool) (r : Res W) : Res W := r.bind fun w st => match w with
  | .f (.bl i) => .ok (.f (.bl (neg ^^ i))) st
  | _ => .stuck
def own1 (c : Nat) (m : FnM) (w : W) (st : Store) : Res W := if clsW st w = some c then m [w] st else .stuck
def own2 (c : Nat) (m : FnM) (w u : W) (st : Store) : Res W := if clsW st w = some c then m [w, u] st else .stuck
def eLenO (c : Nat) (m : FnM) (te : TEv) : TEv := fun env st => (te env st).bind fun w st1 => backInt (own1 c m w st1)
def eStrO (c : Nat) (m : FnM) (te : TEv) : TEv := fun env st => (te env st).bind fun w st1 => backStr (own1 c m w st1)
theorem own1_ok {K : PySem.W.Frag} {Z H : Hp} {ι : List Addr} {st : Store} {v : V} {w : W} {back : Res W → Res W} {f : W → Store → Res W} (hb : ∀ r, back r = r.bind f) {kk : W → Store → Hp → Hp → List Addr → Prop} (s : SimS K T Z ι st H) (rv : RepW K T Z ι v w)
    (p : Post K T E Z ι (back (own1 c m w st)) kk) : OwnAt H (T.ca K c) v ∧ Post K T E Z ι (m [w] st) (fun u st1 _ Z1 ι1 => Post K T E Z1 ι1 (f u st1) kk) := by
  rw [hb] at p
  unfold own1 at p
  by_cases hc : clsW st w = some c
  · rw [if_pos hc] at p
    exact ⟨own_at s rv hc, Post.bind p⟩
  · rw [if_neg hc] at p
    exact p.elim
theorem ve_lenO {f : Addr} (hm : Meth X.K (T.ca X.K c) "__len__" f) (F : Fn X.prog X.w X.K X.mg X.base T CX k f m) (hr : Room (k + 1) X.A) (hx : Passes CX X E) (hg : Gl X "len") (hn : X.mg "len" = none) (he : VE X T E e te)
    (hs : starEach [e] X.env = (false, eval e X.env) :: starEach [] X.env := by rfl) (hpl : (backTo pos (starEach [] X.env)).any (·.1) = false := by rfl) : VE X T E (.Call (.Name "len" p) [e] [] pos) (eLenO c m te) := by
  refine pe_weak (pe_callB (call_lenO hm F.raw hr hx) hg hn (by decide +kernel) (pa_cons he pa_nil hs) (by decide) (by decide) hs hpl) fun σ H Q h => ?_
  obtain ⟨Z, ι, env, st, s, re, p⟩ := h
  refine ⟨Z, ι, env, st, s, re, (Post.bind p).imp fun w st1 H1 Z1 ι1 l1 s1 p1 v rv => ?_⟩
  obtain ⟨ho, p2⟩ := own1_ok (fun r => rfl) s1 rv p1
  refine ⟨v, rfl, ho, Z1, ι1, [w], st1, s1, .cons rv .nil, p2.imp fun u st2 H2 Z2 ι2 l2 s2 p3 v2 rv2 => ?_⟩
  cases rv2 with
  | loc e => exact p3.elim
  | f r =>
    cases r with
    | int i =>
      have p3 : Post X.K T E Z2 ι2 (if 0 ≤ i ∧ i < 2 ^ 63 then Res.ok (W.f (.int i)) st2 else .stuck) _ := p3
      by_cases hi : 0 ≤ i ∧ i < 2 ^ 63
      · rw [if_pos hi] at p3
        exact ⟨i, rfl, hi, p3 H2 Z2 ι2 Le.refl s2 _ (.f (.int i))⟩
      · rw [if_neg hi] at p3
        exact p3.elim
    | _ => exact p3.elim
theorem ve_strO {f : Addr} (hm : Meth X.K (T.ca X.K c) "__str__" f) (F : Fn X.prog X.w X.K X.mg X.base T CX k f m) (hr : Room (k + 2) X.A) (hx : Passes CX X E) (hg : Gl X "str") (hn : X.mg "str" = none) (he : VE X T E e te)
    (hs : starEach [e] X.env = (false, eval e X.env) :: starEach [] X.env := by rfl) (hpl : (backTo pos (starEach [] X.env)).any (·.1) = false := by rfl) : VE X T E (.Call (.Name "str" p) [e] [] pos) (eStrO c m te) := by
  refine pe_weak (pe_callTy (call_strO hm F.raw hr hx) hg hn (by decide +kernel) (pa_cons he pa_nil hs) (by decide) (by decide) hs hpl) fun σ H Q h => ?_
  obtain ⟨Z, ι, env, st, s, re, p⟩ := h
  refine ⟨Z, ι, env, st, s, re, (Post.bind p).imp fun w st1 H1 Z1 ι1 l1 s1 p1 v rv => ?_⟩
  obtain ⟨ho, p2⟩ := own1_ok (fun r => rfl) s1 rv p1
  refine ⟨v, rfl, ho, Z1, ι1, [w], st1, s1, .cons rv .nil, p2.imp fun u st2 H2 Z2 ι2 l2 s2 p3 v2 rv2 => ?_⟩
  cases rv2 with
  | loc e => exact p3.elim
  | f r =>
    cases r with
    | str i => exact ⟨S i, rfl, p3 H2 Z2 ι2 Le.refl s2 _ (.f (.str i))⟩
    | _ => exact p3.elim
/-- x op y by the first one's class: ok tells which y -/
def eOwn2 (c : Nat) (ok : Store → W → Bool) (m : FnM) (ta tb : TEv) : TEv := fun env st => (ta env st).bind fun w st1 => (tb env st1).bind fun u st2 => if ok st2 u = true then own2 c m w u st2 else .stuck
def anyTy (st : Store) (u : W) : Bool := (tyW st u).isSome
def isOwn (c : Nat) (st : Store) (u : W) : Bool := decide (clsW st u = some c)
def isIntW (_ : Store) : W → Bool
  | .f (.int _) => true
  | _ => false
def isStrW (_ : Store) : W → Bool
  | .f (.str _) => true
  | _ => false
theorem rd_own2 {ok : Store → W → Bool} {okV : V → Hp → Prop} (hok : ∀ Z H ι st v w, SimS X.K T Z ι st H → RepW X.K T Z ι v w → ok st w = true → okV v H) {σ : L2.St} {H : Hp} {Q : VK} (h : RdE X.K T E (eOwn2 c ok m ta tb) σ H Q) :
    tOp (rOwn2 (T.ca X.K c) okV (spM X.K T m) E) (RdE X.K T E ta) (RdE X.K T E tb) σ H Q := by
  obtain ⟨Z, ι, env, st, s, re, p⟩ := h
  refine ⟨Z, ι, env, st, s, re, (Post.bind p).imp fun w st1 H1 Z1 ι1 l1 s1 p1 v rv => ?_⟩
  refine ⟨Z1, ι1, env, st1, s1, re.mono l1, (Post.bind p1).imp fun u st2 H2 Z2 ι2 l2 s2 p2 v2 rv2 => ?_⟩
  by_cases hk : ok st2 u = true
  · rw [if_pos hk] at p2
    unfold own2 at p2
    by_cases hc : clsW st2 w = some c
    · rw [if_pos hc] at p2
      exact ⟨own_at s2 (rv.mono l2) hc, hok _ _ _ _ _ _ s2 rv2 hk, Z2, ι2, [w, u], st2, s2, .cons (rv.mono l2) (.cons rv2 .nil), p2⟩
    · rw [if_neg hc] at p2
      exact p2.elim
  · rw [if_neg hk] at p2
    exact p2.elim
theorem kit_first {K : PySem.W.Frag} (hI : IsiOk K T) (hc : (T.cls[c]?).isSome = true) {t : Ty} (ht : ∀ d, t = .own d → (T.cls[d]?).isSome = true) : PySem.W.notFirst K (T.ca K c) (tyVal K T t) = true := by
  have h := hI.one t (.own c) ht (fun d q => by cases q; exact hc)
  unfold PySem.W.notFirst
  rw [Bool.or_eq_true]
  unfold PySem.W.kitOne at h
  by_cases q : (tyVal K T t == tgVal K T (.own c)) = true
  · exact .inl q
  · rw [if_neg q] at h
    right
    have h2 : (if ((PySem.W.clsIn K (T.ca K c)).isSome && PySem.W.typeIn K (.ref (T.ca K c)) == some (.type "type")) = true then PySem.W.subIn K (tyVal K T t) (.ref (T.ca K c)) else none) = some (isT (.own c) t) := h
    split at h2
    · rw [h2]
      cases t with
      | own d =>
        have hd : (c == d) = false := by
          refine Bool.eq_false_iff.mpr fun e => q ?_
          have e := beq_iff_eq.mp e
          subst e
          exact beq_self_eq_true _
        simp [isT, hd]
      | _ => rfl
    · cases h2
theorem ve_ownEq {f : Addr} (hT : TabOk X.K T) (hI : IsiOk X.K T) (hc : (T.cls[c]?).isSome = true) (hm : Meth X.K (T.ca X.K c) "__eq__" f) (F : Fn X.prog X.w X.K X.mg X.base T CX k f m) (hr : Room k X.A) (hx : Passes CX X E) (ha : VE X T E a ta) (hb : VE X T E b tb) :
    VE X T E (.Compare a [.Eq] [b] pos) (eOwn2 c anyTy m ta tb) :=
  pe_weak (pe_cmpR (op_ownEq hm F.raw hr hx) ha hb (nomark _)) fun σ H Q h => rd_own2 (fun Z H ι st v w s r q => by
    obtain ⟨t, ht⟩ := Option.isSome_iff_exists.mp q
    obtain ⟨h1, h2⟩ := ty_ok hT hI s r ht
    exact ⟨_, h1, kit_first hI hc h2⟩) h
theorem vt_ownEq {f : Addr} (hT : TabOk X.K T) (hI : IsiOk X.K T) (hc : (T.cls[c]?).isSome = true) (hm : Meth X.K (T.ca X.K c) "__eq__" f) (F : Fn X.prog X.w X.K X.mg X.base T CX k f m) (hr : Room k X.A) (hx : Passes CX X E) (ha : VE X T E a ta) (hb : VE X T E b tb) :
    VT X T E (.Compare a [.Eq] [b] pos) (tVal (eOwn2 c anyTy m ta tb)) :=
  pt_weak (pt_cmpR (op_ownEq hm F.raw hr hx) ha hb (nomark _)) fun σ H Q h => by
    obtain ⟨Z, ι, env, st, s, re, p⟩ := rd_tval h
    exact rd_own2 (fun Z H ι st v w s r q => by
      obtain ⟨t, ht⟩ := Option.isSome_iff_exists.mp q
      obtain ⟨h1, h2⟩ := ty_ok hT hI s r ht
      exact ⟨_, h1, kit_first hI hc h2⟩) ⟨Z, ι, env, st, s, re, p⟩
theorem ve_ownBin {op : Operator} {f : Addr} (h1 : PySem.W.selfFirst X.K (T.ca X.K c) = true) (hm : Meth X.K (T.ca X.K c) (PySem.dunder op.info.2) f) (F : Fn X.prog X.w X.K X.mg X.base T CX k f m) (hr : Room k X.A) (hx : Passes CX X E) (ha : VE X T E a ta) (hb : VE X T E b tb) :
    VE X T E (.BinOp a op b pos) (eOwn2 c (isOwn c) m ta tb) :=
  pe_weak (pe_op (op_ownBin h1 hm F.raw hr hx) ha hb) fun σ H Q h => rd_own2 (fun Z H ι st v w s r q => own_at s r (of_decide_eq_true q)) h
theorem ve_ownBinI {op : Operator} {f : Addr} (h1 : PySem.W.selfFirst X.K (T.ca X.K c) = true) (hm : Meth X.K (T.ca X.K c) (PySem.dunder op.info.2) f) (ht : BinT X.K (T.ca X.K c) op.info.2 "int") (F : Fn X.prog X.w X.K X.mg X.base T CX k f m) (hr : Room k X.A) (hx : Passes CX X E) (ha : VE X T E a ta) (hb : VE X T E b tb) :
    VE X T E (.BinOp a op b pos) (eOwn2 c isIntW m ta tb) :=
  pe_weak (pe_op (op_ownBinT h1 hm ht F.raw hr hx) ha hb) fun σ H Q h => rd_own2 (fun Z H ι st v w s r q => by
    cases r with
    | loc _ => cases q
    | f r => cases r <;> first | exact (rfl : "int" = "int") | cases q) h
theorem ve_ownBinS {op : Operator} {f : Addr} (h1 : PySem.W.selfFirst X.K (T.ca X.K c) = true) (hm : Meth X.K (T.ca X.K c) (PySem.dunder op.info.2) f) (ht : BinT X.K (T.ca X.K c) op.info.2 "str") (F : Fn X.prog X.w X.K X.mg X.base T CX k f m) (hr : Room k X.A) (hx : Passes CX X E) (ha : VE X T E a ta) (hb : VE X T E b tb) :
    VE X T E (.BinOp a op b pos) (eOwn2 c isStrW m ta tb) :=
  pe_weak (pe_op (op_ownBinT h1 hm ht F.raw hr hx) ha hb) fun σ H Q h => rd_own2 (fun Z H ι st v w s r q => by
    cases r with
    | loc _ => cases q
    | f r => cases r <;> first | exact (rfl : "str" = "str") | cases q) h
/-- x in y, y of the class -/
def eInO (c : Nat) (neg : Bool) (m : FnM) (ta tb : TEv) : TEv := fun env st => (ta env st).bind fun w st1 => (tb env st1).bind fun u st2 => backBl neg (own2 c m u w st2)
theorem rd_inO {neg : Bool} {σ : L2.St} {H : Hp} {Q : VK} (h : RdE X.K T E (eInO c neg m ta tb) σ H Q) : tOp (rInO (T.ca X.K c) neg (spM X.K T m) E) (RdE X.K T E ta) (RdE X.K T E tb) σ H Q := by
  obtain ⟨Z, ι, env, st, s, re, p⟩ := h
  refine ⟨Z, ι, env, st, s, re, (Post.bind p).imp fun w st1 H1 Z1 ι1 l1 s1 p1 v rv => ?_⟩
  refine ⟨Z1, ι1, env, st1, s1, re.mono l1, (Post.bind p1).imp fun u st2 H2 Z2 ι2 l2 s2 p2 v2 rv2 => ?_⟩
  unfold backBl own2 at p2
  by_cases hc : clsW st2 u = some c
  · rw [if_pos hc] at p2
    refine ⟨own_at s2 rv2 hc, Z2, ι2, [u, w], st2, s2, .cons rv2 (.cons (rv.mono l2) .nil), (Post.bind p2).imp fun y st3 H3 Z3 ι3 l3 s3 p3 v3 rv3 => ?_⟩
    cases rv3 with
    | loc e => exact p3.elim
    | f r =>
      cases r with
      | bl i => exact ⟨i, rfl, p3 H3 Z3 ι3 Le.refl s3 _ (.f (.bl _))⟩
      | _ => exact p3.elim
  · rw [if_neg hc] at p2
    exact p2.elim
theorem ve_inO {f : Addr} (hm : Meth X.K (T.ca X.K c) "__contains__" f) (F : Fn X.prog X.w X.K X.mg X.base T CX k f m) (hr : Room k X.A) (hx : Passes CX X E) (ha : VE X T E a ta) (hb : VE X T E b tb) (hmk : behindInMarks .In b = false) :
    VE X T E (.Compare a [.In] [b] pos) (eInO c false m ta tb) := pe_weak (pe_cmpR (op_inO hm F.raw hr hx) ha hb hmk) fun σ H Q h => rd_inO h
theorem ve_ninO {f : Addr} (hm : Meth X.K (T.ca X.K c) "__contains__" f) (F : Fn X.prog X.w X.K X.mg X.base T CX k f m) (hr : Room k X.A) (hx : Passes CX X E) (ha : VE X T E a ta) (hb : VE X T E b tb) (hmk : behindInMarks .NotIn b = false) :
    VE X T E (.Compare a [.NotIn] [b] pos) (eInO c true m ta tb) := pe_weak (pe_cmpR (op_ninO hm F.raw hr hx) ha hb hmk) fun σ H Q h => rd_inO h
theorem vt_inO {f : Addr} (hm : Meth X.K (T.ca X.K c) "__contains__" f) (F : Fn X.prog X.w X.K X.mg X.base T CX k f m) (hr : Room k X.A) (hx : Passes CX X E) (ha : VE X T E a ta) (hb : VE X T E b tb) (hmk : behindInMarks .In b = false) :
    VT X T E (.Compare a [.In] [b] pos) (tVal (eInO c false m ta tb)) := pt_weak (pt_cmpR (op_inO hm F.raw hr hx) ha hb hmk) fun σ H Q h => rd_inO (rd_tval h)
theorem vt_ninO {f : Addr} (hm : Meth X.K (T.ca X.K c) "__contains__" f) (F : Fn X.prog X.w X.K X.mg X.base T CX k f m) (hr : Room k X.A) (hx : Passes CX X E) (ha : VE X T E a ta) (hb : VE X T E b tb) (hmk : behindInMarks .NotIn b = false) :
    VT X T E (.Compare a [.NotIn] [b] pos) (tVal (eInO c true m ta tb)) := pt_weak (pt_cmpR (op_ninO hm F.raw hr hx) ha hb hmk) fun σ H Q h => rd_inO (rd_tval h)
end
end VS

set_option Elab.async false
set_option linter.all false
set_option maxRecDepth 100000
set_option maxHeartbeats 4000000
set_option autoImplicit false
/-! VP: enumerate and zip over lists, tuples and texts. -/
namespace VS
open PySem PySem.Spec PyProof.Rows L2

/-- what an iterator goes over -/
inductive Sk where
  | lst (a : Addr) | tup (a : Addr) | str (x : Str)
def Sk.val : Sk → V
  | .lst a => .ref a
  | .tup a => .ref a
  | .str x => .str x
def Sk.ads : Sk → List Addr
  | .lst a => [a]
  | .tup a => [a]
  | .str _ => []
def Sk.At (K : PySem.W.Frag) (H : Hp) : Sk → List V → Prop
  | .lst a, vs => SqL K H a vs
  | .tup a, vs => SqT K H a vs
  | .str x, vs => vs = x.cps.toList.map fun c => V.str ⟨#[c]⟩
def So (u : Tok) (sk : Sk) (it : Addr) (i : Nat) (h : Heap) : Prop := match sk with
  | .lst a => h.IsListIter it a i
  | .tup a => h.IsTupleIter it a i
  | .str x => h.IsStrIter it (strIterType x) x u i
def Sk.obj (u : Tok) : Sk → Obj
  | .lst a => { cls := .type "list_iterator", data := .fields #[.ref a, .int 0 0] }
  | .tup a => { cls := .type "tuple_iterator", data := .fields #[.ref a, .int 0 0] }
  | .str x => { cls := .type (strIterType x), data := .fields #[.str x u, .int 0 0] }
theorem So.obj {u : Tok} {sk : Sk} {it : Addr} {i : Nat} {h : Heap} (st : So u sk it i h) : ∃ o, h.get? it = some o ∧ ∀ v, o.data ≠ .cell v := by
  cases sk <;> (obtain ⟨o, e, c, d⟩ := st; exact ⟨o, e, fun v q => by rw [d] at q; cases q⟩)
theorem So.keep {u : Tok} {sk : Sk} {it : Addr} {i : Nat} {h h' : Heap} (st : So u sk it i h) (k : ∀ o, h.get? it = some o → h'.get? it = some o) : So u sk it i h' := by
  cases sk <;> (obtain ⟨o, e, r⟩ := st; exact ⟨o, k o e, r⟩)
theorem So.first {u : Tok} {sk : Sk} {it : Addr} {h : Heap} (e : h.get? it = some (sk.obj u)) : So u sk it 0 h := by
  cases sk <;> exact ⟨_, e, rfl, rfl⟩
section
variable {X : Cx} {pins : List (Addr × Obj)} {σ : L2.St} {H : Hp} {s : Shared}
theorem sk_begins (I : Inv X pins σ H s) {sk : Sk} {vs : List V} {v : Value} (h : sk.At X.K H vs) (r : RelV sk.val v) : ∃ (u : Tok) (P : Heap → Prop), Begins v (sk.obj u) P ∧ P s.heap ∧ ∀ b ∈ sk.ads, b < s.heap.objs.size := by
  cases sk with
  | lst a =>
    cases (show v = Value.ref a from r)
    obtain ⟨its, rv, p, _⟩ := I.list h
    refine ⟨0, _, begins_list a its.toArray, p.isList, fun b hb => ?_⟩
    have e : b = a := by simpa [Sk.ads] using hb
    subst e
    exact p.lt
  | tup a =>
    cases (show v = Value.ref a from r)
    obtain ⟨its, rv, p, _⟩ := I.tuple h
    refine ⟨0, _, begins_tuple a its.toArray, (show s.heap.IsTuple a its.toArray from p), fun b hb => ?_⟩
    have e : b = a := by simpa [Sk.ads] using hb
    subst e
    obtain ⟨o, e, _⟩ := (show s.heap.IsTuple b its.toArray from p)
    exact Heap.lt_size e
  | str x =>
    obtain ⟨t, e⟩ := (show ∃ t, v = Value.str x t from r)
    cases e
    exact ⟨t, _, begins_text x t, trivial, fun b hb => by cases hb⟩
theorem sk_inj (I : Inv X pins σ H s) {sk : Sk} {vs us : List V} (h : sk.At X.K H vs) (h' : sk.At X.K H us) : vs = us := by
  cases sk with
  | lst a => exact I.list_inj h h'
  | tup a => exact I.tuple_inj h h'
  | str x => exact h.trans h'.symm
theorem sk_draws (I : Inv X pins σ H s) {A : Around} (hh : A.handled = none) {sk : Sk} {vs : List V} (h : sk.At X.K H vs) {u : Tok} {it : Addr} {i : Nat} (hn : ∀ b ∈ sk.ads, b ≠ it) (st : So u sk it i s.heap) :
    ∃ (fp : List Addr) (P : Nat → Value → Prop) (St : Nat → Heap → Prop), Draws X.prog X.w A it fp vs.length P St ∧ St i s.heap ∧ fp = it :: sk.ads ∧ (∀ j h, St j h → So u sk it j h) ∧ ∀ v x, P i v → vs[i]? = some x → RelV x v := by
  cases sk with
  | lst a =>
    obtain ⟨its, rv, p, _⟩ := I.list h
    have hl := rv.length
    refine ⟨[it, a], (fun i v => its.toArray[i]? = some v), (fun i h => h.IsListIter it a i ∧ h.IsList a its.toArray), ?_, ⟨st, p.isList⟩, rfl, fun j h q => q.1, fun v x pv hx => ?_⟩
    · have D := Draws.list (prog := X.prog) (w := X.w) hh it a (hn a (by simp [Sk.ads])) its.toArray
      rw [show its.toArray.size = vs.length from by simp [hl]] at D
      exact D
    · obtain ⟨u', hu, ru⟩ := rv.get hx
      have e : its.toArray[i]? = some v := pv
      have e : its[i]? = some v := by simpa using e
      rw [hu] at e
      cases e
      exact ru
  | tup a =>
    obtain ⟨its, rv, p, _⟩ := I.tuple h
    have hl := rv.length
    refine ⟨[it, a], (fun i v => its.toArray[i]? = some v), (fun i h => h.IsTupleIter it a i ∧ h.IsTuple a its.toArray), ?_, ⟨st, (show s.heap.IsTuple a its.toArray from p)⟩, rfl, fun j h q => q.1, fun v x pv hx => ?_⟩
    · have D := Draws.tuple (prog := X.prog) (w := X.w) hh it a (hn a (by simp [Sk.ads])) its.toArray
      rw [show its.toArray.size = vs.length from by simp [hl]] at D
      exact D
    · obtain ⟨u', hu, ru⟩ := rv.get hx
      have e : its.toArray[i]? = some v := pv
      have e : its[i]? = some v := by simpa using e
      rw [hu] at e
      cases e
      exact ru
  | str x =>
    have h : vs = x.cps.toList.map fun c => V.str ⟨#[c]⟩ := h
    subst h
    refine ⟨[it], (fun i v => ∃ c u, x.cps[i]? = some c ∧ v = .str ⟨#[c]⟩ u), (fun i h => h.IsStrIter it (strIterType x) x u i), ?_, st, rfl, fun j h q => q, fun v y pv hx => ?_⟩
    · have D := Draws.text (prog := X.prog) (w := X.w) hh it x u
      rw [show x.cps.size = (x.cps.toList.map fun c => V.str ⟨#[c]⟩).length from by simp] at D
      exact D
    · obtain ⟨c, t, hc, rfl⟩ := pv
      rw [List.getElem?_map] at hx
      obtain ⟨c', e', rfl⟩ := opt_map_some hx
      have hc : x.cps.toList[i]? = some c := by simpa using hc
      rw [hc] at e'
      cases e'
      exact ⟨t, rfl⟩
end
/-! ### zip -/
def ItzG (K : PySem.W.Frag) (k1 k2 : Sk) (n1 n2 : Nat) : It :=
  ⟨fun i H => ∃ (vs us : List V) (x y : V), k1.At K H vs ∧ k2.At K H us ∧ vs.length = n1 ∧ us.length = n2 ∧ vs[i]? = some x ∧ us[i]? = some y,
    fun i H v H' => ∃ T x y, v = .ref T ∧ H T = none ∧ H' = upd H T (.tup [x, y]) ∧ (∀ vs, k1.At K H vs → vs[i]? = some x) ∧ ∀ us, k2.At K H us → us[i]? = some y,
    fun i H => ∃ (vs us : List V), k1.At K H vs ∧ k2.At K H us ∧ vs.length = n1 ∧ us.length = n2 ∧ (n1 ≤ i ∨ n2 ≤ i)⟩
theorem turn_zipG {P : Program} {w : World} {K : PySem.W.Frag} {elts : List Expr} {kk : Nat} {tpos : Pos} {z TI TO i1 i2 : Addr} {k1 k2 : Sk} {n1 n2 : Nat} {u1 u2 : Tok} (D : ZipSep2 z TI TO i1 i2 (i1 :: k1.ads) (i2 :: k2.ads)) (hd1 : ∀ b ∈ k1.ads, b ≠ i1) (hd2 : ∀ b ∈ k2.ads, b ≠ i2) :
    Turn P w K (.Tuple elts kk tpos) (ItzG K k1 k2 n1 n2) [z, TI, TO, i1, i2] z (fun i h => IsZip h z TI TO .none ∧ IsTupOf2 h TI (.ref i1) (.ref i2) ∧ (∃ x y, IsTupOf2 h TO x y) ∧ So u1 k1 i1 i h ∧ So u2 k2 i2 i h ∧ i ≤ n1 ∧ i ≤ n2) where
  mem := by simp
  obj := fun i h st c hc => by
    obtain ⟨hz, hTI, ⟨x, y, hTO⟩, s1, s2, _⟩ := st
    have e' : c = z ∨ c = TI ∨ c = TO ∨ c = i1 ∨ c = i2 := by simpa using hc
    rcases e' with q | q | q | q | q
    · rw [q]; exact ⟨_, hz, fun v q => nomatch q⟩
    · rw [q]; exact ⟨_, hTI, fun v q => nomatch q⟩
    · rw [q]; exact ⟨_, hTO, fun v q => nomatch q⟩
    · rw [q]; exact s1.obj
    · rw [q]; exact s2.obj
  keep := fun i h h' st k => by
    obtain ⟨hz, hTI, ⟨x, y, hTO⟩, h1, h2, l⟩ := st
    exact ⟨k z (by simp) _ hz, k TI (by simp) _ hTI, ⟨x, y, k TO (by simp) _ hTO⟩, h1.keep fun o q => k i1 (by simp) o q, h2.keep fun o q => k i2 (by simp) o q, l⟩
  item := by
    intro X hP hw hK hc i pins s σ H E I hf st hg
    subst hP hw hK
    obtain ⟨hz, hTI, ⟨x0, y0, hTO⟩, h1, h2, l1, l2⟩ := st
    obtain ⟨vs, us, x, y, a1, a2, e1, e2, hx, hy⟩ := hg
    have hh : X.A.in1.handled = none := I.ok.hd hc
    obtain ⟨fp1, P1, St1, D1, st1, rfl, so1, r1⟩ := sk_draws I hh a1 hd1 h1
    obtain ⟨fp2, P2, St2, D2, st2, rfl, so2, r2⟩ := sk_draws I hh a2 hd2 h2
    have hi1 : i < vs.length := (List.getElem?_eq_some_iff.mp hx).1
    have hi2 : i < us.length := (List.getElem?_eq_some_iff.mp hy).1
    have hzl : z < s.heap.objs.size := Heap.lt_size hz
    refine wpAny_pyNext_zipD2_item D D1 D2 hz hTI hTO st1 st2 hi1 hi2 fun x1 x2 h' tk p1 p2 z' TO' h1' h2' hT hsz hk => ?_
    refine ⟨_, rfl, wpAny_letOwnedTupleGo_zip (s := { s with heap := h', toks := tk }) z' fun h'' z'' sb => ?_⟩
    have hT2 : h''.get? s.heap.objs.size = some { cls := .type "tuple", data := .seq #[x1, x2] } := (sb.2 _ (Nat.ne_of_gt hzl)).trans hT
    have new : ObjOk X.prog X.w (upd H s.heap.objs.size (.tup [x, y])) h'' s.heap.objs.size (.tup [x, y]) :=
      ⟨by show 2 ≤ sizeLine; decide, [x1, x2], .cons (r1 _ _ p1 hx) (.cons (r2 _ _ p2 hy) .nil), ⟨_, hT2, rfl, _, rfl⟩⟩
    have I1 : Inv X pins σ (upd H s.heap.objs.size (.tup [x, y])) { s with heap := h'', toks := tk } :=
      I.turnedNew (t' := tk) (ch := [z, TI, TO, i1, i2]) (fun c o hb q => (sb.2 c (fun q' => hb (by simp [q']))).trans (hk c o (fun q' => hb (by simp [q'])) (fun q' => hb (by simp [q'])) (fun q' => hb (by simp [q'])) (fun q' => hb (by simp [q'])) q)) hf (Nat.le_refl _) new
    refine ⟨.ref s.heap.objs.size, _, I1, rfl, ⟨_, x, y, rfl, I.hok.fresh (Nat.le_refl _), rfl, fun l hl => by rw [sk_inj I hl a1]; exact hx, fun l hl => by rw [sk_inj I hl a2]; exact hy⟩, ⟨z'', ?_, ⟨x1, x2, ?_⟩, ?_, ?_, by omega, by omega⟩, fun c hcm => ?_⟩
    · exact (sb.2 _ D.TIz).trans (hk _ _ D.TIz D.TITO D.TIi1 D.TIi2 hTI)
    · exact (sb.2 _ D.TOz).trans TO'
    · exact (so1 _ _ h1').keep fun o q => (sb.2 _ (Ne.symm D.zi1)).trans q
    · exact (so2 _ _ h2').keep fun o q => (sb.2 _ (Ne.symm D.zi2)).trans q
    · have hlt : c < s.heap.objs.size := by
        have e' : c = z ∨ c = TI ∨ c = TO ∨ c = i1 ∨ c = i2 := by simpa using hcm
        rcases e' with q | q | q | q | q
        · rw [q]; exact hzl
        · rw [q]; exact Heap.lt_size hTI
        · rw [q]; exact Heap.lt_size hTO
        · rw [q]; obtain ⟨o, e, _⟩ := h1.obj; exact Heap.lt_size e
        · rw [q]; obtain ⟨o, e, _⟩ := h2.obj; exact Heap.lt_size e
      rw [upd_ne (Nat.ne_of_lt hlt)]
      exact (hf c hcm).1
  done := by
    intro X hP hw hK hc i pins s σ H E I hf st hg
    subst hP hw hK
    obtain ⟨hz, hTI, ⟨x0, y0, hTO⟩, h1, h2, l1, l2⟩ := st
    obtain ⟨vs, us, a1, a2, e1, e2, he⟩ := hg
    have hh : X.A.in1.handled = none := I.ok.hd hc
    obtain ⟨fp1, P1, St1, D1, st1, rfl, so1, r1⟩ := sk_draws I hh a1 hd1 h1
    obtain ⟨fp2, P2, St2, D2, st2, rfl, so2, r2⟩ := sk_draws I hh a2 hd2 h2
    exact wpAny_pyNext_zipD2_end D D1 D2 hz hTI hTO st1 st2 (by omega) (by omega) (by omega) fun h' tk hk => ⟨rfl, I.turnedL (t' := tk) (ch := [z, TI, TO, i1, i2]) (fun c o hb q =>
      hk c o (fun q' => hb (by simp [q'])) (fun q' => hb (by simp [q'])) (fun q' => hb (by simp [q'])) (fun q' => hb (by simp [q'])) q) hf⟩
  self := fun A i s Q E st h => wpAny_pyIter_zip st.1 h
theorem not_in_new {N j i : Nat} {l : List Nat} (h : ∀ b ∈ l, b < N) (hj : j ≠ i) : N + j ∉ (N + i) :: l := fun hm => by
  rcases List.mem_cons.mp hm with q | q
  · omega
  · have := h _ q; omega
theorem ne_n {N i j : Nat} (h : i ≠ j) : N + i ≠ N + j := by omega
theorem sep_nat (N : Nat) (l1 l2 : List Nat) (h1 : ∀ b ∈ l1, b < N) (h2 : ∀ b ∈ l2, b < N) : ZipSep2 (N + 4) (N + 2) (N + 3) N (N + 1) (N :: l1) ((N + 1) :: l2) :=
  ⟨ne_n (by decide), ne_n (by decide), ne_n (by decide), ne_n (j := 0) (by decide), List.mem_cons_self .., not_in_new (i := 0) h1 (by decide), not_in_new (i := 0) h1 (by decide), ne_n (by decide), List.mem_cons_self .., not_in_new (i := 1) h2 (by decide), not_in_new (i := 1) h2 (by decide),
    not_in_new (j := 0) (i := 1) h2 (by decide), not_in_new (j := 1) (i := 0) h1 (by decide)⟩
theorem ge_five {N c : Nat} (h : c = N + 4 ∨ c = N + 2 ∨ c = N + 3 ∨ c = N ∨ c = N + 1) : N ≤ c := by omega
theorem ge_two {N c : Nat} (h : c = N + 1 ∨ c = N) : N ≤ c := by omega
def iZipG (K : PySem.W.Frag) (ta : TA) : TI := fun σ H R => ta σ H fun vs H1 => ∃ (k1 k2 : Sk) (xs ys : List V), vs = [k1.val, k2.val] ∧ k1.At K H1 xs ∧ k2.At K H1 ys ∧ R (ItzG K k1 k2 xs.length ys.length) H1
theorem pi_zipG {X : Cx} {e e2 : Expr} {ta : TA} {p pos tpos : Pos} {elts : List Expr} {kk : Nat} (hg : Gl X "zip") (hm : X.mg "zip" = none) (ha : PA X [e, e2] ta)
    (hs : starEach [e, e2] X.env = (false, eval e X.env) :: starEach [e2] X.env := by rfl) (hpl : (backTo pos (starEach [e2] X.env)).any (·.1) = false := by rfl) :
    PI X (.Tuple elts kk tpos) (.Call (.Name "zip" p) [e, e2] [] pos) (iZipG X.K ta) := by
  refine ⟨fun pins s σ H R I h => ?_⟩
  refine Call_ (ld_blt I hg hm PyProof.Rows.boot_zip (PyProof.Rows.callWith_type1 (thn (ha.run pos pins s σ H _ I h) fun us s1 ⟨vs, H1, I1, r1, q1⟩ => ?_) hs hpl))
  obtain ⟨k1, k2, xs, ys, ex, a1, a2, q⟩ := q1
  subst ex
  obtain ⟨v1, v2, rfl, rv1, rv2⟩ := vals2 r1
  obtain ⟨u1, P1, B1, p1, b1⟩ := sk_begins I1 a1 rv1
  obtain ⟨u2, P2, B2, p2, b2⟩ := sk_begins I1 a2 rv2
  refine zip_begins2 B1 B2 p1 p2 fun h' hz hTI hTO h1 h2 hsz hk => wpAny_pyIter_zip hz ?_
  have I2 : Inv X pins σ H1 { s1 with heap := h' } := I1.kept (t' := s1.toks) hk
  have D := sep_nat s1.heap.objs.size k1.ads k2.ads b1 b2
  refine ⟨s1.heap.objs.size + 4, [s1.heap.objs.size + 4, s1.heap.objs.size + 2, s1.heap.objs.size + 3, s1.heap.objs.size, s1.heap.objs.size + 1], _, _, H1, rfl, I2,
    turn_zipG (u1 := u1) (u2 := u2) D (fun b hb => Nat.ne_of_lt (b1 b hb)) (fun b hb => Nat.ne_of_lt (Nat.lt_succ_of_lt (b2 b hb))), ⟨hz, hTI, ⟨_, _, hTO⟩, So.first h1, So.first h2, Nat.zero_le _, Nat.zero_le _⟩, fun c hcm => ?_, q⟩
  have hle : s1.heap.objs.size ≤ c := by
    have e' : c = s1.heap.objs.size + 4 ∨ c = s1.heap.objs.size + 2 ∨ c = s1.heap.objs.size + 3 ∨ c = s1.heap.objs.size ∨ c = s1.heap.objs.size + 1 := by simpa using hcm
    exact ge_five e'
  exact I1.fpOk hle (I1.hok.fresh hle)
/-! ### enumerate -/
theorem meets_enum1 {v : Value} {o : Obj} {H : Heap → Prop} (B : Begins v o H) :
    Meets (Builtin.«enumerate.__new__» ⟨[.type "enumerate", v], []⟩) (fun _ R s => H s.heap ∧
      R (.ok (.ret (.ref (s.heap.push o).objs.size))) { s with heap := (s.heap.push o).push { cls := .type "enumerate", data := .fields #[.none, .bool false, .ref s.heap.objs.size, rawInt 0, .none, .none] } }) :=
  .of_wp fun prog w A R s h => by
    obtain ⟨hp, g, d, tk, os⟩ := s; obtain ⟨h1, h⟩ := h
    have hsub := sub_enumerate
    have q1 : ∀ {A' : Around} {E : Value → Shared → Prop} {Q : Value → Shared → Prop}, Q (.ref hp.objs.size) ⟨hp.push o, g, d, tk, os⟩ → wpAny (model prog w) A' (pyIter v) Q E ⟨hp, g, d, tk, os⟩ :=
      fun q => B.iter prog w _ _ ⟨hp, g, d, tk, os⟩ _ h1 q
    wp_walk using q1
    refine wpAny_stack_any fun st => wpAny_pure ?_
    split
    · rename_i c _ _ _ _ _
      cases (c == Value.type "enumerate")
      · wp_walk using q1
        exact ⟨_, rfl, h⟩
      · wp_walk using q1
        exact ⟨_, rfl, h⟩
    · wp_walk using q1
      exact ⟨_, rfl, h⟩
theorem enum_begins1 {prog : Program} {w : World} {A : Around} {E : Value → Shared → Prop} {s : Shared} {v : Value} {o : Obj} {H : Heap → Prop} {Q : Value → Shared → Prop} (B : Begins v o H) (h1 : H s.heap)
    (h : ∀ h', IsEnum h' (s.heap.objs.size + 1) s.heap.objs.size 0 .none → h'.get? s.heap.objs.size = some o → h'.objs.size = s.heap.objs.size + 2 →
      (∀ b o, s.heap.get? b = some o → h'.get? b = some o) → Q (.ref (s.heap.objs.size + 1)) { s with heap := h' }) :
    wpAny (model prog w) A (call (.type "enumerate") [v]) Q E s := by
  refine callType_new F.called_enumerate (by decide) (F.typeCall_enumerate_1 _) (F.newCall_enumerate_1 _) (fun obj => F.args_object_init_2 obj _) F.entry_enumerate_new (meets_enum1 B) ⟨h1, ?_⟩
  have hz : (s.heap.push o).objs.size = s.heap.objs.size + 1 := Heap.size_push ..
  show _ ∧ _
  rw [hz]
  have he : IsEnum ((s.heap.push o).push { cls := .type "enumerate", data := .fields #[.none, .bool false, .ref s.heap.objs.size, rawInt 0, .none, .none] }) (s.heap.objs.size + 1) s.heap.objs.size 0 .none := by
    have := Heap.get?_push_size (s.heap.push o) (o := { cls := .type "enumerate", data := .fields #[.none, .bool false, .ref s.heap.objs.size, rawInt 0, .none, .none] }) rfl
    rw [hz] at this; exact this
  exact ⟨⟨_, he, rfl⟩, h _ he (Heap.get?_push_of_some _ (Heap.get?_push_size _ B.free)) (by rw [Heap.size_push, hz]) fun b o x => Heap.get?_push_of_some _ (Heap.get?_push_of_some _ x)⟩
def IteG (K : PySem.W.Frag) (k : Sk) (n : Nat) : It :=
  ⟨fun i H => ∃ (vs : List V) (x : V), k.At K H vs ∧ vs.length = n ∧ vs[i]? = some x,
    fun i H v H' => ∃ T x, v = .ref T ∧ H T = none ∧ H' = upd H T (.tup [.int (i : Nat), x]) ∧ ∀ vs, k.At K H vs → vs[i]? = some x,
    fun i H => ∃ vs : List V, k.At K H vs ∧ vs.length = n ∧ n ≤ i⟩
theorem turn_enumG {P : Program} {w : World} {K : PySem.W.Frag} {elts : List Expr} {kk : Nat} {tpos : Pos} {e it : Addr} {k : Sk} {n : Nat} {u : Tok} (hne : e ≠ it) (hd : ∀ b ∈ k.ads, b ≠ it) (hd' : ∀ b ∈ k.ads, b ≠ e) :
    Turn P w K (.Tuple elts kk tpos) (IteG K k n) [e, it] e (fun i h => (∃ old, IsEnum h e it ((i : Nat) : Int) old) ∧ So u k it i h ∧ i ≤ n) where
  mem := by simp
  obj := fun i h st b hb => by
    obtain ⟨⟨old, he⟩, hs, _⟩ := st
    have e' : b = e ∨ b = it := by simpa using hb
    rcases e' with z | z
    · rw [z]; exact ⟨_, he, fun v q => nomatch q⟩
    · rw [z]; exact hs.obj
  keep := fun i h h' st k => let ⟨⟨old, he⟩, hi, hl⟩ := st; ⟨⟨old, k e (by simp) _ he⟩, hi.keep fun o q => k it (by simp) o q, hl⟩
  item := by
    intro X hP hw hK hc i pins s σ H E I hf st hg
    subst hP hw hK
    obtain ⟨⟨old, he⟩, h1, l1⟩ := st
    obtain ⟨vs, x, a1, e1, hx⟩ := hg
    have hh : X.A.in1.handled = none := I.ok.hd hc
    obtain ⟨fp1, P1, St1, D1, st1, rfl, so1, r1⟩ := sk_draws I hh a1 hd h1
    have hi1 : i < vs.length := (List.getElem?_eq_some_iff.mp hx).1
    have hel : e < s.heap.objs.size := Heap.lt_size he
    have hil : it < s.heap.objs.size := by obtain ⟨o, q, _⟩ := h1.obj; exact Heap.lt_size q
    have hef : e ∉ it :: k.ads := fun hm => by
      rcases List.mem_cons.mp hm with q | q
      · exact hne q
      · exact hd' e q rfl
    refine wpAny_pyNext_enum_itemC D1 he st1 hi1 hne hef fun x1 h' tk p1 ho hit' hT hsz hk => ?_
    refine ⟨_, rfl, wpAny_letOwnedTupleGo_enum (s := { s with heap := h', toks := tk + 1 }) ho fun h'' he' sb => ?_⟩
    have hT2 : h''.get? s.heap.objs.size = some { cls := .type "tuple", data := .seq #[.int i tk, x1] } := (sb.2 _ (Nat.ne_of_gt hel)).trans hT
    have new : ObjOk X.prog X.w (upd H s.heap.objs.size (.tup [.int (i : Nat), x])) h'' s.heap.objs.size (.tup [.int (i : Nat), x]) :=
      ⟨by show 2 ≤ sizeLine; decide, [.int i tk, x1], .cons ⟨_, rfl⟩ (.cons (r1 _ _ p1 hx) .nil), ⟨_, hT2, rfl, _, rfl⟩⟩
    have I1 : Inv X pins σ (upd H s.heap.objs.size (.tup [.int (i : Nat), x])) { s with heap := h'', toks := tk + 1 } :=
      I.turnedNew (ch := [e, it]) (fun b ob hb q => (sb.2 b (fun z => hb (by simp [z]))).trans (hk b ob (fun z => hb (by simp [z])) (fun z => hb (by simp [z])) q)) hf (Nat.le_refl _) new
    refine ⟨.ref s.heap.objs.size, _, I1, rfl, ⟨_, x, rfl, I.hok.fresh (Nat.le_refl _), rfl, fun ys hy => by rw [sk_inj I hy a1]; exact hx⟩, ⟨⟨x1, ?_⟩, (so1 _ _ hit').keep fun o q => (sb.2 it (Ne.symm hne)).trans q, by omega⟩, fun b hb => ?_⟩
    · have e1 : ((i + 1 : Nat) : Int) = (i : Int) + 1 := by omega
      rw [e1]; exact he'
    · have hb' : b < s.heap.objs.size := by
        have e' : b = e ∨ b = it := by simpa using hb
        rcases e' with z | z
        · rw [z]; exact hel
        · rw [z]; exact hil
      rw [upd_ne (Nat.ne_of_lt hb')]
      exact (hf b hb).1
  done := by
    intro X hP hw hK hc i pins s σ H E I hf st hg
    subst hP hw hK
    obtain ⟨⟨old, he⟩, h1, l1⟩ := st
    obtain ⟨vs, a1, e1, hx⟩ := hg
    have hh : X.A.in1.handled = none := I.ok.hd hc
    obtain ⟨fp1, P1, St1, D1, st1, rfl, so1, r1⟩ := sk_draws I hh a1 hd h1
    have e2 : i = vs.length := by omega
    rw [e2] at st1
    exact wpAny_pyNext_enum_endD D1 he st1 fun h' eb => ⟨rfl, I.turnedL (t' := s.toks) (ch := [e, it]) (fun b o hb q => eb b o (fun z => hb (by simp [z])) q) hf⟩
  self := fun A i s Q E st h => let ⟨⟨_, he⟩, _⟩ := st; wpAny_pyIter_enum he h
def iEnumG (K : PySem.W.Frag) (ta : TA) : TI := fun σ H R => ta σ H fun vs H1 => ∃ (k : Sk) (xs : List V), vs = [k.val] ∧ k.At K H1 xs ∧ R (IteG K k xs.length) H1
theorem pi_enumG {X : Cx} {e : Expr} {ta : TA} {p pos tpos : Pos} {elts : List Expr} {kk : Nat} (hg : Gl X "enumerate") (hm : X.mg "enumerate" = none) (ha : PA X [e] ta) (hs : starEach [e] X.env = [(false, eval e X.env)] := by rfl) :
    PI X (.Tuple elts kk tpos) (.Call (.Name "enumerate" p) [e] [] pos) (iEnumG X.K ta) := by
  refine ⟨fun pins s σ H R I h => ?_⟩
  refine Call_ (ld_blt I hg hm boot_enumerate (PyProof.Rows.callWith_type1 (thn (ha.run pos pins s σ H _ I h) fun us s1 ⟨vs, H1, I1, r1, q1⟩ => ?_) hs rfl))
  obtain ⟨k, xs, ex, a1, q⟩ := q1
  subst ex
  obtain ⟨v1, rfl, rv1⟩ := r1.one
  obtain ⟨u1, P1, B1, p1, b1⟩ := sk_begins I1 a1 rv1
  refine enum_begins1 B1 p1 fun h' he h1 hsz hk => wpAny_pyIter_enum he ?_
  have I2 : Inv X pins σ H1 { s1 with heap := h' } := I1.kept (t' := s1.toks) hk
  refine ⟨s1.heap.objs.size + 1, [s1.heap.objs.size + 1, s1.heap.objs.size], _, _, H1, rfl, I2, turn_enumG (u := u1) (Nat.succ_ne_self _) (fun b hb => Nat.ne_of_lt (b1 b hb)) (fun b hb => Nat.ne_of_lt (Nat.lt_succ_of_lt (b1 b hb))), ⟨⟨.none, he⟩, So.first h1, Nat.zero_le _⟩, fun b hb => ?_, q⟩
  have hle : s1.heap.objs.size ≤ b := by
    have e' : b = s1.heap.objs.size + 1 ∨ b = s1.heap.objs.size := by simpa using hb
    exact ge_two e'
  exact I1.fpOk hle (I1.hok.fresh hle)
end VS

set_option Elab.async false
set_option linter.all false
set_option maxRecDepth 100000
set_option maxHeartbeats 4000000
set_option autoImplicit false
/-! VQ: sorted(set(..)) of ints, what enumerate and zip walk, and other words. -/
namespace VS
section
open PySem PySem.Spec PyProof.Rows L2
variable {P : Program} {w : World} {A : Around} {E : Value → Shared → Prop} {s : Shared}
theorem set_lstI {l : Addr} {items : Array Value} (ns : List Int) {Q : Value → Shared → Prop} (hh : A.handled = none) (hl : s.heap.IsList l items) (hit : IntsAre items.toList ns) (hb : ns.length + 1 < scanBound)
    (h : ∀ (h' : Heap) (tk c : Nat), SetR w h' s.heap.objs.size (fun j => decide (j ∈ ns)) c → c ≤ ns.length → (∀ b o, s.heap.get? b = some o → h'.get? b = some o) → Q (.ref s.heap.objs.size) { s with heap := h', toks := tk }) :
    wpAny (model P w) A (call (.type "set") [.ref l]) Q E s := by
  have hisz : items.size = ns.length := by
    have q := IntsAre.length hit
    rw [Array.length_toList] at q
    exact q
  obtain ⟨c, tl, hmro⟩ := F.called_set.mro
  have hmade := F.called_set.made
  have hsub := F.called_set.sub
  refine wpAny_call (codeAny_of_tree ?_)
  show wpAny _ _ (callAny (.type "set") _) _ _ _
  refine wpAny_pure ⟨Code.quiet_builtin _ (by decide +kernel), codeAny_builtin F.entry_type_call ?_⟩
  rw [Around.under_plain (weight_type_call_type "set" [.ref l] []) rfl]
  have h1 := F.called_set.notType
  have h2 := F.called_set.canCreate
  have hct := F.typeCall_set_1 (.ref l)
  repeat (any_goals (first | assumption | wp_step))

  refine codeAny_mono (code_set_led1 (.ref l) (E := E) (Q₁ := fun obj s₁ => obj = .ref s.heap.objs.size ∧ s₁ = { s with heap := s.heap.push { cls := .type "set", dict := none, data := .set #[] 0 (.fresh 0 0 (!w.params.followText "set-order")) } }) ⟨rfl, rfl⟩) fun r s₁ hr => ?_
  cases r with
  | error e => exact hr
  | ok fl =>
    cases fl with
    | ret obj =>
      obtain ⟨rfl, rfl⟩ := hr
      have hS : (s.heap.push { cls := .type "set", dict := none, data := .set #[] 0 (.fresh 0 0 (!w.params.followText "set-order")) }).get? s.heap.objs.size = some { cls := .type "set", dict := none, data := .set #[] 0 (.fresh 0 0 (!w.params.followText "set-order")) } := Heap.get?_push_size _ rfl
      have hT : Shared.TypeIs { s with heap := s.heap.push { cls := .type "set", dict := none, data := .set #[] 0 (.fresh 0 0 (!w.params.followText "set-order")) } } (.ref s.heap.objs.size) "set" := ⟨_, hS, rfl⟩
      have hli := F.called_set.init.lookup
      have hbi := F.called_set.init.bind (.ref s.heap.objs.size)
      repeat (any_goals (first | assumption | wp_step))

      refine codeAny_mono (codeAny_call_builtin (R := wants (fun r s₂ => r = .none ∧ ∃ h' tk c, s₂ = { s with heap := h', toks := tk } ∧ SetR w h' s.heap.objs.size (fun j => decide (j ∈ ns)) c ∧ c ≤ ns.length ∧
          (∀ b o, s.heap.get? b = some o → h'.get? b = some o)) E) F.called_set.init.plain F.entry_set_init (check_set_init_1 hT ?_)) fun r₂ s₂ hr₂ => ?_
      · obtain ⟨ol, hol, hcl, nl, hdl⟩ := hl
        obtain ⟨ocls, odict, odata, oslots⟩ := ol
        simp only at hcl hdl
        subst hcl; subst hdl
        have hol' : (s.heap.push { cls := .type "set", dict := none, data := .set #[] 0 (.fresh 0 0 (!w.params.followText "set-order")) }).get? l = some { cls := .type "list", dict := odict, data := .seq items nl, slots := oslots } := Heap.get?_push_of_some _ hol
        have hsls := F.sub_list_set
        have hslf := F.sub_list_frozenset
        have hne : (Value.type "list" == Value.type "dict") = false := by decide
        have hl1 : (s.heap.push { cls := .type "set", dict := none, data := .set #[] 0 (.fresh 0 0 (!w.params.followText "set-order")) }).IsList l items := ⟨_, hol', rfl, nl, rfl⟩
        unfold Builtin.«set.__init__» noKeywords Builtin.Frozenset.updateFrom
        generalize hPI : pyIter = PI
        wp_walk
        subst hPI

        refine wpAny_pyIter_list hl1 ?_
        refine wpAny_bind (wpAny_runValue ?_)
        have hlS : l < s.heap.objs.size := Heap.lt_size hol
        have hh3 : A.in1.in1.in1.handled = none := by simp [hh]
        have hz1 : (s.heap.push { cls := .type "set", dict := none, data := .set #[] 0 (.fresh 0 0 (!w.params.followText "set-order")) }).objs.size = s.heap.objs.size + 1 := Heap.size_push ..
        have hneI : l ≠ (s.heap.push { cls := .type "set", dict := none, data := .set #[] 0 (.fresh 0 0 (!w.params.followText "set-order")) }).objs.size := by
          rw [Heap.size_push]; exact Nat.ne_of_lt (Nat.lt_succ_of_lt hlS)
        have hSf : s.heap.objs.size ∉ [(s.heap.push { cls := .type "set", dict := none, data := .set #[] 0 (.fresh 0 0 (!w.params.followText "set-order")) }).objs.size, l] := by
          rw [Heap.size_push]; simp only [List.mem_cons, List.mem_singleton, List.not_mem_nil, or_false, not_or]
          exact ⟨Nat.ne_of_lt (Nat.lt_succ_self _), Nat.ne_of_gt hlS⟩
        have hval : ∀ (i : Nat) (v : Value), items[i]? = some v → ∃ k t, ns[i]? = some k ∧ v = .int k t := fun i v hv => by
          have hi : i < ns.length := by rw [← hisz]; exact (Array.getElem?_eq_some_iff.mp hv).1
          obtain ⟨t, e⟩ := PyProof.Rows.IntsAre.int_at hit i v (by rw [Array.getElem?_toList]; exact hv)
          refine ⟨ns[i], t, List.getElem?_eq_getElem hi, ?_⟩
          rw [e, List.getD_eq_getElem?_getD, List.getElem?_eq_getElem hi] <;> rfl
        refine set_update_ints ((Walks.list hh3 _ l hneI items).toS) s.heap.objs.size
          hSf ns hisz hb hval (items.size - 0) 0 _ (by omega) (Nat.zero_le _)
          ⟨⟨_, Heap.get?_push_size _ rfl, rfl, rfl⟩, (hl1.push _)⟩ ?hS0 ?hR
        case hS0 =>
          have hget : ((s.heap.push { cls := .type "set", dict := none, data := .set #[] 0 (.fresh 0 0 (!w.params.followText "set-order")) }).push { cls := .type "list_iterator", data := .fields #[.ref l, .int 0 0] }).get? s.heap.objs.size
              = some { cls := .type "set", dict := none, data := .set #[] 0 (.fresh 0 0 (!w.params.followText "set-order")) } := Heap.get?_push_of_some _ hS
          exact ⟨0, Nat.le_refl 0, setR_new_at hget⟩
        case hR =>
          intro s' c' hm hc' hS'
          obtain ⟨h', g2, d', tk', os'⟩ := s'
          have eg : g2 = s.gens := hm.gens
          have ed : d' = s.drawn := hm.drawn
          have eo : os' = s.os := hm.os
          subst eg; subst ed; subst eo
          show wpAny _ _ _ _ _ _
          refine wpAny_pure ?_
          show wpAny _ _ (ret Value.none) _ _ _
          rw [hisz] at hc'
          refine wpAny_pure ⟨rfl, h', tk', c', rfl, hS', hc', fun b o e => ?_⟩
          have hb0 : b < s.heap.objs.size := Heap.lt_size e
          have hb1 : b ≠ s.heap.objs.size := Nat.ne_of_lt hb0
          have hb2 : b ≠ (s.heap.push { cls := .type "set", dict := none, data := .set #[] 0 (.fresh 0 0 (!w.params.followText "set-order")) }).objs.size := by
            rw [Heap.size_push]; exact Nat.ne_of_lt (Nat.lt_succ_of_lt hb0)
          exact hm.heap b o (by simp only [List.mem_cons, List.mem_singleton, List.not_mem_nil, or_false, not_or]; exact ⟨hb1, hb2⟩) (Heap.get?_push_of_some _ (Heap.get?_push_of_some _ e))

      · cases r₂ with
        | error e => exact hr₂
        | ok fl₂ =>
          cases fl₂ with
          | ret r =>
            obtain ⟨rfl, h', tk, c', rfl, hS', hc', hk'⟩ := hr₂
            repeat (any_goals (first | assumption | wp_step))
            exact h _ _ _ hS' hc' hk'
          | _ => exact hr₂.elim
    | _ => exact hr.elim

end
end VS

set_option Elab.async false
set_option linter.all false
set_option maxRecDepth 100000
set_option maxHeartbeats 4000000
set_option autoImplicit false
/-! VR: zip and enumerate over data, sorted(set(..)), stars, str.index, len(range(..)), constants of the module. -/
namespace VS
open PySem PySem.Spec PyProof.Rows L2
section
variable {X : Cx} {T : Tab} {E : XK} {a b c e o i value tg : Expr} {es : List Expr} {ta tb tc te to ti tv : TEv} {tr : TAv} {pos pos' apos cpos p p2 p3 : Pos}
/-! ### what zip and enumerate walk -/
def itemsD : F → Option (List F)
  | .lst xs => some xs
  | .tup xs => some xs
  | .str s => some (s.map fun c => .str [c])
  | _ => none
theorem rep_signs {K : PySem.W.Frag} {Z : Hp} : ∀ s : List Nat, RepFs K T Z ((S s).cps.toList.map fun c => V.str ⟨#[c]⟩) (s.map fun c => .str [c]) := by
  intro s
  show RepFs K T Z (s.toArray.toList.map fun c => V.str ⟨#[c]⟩) (s.map fun c => .str [c])
  rw [List.toList_toArray]
  induction s with
  | nil => exact .nil
  | cons c r ih => exact .cons (.str [c]) ih
theorem sk_of {K : PySem.W.Frag} {Z : Hp} {v : V} {x : F} {xs : List F} (r : RepF K T Z v x) (h : itemsD x = some xs) : ∃ k vs, v = Sk.val k ∧ (∀ H', Same Z H' → k.At K H' vs) ∧ RepFs K T Z vs xs := by
  cases r with
  | lst e r => cases h; exact ⟨.lst _, _, rfl, fun H' s => SqL.of (s _ _ e), r⟩
  | tup e r => cases h; exact ⟨.tup _, _, rfl, fun H' s => same_sqt s e, r⟩
  | str s => cases h; exact ⟨.str (S s), _, rfl, fun H' _ => rfl, rep_signs s⟩
  | _ => cases h
def zipW (ws : List W) (st : Store) : Res (List W) := match ws with
  | [.f x, .f y] => (match itemsD x, itemsD y with
    | some xs, some ys => .ok ((xs.zip ys).map fun q => W.f (.tup [q.1, q.2])) st
    | _, _ => .stuck)
  | _ => .stuck
def iZip (t : TAv) : TIv := fun env st => (t env st).bind zipW
theorem walks_zip {K : PySem.W.Frag} {Z : Hp} {ι : List Addr} {k1 k2 : Sk} {vs us : List V} {xs ys : List F} (a1 : ∀ H', Same Z H' → k1.At K H' vs) (a2 : ∀ H', Same Z H' → k2.At K H' us) (r1 : RepFs K T Z vs xs) (r2 : RepFs K T Z us ys) :
    Walks K T Z ι (ItzG K k1 k2 vs.length us.length) ((xs.zip ys).map fun q => W.f (.tup [q.1, q.2])) := by
  intro i Z' ι' H' st' l s
  have sh : Same Z H' := l.z.trans s.sub
  refine ⟨fun w h => ?_, fun h => ?_⟩
  · rw [List.getElem?_map] at h
    obtain ⟨⟨x, y⟩, hq, rfl⟩ := opt_map_some h
    obtain ⟨hx, hy⟩ := List.getElem?_zip_eq_some.mp hq
    obtain ⟨v, hv, rv⟩ := r1.get hx
    obtain ⟨u, hu, ru⟩ := r2.get hy
    refine ⟨⟨vs, us, v, u, a1 H' sh, a2 H' sh, rfl, rfl, hv, hu⟩, fun z H2 hz => ?_⟩
    obtain ⟨t, x', y', rfl, hn, rfl, h1, h2⟩ := hz
    have e1 := h1 vs (a1 H' sh)
    have e2 := h2 us (a2 H' sh)
    rw [hv] at e1; rw [hu] at e2
    cases e1; cases e2
    have hs := same_new (o := .tup [v, u]) (free_sub s.sub hn)
    exact ⟨_, Grow.laid s.sub hn, .f (.tup (SqT.of upd_same) (.cons ((rv.mono l.z).mono hs) (.cons ((ru.mono l.z).mono hs) .nil)))⟩
  · have hl := List.getElem?_eq_none_iff.mp h
    rw [List.length_map, List.length_zip] at hl
    exact ⟨vs, us, a1 H' sh, a2 H' sh, rfl, rfl, by rw [r1.length, r2.length]; omega⟩
theorem vi_zip {elts : List Expr} {kk : Nat} {e2 : Expr} {tpos : Pos} (hg : Gl X "zip") (hm : X.mg "zip" = none) (ha : VA X T E [e, e2] tr)
    (hs : starEach [e, e2] X.env = (false, eval e X.env) :: starEach [e2] X.env := by rfl) (hpl : (backTo pos (starEach [e2] X.env)).any (·.1) = false := by rfl) :
    VI X T E (.Tuple elts kk tpos) (.Call (.Name "zip" p) [e, e2] [] pos) (iZip tr) := pi_weak (pi_zipG hg hm ha hs hpl) fun σ H R h => by
  obtain ⟨Z, ι, env, st, s, re, p⟩ := h
  refine ⟨Z, ι, env, st, s, re, (Post.bind p).imp fun ws st1 H1 Z1 ι1 l1 s1 p1 vs rvs => ?_⟩
  cases rvs with
  | nil => exact p1.elim
  | cons rx rt =>
    cases rt with
    | nil => cases rx <;> exact p1.elim
    | cons ry rt =>
      cases rt with
      | cons _ _ => cases rx <;> cases ry <;> exact p1.elim
      | nil =>
        cases rx with
        | loc _ => exact p1.elim
        | f rx =>
          cases ry with
          | loc _ => exact p1.elim
          | f ry =>
            rename_i v u x y
            unfold zipW at p1
            cases q1 : itemsD x with
            | none => simp only [q1] at p1; exact p1.elim
            | some xs =>
              cases q2 : itemsD y with
              | none => simp only [q1, q2] at p1; exact p1.elim
              | some ys =>
                simp only [q1, q2] at p1
                obtain ⟨k1, vs1, rfl, a1, r1⟩ := sk_of rx q1
                obtain ⟨k2, vs2, rfl, a2, r2⟩ := sk_of ry q2
                exact ⟨k1, k2, vs1, vs2, rfl, a1 _ s1.sub, a2 _ s1.sub, p1 H1 Z1 ι1 Le.refl s1 _ (walks_zip a1 a2 r1 r2)⟩
def enumL : Nat → List F → List F
  | _, [] => []
  | n, x :: xs => .tup [.int (n : Int), x] :: enumL (n + 1) xs
theorem enumL_get : ∀ (xs : List F) (n i : Nat), (enumL n xs)[i]? = (xs[i]?).map fun x => .tup [.int ((n + i : Nat) : Int), x]
  | [], n, i => by simp [enumL]
  | x :: xs, n, 0 => by simp [enumL]
  | x :: xs, n, i + 1 => by
    simp only [enumL, List.getElem?_cons_succ]
    rw [enumL_get xs (n + 1) i, show n + 1 + i = n + (i + 1) from by omega]
def enumW (ws : List W) (st : Store) : Res (List W) := match ws with
  | [.f x] => (match itemsD x with
    | some xs => .ok ((enumL 0 xs).map W.f) st
    | _ => .stuck)
  | _ => .stuck
def iEnum (t : TAv) : TIv := fun env st => (t env st).bind enumW
theorem walks_enum {K : PySem.W.Frag} {Z : Hp} {ι : List Addr} {k1 : Sk} {vs : List V} {xs : List F} (a1 : ∀ H', Same Z H' → k1.At K H' vs) (r1 : RepFs K T Z vs xs) :
    Walks K T Z ι (IteG K k1 vs.length) ((enumL 0 xs).map W.f) := by
  intro i Z' ι' H' st' l s
  have sh : Same Z H' := l.z.trans s.sub
  refine ⟨fun w h => ?_, fun h => ?_⟩
  · rw [List.getElem?_map, enumL_get] at h
    obtain ⟨q, hq, rfl⟩ := opt_map_some h
    obtain ⟨x, hx, rfl⟩ := opt_map_some hq
    obtain ⟨v, hv, rv⟩ := r1.get hx
    refine ⟨⟨vs, v, a1 H' sh, rfl, hv⟩, fun z H2 hz => ?_⟩
    obtain ⟨t, x', rfl, hn, rfl, h1⟩ := hz
    have e1 := h1 vs (a1 H' sh)
    rw [hv] at e1
    cases e1
    have hs := same_new (o := .tup [.int (i : Nat), v]) (free_sub s.sub hn)
    refine ⟨_, Grow.laid s.sub hn, .f (.tup (SqT.of upd_same) (.cons ?_ (.cons ((rv.mono l.z).mono hs) .nil)))⟩
    rw [Nat.zero_add]
    exact .int _
  · have hl := List.getElem?_eq_none_iff.mp h
    have : xs.length ≤ i := by
      rw [List.length_map] at hl
      have h2 : (enumL 0 xs)[i]? = none := List.getElem?_eq_none_iff.mpr hl
      rw [enumL_get] at h2
      cases q : xs[i]? with
      | none => exact List.getElem?_eq_none_iff.mp q
      | some x => rw [q] at h2; cases h2
    exact ⟨vs, a1 H' sh, rfl, by rw [r1.length]; exact this⟩
theorem vi_enum {elts : List Expr} {kk : Nat} {tpos : Pos} (hg : Gl X "enumerate") (hm : X.mg "enumerate" = none) (ha : VA X T E [e] tr) (hs : starEach [e] X.env = [(false, eval e X.env)] := by rfl) :
    VI X T E (.Tuple elts kk tpos) (.Call (.Name "enumerate" p) [e] [] pos) (iEnum tr) := pi_weak (pi_enumG hg hm ha hs) fun σ H R h => by
  obtain ⟨Z, ι, env, st, s, re, p⟩ := h
  refine ⟨Z, ι, env, st, s, re, (Post.bind p).imp fun ws st1 H1 Z1 ι1 l1 s1 p1 vs rvs => ?_⟩
  cases rvs with
  | nil => exact p1.elim
  | cons rx rt =>
    cases rt with
    | cons _ _ => cases rx <;> exact p1.elim
    | nil =>
      cases rx with
      | loc _ => exact p1.elim
      | f rx =>
        rename_i v x
        unfold enumW at p1
        cases q1 : itemsD x with
        | none => simp only [q1] at p1; exact p1.elim
        | some xs =>
          simp only [q1] at p1
          obtain ⟨k1, vs1, rfl, a1, r1⟩ := sk_of rx q1
          exact ⟨k1, vs1, rfl, a1 _ s1.sub, p1 H1 Z1 ι1 Le.refl s1 _ (walks_enum a1 r1)⟩
/-! ### sorted(set(xs)) -/
def rSetI (K : PySem.W.Frag) (w : World) : List V → Hp → VK → Prop := fun xs H Q => ∃ (l : Addr) (ns : List Int), xs = [.ref l] ∧ SqL K H l (ns.map V.int) ∧ ns.length ≤ 1000 ∧ ∀ a c, H a = none → c ≤ ns.length → Q (.ref a) (upd H a (SetO w a (fun j => decide (j ∈ ns)) c))
theorem cr_setI (hc : X.calm = true) : CallR X (.type "set") (rSetI X.K X.w) := by
  intro pins s σ H xs us Q I r h
  obtain ⟨l, ns, rfl, hq, hl, q⟩ := h
  obtain ⟨v, rfl, rv⟩ := r.one
  cases (show v = Value.ref l from rv)
  obtain ⟨its, rs, pl, hz⟩ := I.list hq
  refine set_lstI ns (I.ok.hd hc) pl.isList (ints_of_vals rs) (by unfold scanBound; omega) fun h' tk c R hcn hk => ?_
  have hn : H s.heap.objs.size = none := I.hok.fresh (Nat.le_refl _)
  exact ⟨.ref s.heap.objs.size, _, I.laid (t' := tk) hk (Nat.le_refl _) (setO_new R), rfl, q _ c hn hcn⟩
def insS (x : Int) : List Int → List Int
  | [] => [x]
  | y :: r => if x < y then x :: y :: r else if x = y then y :: r else y :: insS x r
def ssI : List Int → List Int
  | [] => []
  | x :: r => insS x (ssI r)
theorem insS_mem (x : Int) : ∀ (l : List Int) (k : Int), k ∈ insS x l ↔ k = x ∨ k ∈ l
  | [], k => by simp [insS]
  | y :: r, k => by
    unfold insS
    split
    · simp
    · split
      · rename_i h; subst h; simp
      · simp only [List.mem_cons, insS_mem x r k]
        constructor
        · rintro (h | h | h)
          · exact .inr (.inl h)
          · exact .inl h
          · exact .inr (.inr h)
        · rintro (h | h | h)
          · exact .inr (.inl h)
          · exact .inl h
          · exact .inr (.inr h)
theorem insS_sorted (x : Int) : ∀ l : List Int, l.Pairwise (· < ·) → (insS x l).Pairwise (· < ·)
  | [], _ => by simp [insS]
  | y :: r, h => by
    obtain ⟨h1, h2⟩ := List.pairwise_cons.mp h
    unfold insS
    split
    · rename_i hlt
      refine List.pairwise_cons.mpr ⟨fun z hz => ?_, h⟩
      rcases List.mem_cons.mp hz with q | q
      · omega
      · have := h1 z q; omega
    · split
      · exact h
      · rename_i hn hne
        refine List.pairwise_cons.mpr ⟨fun z hz => ?_, insS_sorted x r h2⟩
        rcases (insS_mem x r z).mp hz with q | q
        · omega
        · exact h1 z q
theorem ssI_mem : ∀ (l : List Int) (k : Int), k ∈ ssI l ↔ k ∈ l
  | [], k => by simp [ssI]
  | x :: r, k => by simp [ssI, insS_mem, ssI_mem r k]
theorem ssI_sorted : ∀ l : List Int, (ssI l).Pairwise (· < ·)
  | [] => .nil
  | x :: r => insS_sorted x _ (ssI_sorted r)
theorem strict_unique {l m : List Int} (hl : l.Pairwise (· < ·)) (hm : m.Pairwise (· < ·)) (h : ∀ k, k ∈ l ↔ k ∈ m) : l = m := by
  have nl : l.Nodup := hl.imp fun h => by omega
  have nm : m.Nodup := hm.imp fun h => by omega
  have hp : l.Perm m := (List.perm_ext_iff_of_nodup nl nm).mpr h
  exact List.Perm.eq_of_pairwise (fun x y _ _ h h' => by omega) hl hm hp
def sortSetF : F → Option F
  | .lst xs => (match intsOf xs with
    | some ns => if ns.length < 64 then some (.lst ((ssI ns).map .int)) else none
    | none => none)
  | _ => none
def eSS (te : TEv) : TEv := fun env st => (te env st).bind fun w st1 => lk1 sortSetF w st1
theorem ve_sortset (hc : X.calm = true) (hg : Gl X "sorted") (hm : X.mg "sorted" = none) (hg2 : Gl X "set") (hm2 : X.mg "set" = none) (he : VE X T E e te)
    (hs : starEach [e] X.env = (false, eval e X.env) :: starEach [] X.env := by rfl)
    (hs2 : starEach [.Call (.Name "set" p2) [e] [] p3] X.env = (false, eval (.Call (.Name "set" p2) [e] [] p3) X.env) :: starEach [] X.env := by rfl) : VE X T E (.Call (.Name "sorted" p) [.Call (.Name "set" p2) [e] [] p3] [] pos) (eSS te) := by
  refine pe_weak (pe_callB (cr_sortedSet hc) hg hm (by decide +kernel) (pa_cons (pe_callTy (cr_setI hc) hg2 hm2 (by decide +kernel) (pa_cons he pa_nil hs) (by decide) (by decide) hs rfl) pa_nil hs2) (by decide) (by decide) hs2 rfl) fun σ H Q h => ?_
  obtain ⟨Z, ι, env, st, s, re, p⟩ := h
  refine ⟨Z, ι, env, st, s, re, (Post.bind p).imp fun w st1 H1 Z1 ι1 l1 s1 p1 v rv => ?_⟩
  obtain ⟨x, z, e1, e2, g⟩ := lk1_ok s1 p1
  have vx := rv.view s1 e1
  cases x with
  | lst xs =>
    have e2 : (match intsOf xs with
      | some ns => if ns.length < 64 then some (F.lst ((ssI ns).map .int)) else none
      | none => none) = some z := e2
    cases q : intsOf xs with
    | none => rw [q] at e2; cases e2
    | some ns =>
      rw [q] at e2
      have e2 : (if ns.length < 64 then some (F.lst ((ssI ns).map .int)) else none) = some z := e2
      by_cases h64 : ns.length < 64
      · rw [if_pos h64] at e2
        cases e2
        obtain ⟨a, rfl, hq⟩ := vx.ints s1.sub q
        refine ⟨a, ns, rfl, hq, by omega, fun b c hb hcn => ?_⟩
        refine ⟨b, _, c, rfl, upd_same, by omega, fun ks p hk hmem hlen hp => ?_⟩
        have ek : ks = ssI ns := strict_unique hk (ssI_sorted ns) fun k => by rw [hmem, ssI_mem]; simp
        subst ek
        have hpb : p ≠ b := fun e => by rw [e, upd_same] at hp; cases hp
        have hp1 : H1 p = none := by rw [upd_ne hpb] at hp; exact hp
        have g1 : Grow Z1 H1 Z1 (upd H1 b (SetO X.w b (fun j => decide (j ∈ ns)) c)) := ⟨Same.refl Z1, same_new hb, s1.sub.trans (same_new hb), fun _ _ _ => rfl⟩
        have g2 := g1.trans (Grow.laid (o := .lst ((ssI ns).map V.int)) g1.sub hp)
        exact g _ _ _ g2 (.lst upd_same (RepFs.ofInts (ssI ns)))
      · rw [if_neg h64] at e2; cases e2
  | _ => cases e2
/-! ### stars -/
def starL : F → Option (List F)
  | .tup xs => some xs
  | .lst xs => some xs
  | _ => none
def aStar (t : TEv) (r : TAv) : TAv := fun env st => (t env st).bind fun w st1 => match (look st1 w).bind starL with
  | some xs => (r env st1).bind fun ws st2 => .ok (xs.map W.f ++ ws) st2
  | none => .stuck
theorem va_star (he : VE X T E e te) (hr : VA X T E es tr) (hs : starEach (.Starred e p :: es) X.env = (true, eval e X.env) :: starEach es X.env := by rfl) : VA X T E (.Starred e p :: es) (aStar te tr) :=
  pa_weak (StX.pa_star he hr hs) fun σ H Q h => by
    obtain ⟨Z, ι, env, st, s, re, p⟩ := h
    refine ⟨Z, ι, env, st, s, re, (Post.bind p).imp fun w st1 H1 Z1 ι1 l1 s1 p1 v rv => ?_⟩
    cases q : look st1 w with
    | none => simp only [q] at p1; exact p1.elim
    | some x =>
      have vx := rv.view s1 q
      have fin : ∀ (a : Addr) (vs : List V) (xs : List F), starL x = some xs → v = .ref a → (SqT X.K H1 a vs ∨ SqL X.K H1 a vs) → RepFs X.K T Z1 vs xs → StX.tStar X.K (fun _ _ Q => Q v H1) (RdA X.K T E tr) σ H1 Q := by
        intro a vs xs q2 ev hq r
        simp only [q, Option.bind_some, q2] at p1
        refine ⟨a, vs, ev, hq, Z1, ι1, env, st1, s1, re.mono l1, (Post.bind p1).imp fun ws st2 H2 Z2 ι2 l2 s2 p2 us rus => ?_⟩
        exact p2 H2 Z2 ι2 Le.refl s2 _ ((RepWs.map_f (r.mono l2.z)).append rus)
      cases vx with
      | f r =>
        cases r with
        | tup e1 r1 => exact fin _ _ _ rfl rfl (.inl (same_sqt s1.sub e1)) r1
        | lst e1 r1 => exact fin _ _ _ rfl rfl (.inr (SqL.of (s1.sub _ _ e1))) r1
        | _ => simp only [q, Option.bind_some, starL] at p1; exact p1.elim
      | lst e1 r1 => exact fin _ _ _ rfl rfl (.inr (SqL.of e1)) r1
      | dct e1 r1 => simp only [q, Option.bind_some, starL] at p1; exact p1.elim
/-! ### str.index -/
def sidxF : F → List F → Option F
  | .str a, [.str b] => (match Builtin.Str.occurrences (S a) (S b) 0 (S a).length 1 with
    | i :: _ => some (.int (i : Nat))
    | [] => none)
  | _, _ => none
theorem om_sidx : OpM X T "str" (fun x xs H Q => ∃ a b i rest, x = .str a ∧ xs = [.str b] ∧ Builtin.Str.occurrences a b 0 a.length 1 = i :: rest ∧ Q (.int (i : Nat)) H) sidxF := by
  intro Z H x xs fx fs z Q s vx vs h g
  cases fx with
  | str a =>
    match fs, vs, h with
    | [.str b], vs, h =>
      obtain ⟨v, rfl, hv⟩ := vs.one
      cases vx.str; cases hv.str
      have h : (match Builtin.Str.occurrences (S a) (S b) 0 (S a).length 1 with
        | i :: _ => some (F.int (i : Nat))
        | [] => none) = some z := h
      cases q : Builtin.Str.occurrences (S a) (S b) 0 (S a).length 1 with
      | nil => rw [q] at h; cases h
      | cons i r =>
        rw [q] at h
        cases h
        exact ⟨_, _, i, r, rfl, rfl, q, g.here s (.int _)⟩
  | _ => cases h
theorem ve_sindex (ho : VE X T E o to) (he : VE X T E e te) (hbase : attributeBase o "index" X.env (eval o X.env) = eval o X.env := by rfl)
    (hline : (apos.endLine == cpos.line) = true := by rfl) (hs : starEach [e] X.env = [(false, eval e X.env)] := by rfl) :
    VE X T E (.Call (.Attribute o "index" apos) [e] [] cpos) (eBM "str" sidxF to (aCons te aNil)) :=
  ve_bm (by decide) PySem.F.plainAttrs_str PySem.F.slot_str_index PySem.F.type_str_index mt_sindex om_sidx ho (va_cons he va_nil hs) hbase (by rw [hs]; rfl) hline hs rfl
/-! ### len(range(n)) -/
def lenRgF : F → Option F
  | .int n => if n < 2 ^ 62 then some (.int (n.toNat : Nat)) else none
  | _ => none
theorem ve_lenRange (hg : Gl X "len") (hm : X.mg "len" = none) (hg2 : Gl X "range") (hm2 : X.mg "range" = none) (he : VE X T E e te)
    (hs : starEach [e] X.env = (false, eval e X.env) :: starEach [] X.env := by rfl)
    (hs2 : starEach [.Call (.Name "range" p2) [e] [] p3] X.env = (false, eval (.Call (.Name "range" p2) [e] [] p3) X.env) :: starEach [] X.env := by rfl) : VE X T E (.Call (.Name "len" p) [.Call (.Name "range" p2) [e] [] p3] [] pos) (eOp1 lenRgF te) := by
  have key : PE X (.Call (.Name "len" p) [.Call (.Name "range" p2) [e] [] p3] [] pos) (fun σ H Q => RdE X.K T E te σ H fun x H1 => ∃ n : Int, x = .int n ∧ n < 2 ^ 62 ∧ Q (.int (n.toNat : Nat)) H1) := by
    refine ⟨fun pins s σ H Q I h => ?_⟩
    refine Call_ (ld_blt I hg hm boot_len ?_)
    refine PyProof.Rows.callWith_builtin1 (PyProof.Rows.args_cons ?_ hs2) hs2 rfl
    have hR := prg_1 (p := p2) (pos := p3) hg2 hm2 he hs pins s σ H (fun i j H' => ∃ n : Int, i = 0 ∧ j = n ∧ n < 2 ^ 62 ∧ Q (.int (n.toNat : Nat)) H') I (by
      obtain ⟨Z, ι, env, st, sm, re, p⟩ := h
      exact ⟨Z, ι, env, st, sm, re, p.imp fun w st1 H1 Z1 ι1 l1 s1 p1 v rv => by
        obtain ⟨n, e1, e2, e3⟩ := p1 v rv
        exact ⟨n, e1, n, rfl, rfl, e2, e3⟩⟩)
    refine thn hR fun x s1 hx => ?_
    obtain ⟨r, a, b, t, u, v, H', rfl, hr, I', n, rfl, rfl, hn, q⟩ := hx
    refine PyProof.Rows.args_nil ?_
    have hz : Builtin.Range.rangeSize 0 b 1 = b.toNat := by
      unfold Builtin.Range.rangeSize
      simp
      omega
    refine call_len_range hr hz (by omega) ?_
    exact ⟨.int (b.toNat : Nat), H', I'.tok _, ⟨_, rfl⟩, q⟩
  refine pe_weak key fun σ H Q h => ?_
  obtain ⟨Z, ι, env, st, s, re, p⟩ := h
  refine ⟨Z, ι, env, st, s, re, (Post.bind p).imp fun w st1 H1 Z1 ι1 l1 s1 p1 v rv => ?_⟩
  obtain ⟨x, z, e1, e2, g⟩ := lk1_ok s1 p1
  have vx := rv.view s1 e1
  cases x with
  | int n =>
    cases vx.int
    have e2 : (if n < 2 ^ 62 then some (F.int (n.toNat : Nat)) else none) = some z := e2
    by_cases hn : n < 2 ^ 62
    · rw [if_pos hn] at e2
      cases e2
      exact ⟨n, rfl, hn, g.here s1.sub (.int _)⟩
    · rw [if_neg hn] at e2; cases e2
  | _ => cases e2
/-! ### constants of the module -/
theorem g_str {x z : Str} {s : List Nat} (h : ∃ t, X.mg x = some (.str z t)) (hg : Gl X x) (hz : z = S s) (hd : (x == ("__debug__" : Str)) = false := by decide) : VE X T E (.Name x pos) (eC (.str s)) := by
  obtain ⟨t, h⟩ := h
  subst hz
  exact ve_glob (v := .str (S s)) hg h ⟨t, rfl⟩ (fun Z => .str s) hd
theorem g_int {x : Str} {n : Int} (h : ∃ t, X.mg x = some (.int n t)) (hg : Gl X x) (hd : (x == ("__debug__" : Str)) = false := by decide) : VE X T E (.Name x pos) (eC (.int n)) := by
  obtain ⟨t, h⟩ := h
  exact ve_glob (v := .int n) hg h ⟨t, rfl⟩ (fun Z => .int n) hd
/-! ### += -/
def addI : F → F → Option F
  | .int i, .int j => some (.int (i + j))
  | .str a, .str b => if small (a.length + b.length) = true then some (.str (a ++ b)) else none
  | _, _ => none
theorem ior_add : OpR X (inplaceOp .Add) (fun x y H Q => rI0 (fun i j => .int (i + j)) x y H Q ∨ ∃ i j, x = .str i ∧ y = .str j ∧ i.length + j.length ≤ sizeLine ∧ Q (.str (i ++ j)) H) := OpR.or iop_add iop_add_str
theorem o2_iadd : Op2 X T (fun x y H Q => rI0 (fun i j => .int (i + j)) x y H Q ∨ ∃ i j, x = .str i ∧ y = .str j ∧ i.length + j.length ≤ sizeLine ∧ Q (.str (i ++ j)) H) addI := by
  intro Z H x y fx fy z Q s vx vy h g
  cases fx with
  | int i => cases fy with
    | int j => cases h; cases vx.int; cases vy.int; exact .inl ⟨i, j, rfl, rfl, g.here s (.int _)⟩
    | _ => cases h
  | str a => cases fy with
    | str b =>
      obtain ⟨hs, h⟩ := ifSome h
      cases h; cases vx.str; cases vy.str
      exact .inr ⟨_, _, rfl, rfl, by rw [S_len, S_len]; exact small_line hs, by rw [S_app]; exact g.here s (.str _)⟩
    | _ => cases h
  | _ => cases h
/-- any block, where it is never reached -/
def bStuck : TSv := fun _ _ => .stuck
theorem vb_stuck {body : List Stmt} : VB X T E body bStuck := ⟨fun pins s σ H Q I q => by
  obtain ⟨Z, ι, env, st, _, _, p⟩ := q
  exact p.elim⟩
end
end VS

set_option Elab.async false
set_option linter.all false
set_option maxRecDepth 100000
set_option maxHeartbeats 4000000
set_option autoImplicit false
namespace VS
open PySem PySem.Spec PyProof.Rows L2
@[irreducible] def fuel : Nat := 10 ^ 40
theorem Fn.full {P : Program} {w : World} {K : PySem.W.Frag} {mg : Str → Option Value} {base : Heap} {T : Tab} {CX : CXT} {k : Nat} {f : Addr} {fd : FuncData} {ps : List Str} {m : FnM} {ds : List Value} {dvs : List V} (F : FnOk P w K mg base CX k f fd ps (spM K T m)) (b : Binds K fd ps ds) (v : Vals dvs ds) (kp : PySem.W.keepIn K (.ref f) = true) (hd : dvs = [] := by rfl) :
    Fn P w K mg base T CX k f m := by
  subst hd
  cases v
  exact ⟨⟨fd, ps, [], [], [], m, F, b, .nil, fun _ => .nil, by simp⟩, kp⟩
end VS

set_option Elab.async false
set_option linter.all false
set_option maxRecDepth 100000
set_option maxHeartbeats 4000000
set_option autoImplicit false
/-! VY: what the head must have left, as one Bool; the law's own call. -/
namespace VS
open PySem PySem.Spec PyProof.Rows L2
/-! ### the table of classes -/
def clsB (K : PySem.W.Frag) (C : Addr) : Bool := PySem.W.plainGet K C Str.empty && (PySem.W.hasDictIn K C && (PySem.W.plainOver K C && He.eqO (PySem.W.findIn K (.ref C) "__setattr__") (some (some (.builtin "object.__setattr__")))))
theorem clsB_ok {K : PySem.W.Frag} {C : Addr} (c : clsB K C = true) : Cls K C := by
  obtain ⟨c1, c⟩ := He.ba c
  obtain ⟨c2, c⟩ := He.ba c
  obtain ⟨c3, c4⟩ := He.ba c
  exact ⟨c1, c2, c3, He.eqO_ok c4⟩
def tabB (K : PySem.W.Frag) (T : Tab) : Bool := (List.range T.cls.length).all fun c => clsB K (T.ca K c) && (List.range T.fld.length).all fun i => !T.okf c i || He.eqO (PySem.W.findIn K (.ref (T.ca K c)) (T.fn i)) (some none)
theorem some_lt {α : Type} {l : List α} {c : Nat} (h : (l[c]?).isSome = true) : c < l.length := by
  rcases Nat.lt_or_ge c l.length with q | q
  · exact q
  · rw [List.getElem?_eq_none q] at h; cases h
theorem okf_cls {T : Tab} {c i : Nat} (h : T.okf c i = true) : c < T.cls.length := by
  unfold Tab.okf at h
  cases q : T.cls[c]? with
  | none => rw [q] at h; cases h
  | some x => exact some_lt (by rw [q]; rfl)
theorem tabB_ok {K : PySem.W.Frag} {T : Tab} (hn : T.fld.Nodup) (h : tabB K T = true) : TabOk K T := by
  have h' := List.all_eq_true.mp h
  refine ⟨hn, fun c hc => ?_, fun c i hi => ?_⟩
  · exact clsB_ok (He.ba (h' c (List.mem_range.mpr (some_lt hc)))).1
  · have h2 := List.all_eq_true.mp (He.ba (h' c (List.mem_range.mpr (okf_cls hi)))).2 i (List.mem_range.mpr (okf_lt hi))
    rw [hi] at h2
    exact He.eqO_ok (by simpa using h2)
/-! ### isinstance -/
def isiAll (K : PySem.W.Frag) (T : Tab) (t : Ty) : Bool := ([Tg.bl, .int, .str, .tup, .lst, .dct].all fun g => decide (PySem.W.kitOne K (tyVal K T t) (tgVal K T g) = some (isT g t))) && (List.range T.cls.length).all fun c => decide (PySem.W.kitOne K (tyVal K T t) (tgVal K T (.own c)) = some (isT (.own c) t))
def isiB (K : PySem.W.Frag) (T : Tab) : Bool := ([Ty.non, .bl, .int, .str, .tup, .lst, .dct].all fun t => isiAll K T t) && (List.range T.cls.length).all fun c => insB K (T.ca K c) && isiAll K T (.own c)
theorem isiB_ok {K : PySem.W.Frag} {T : Tab} (h : isiB K T = true) : IsiOk K T := by
  obtain ⟨h1, h2⟩ := He.ba h
  have h1' := List.all_eq_true.mp h1
  have h2' := List.all_eq_true.mp h2
  have each : ∀ t g, isiAll K T t = true → (∀ c, g = .own c → (T.cls[c]?).isSome = true) → PySem.W.kitOne K (tyVal K T t) (tgVal K T g) = some (isT g t) := by
    intro t g ht hg
    obtain ⟨a, b⟩ := He.ba ht
    have a' := List.all_eq_true.mp a
    have b' := List.all_eq_true.mp b
    cases g with
    | own c => exact of_decide_eq_true (b' c (List.mem_range.mpr (some_lt (hg c rfl))))
    | _ => exact of_decide_eq_true (a' _ (by simp))
  refine ⟨fun c hc => (He.ba (h2' c (List.mem_range.mpr (some_lt hc)))).1, fun t g ht hg => ?_⟩
  cases t with
  | own c => exact each _ g (He.ba (h2' c (List.mem_range.mpr (some_lt (ht c rfl))))).2 hg
  | _ => exact each _ g (h1' _ (by simp)) hg
def binB (K : PySem.W.Frag) (C : Addr) (nm Ty : String) : Bool := (match PySem.W.findIn K (.ref C) (PySem.dunderR nm) with
  | some none => true
  | some (some (.ref _)) => true
  | _ => false) && ((PySem.W.findIn K (.type Ty) (PySem.dunder nm)).isSome && ((PySem.W.findIn K (.type Ty) (PySem.dunderR nm)).isSome && decide (PySem.W.subIn K (.type Ty) (.ref C) = some false)))
theorem binB_ok {K : PySem.W.Frag} {C : Addr} {nm Ty : String} (h : binB K C nm Ty = true) : BinT K C nm Ty := by
  obtain ⟨h1, h⟩ := He.ba h
  obtain ⟨h2, h⟩ := He.ba h
  obtain ⟨h3, h4⟩ := He.ba h
  refine ⟨?_, Option.isSome_iff_exists.mp h2, Option.isSome_iff_exists.mp h3, of_decide_eq_true h4⟩
  cases q : PySem.W.findIn K (.ref C) (PySem.dunderR nm) with
  | none => rw [q] at h1; cases h1
  | some o =>
    rw [q] at h1
    cases o with
    | none => exact ⟨none, rfl, .inl rfl⟩
    | some v =>
      cases v with
      | ref g => exact ⟨_, rfl, .inr ⟨g, rfl⟩⟩
      | _ => cases h1
/-! ### the Hook: the defs, the facts by names, one Bool more -/
def obsX (n : Nat) (ex : PySem.W.Frag → Bool) (fa : List He.Fa) (fn : List He.DefD) (g : Addr → Option Obj) : He.AlD × Bool := (He.obsD fa fn (He.frG g (He.asD g n)), ex (He.frG g (He.asD g n)))
def SaysX (ex : PySem.W.Frag → Bool) (fa : List He.Fa) (fn : List He.DefD) (K : PySem.W.Frag) : Prop := He.SaysD fa fn K ∧ ex K = true
def hookX (n : Nat) (ex : PySem.W.Frag → Bool) (fa : List He.Fa) (fn : List He.DefD) : PySem.W.Hook where
  α := He.AlD × Bool
  obs := fun s => obsX n ex fa fn s.heap.get?
  val := fun _ => (He.valD fn, true)
  says := fun _ h => ∃ K : PySem.W.Frag, K.In h ∧ SaysX ex fa fn K
  of := fun _ _ e => ⟨_, He.frG_in, (Prod.mk.inj e).1, (Prod.mk.inj e).2⟩
  keeps := fun _ _ _ ⟨K, hK, c⟩ k => ⟨K, PySem.W.Frag.In.keeps hK k, c⟩
theorem obsX_eq {n : Nat} {ex : PySem.W.Frag → Bool} {fa : List He.Fa} {fn : List He.DefD} {g : Addr → Option Obj} {s : Shared} (h : ∀ a, g a = s.heap.get? a) : obsX n ex fa fn g = (hookX n ex fa fn).obs s := by
  have e : g = s.heap.get? := funext h
  rw [e] <;> rfl
/-- the law's promise from its mirror -/
theorem sp_law {K : PySem.W.Frag} {T : Tab} {m : FnM} (hm : ∀ ns : List Int, ns.length ≤ 63 → ∃ st, m [.f (.scr ns)] [] = .ok (.f (.bl true)) st) {H : Hp} {a : Addr} {ns : List Int} (hl : ns.length ≤ 63) (hS : SqL K H a (ns.map V.int)) :
    spM K T m [.ref a] H (fun v _ => v = .bl true) fun _ _ _ => False := by
  obtain ⟨st, e⟩ := hm ns hl
  refine ⟨H, [], [.f (.scr ns)], [], ⟨Same.refl H, rfl, .nil, fun n a c h => by simp at h, fun a h => by cases h⟩, .cons (.f (.scr hS)) .nil, ?_⟩
  rw [e]
  intro H' Z' ι' _ _ v rv
  cases rv with
  | f r => cases r; rfl
end VS

set_option Elab.async false
set_option linter.all false
set_option maxRecDepth 100000
set_option maxHeartbeats 4000000
set_option autoImplicit false
/-! VZ: operators with an own object to the right. -/
namespace PySem.W
open PySem PySem.Calls PyProof.Rows
section
variable {prog : Program} {w : World} {M : Model} {A : Around} {E : Value → Shared → Prop} {s : Shared} {K : Frag} {x C L f f0 : Addr} {h₀ : Heap} {m : Str → Option Value} {ox : Obj} {od : Option Obj} {nm T : String}
theorem vz_binR {op : Operator} {a : Value} {fo ro : Option Value} {Q : Value → Shared → Prop} (F : Fr h₀ L s.heap m) (X₀ : K.In h₀) (I : InstAt s.heap x ox C od) (ha : typeOf a = pure (.type T)) (hc : selfFirst K C = true)
    (hs : findIn K (.ref C) (PySem.dunder op.info.2) = some (some (.ref f0))) (hr : findIn K (.ref C) (dunderR op.info.2) = some (some (.ref f))) (hf : isFn K (.ref f) = true)
    (h1 : findIn K (.type T) (PySem.dunder op.info.2) = some fo) (h2 : findIn K (.type T) (dunderR op.info.2) = some ro) (hl : ((fo.isSome && !isSeqSlot fo) || (ro.isSome && !isSeqSlot ro)) = false)
    (h : wpAny (model prog w) A (call (.ref f) [.ref x, a]) (CmpBack Q) E s) : wpAny (model prog w) A (binaryOp op a (.ref x)) Q E s := by
  have X := X₀.keeps F.keep
  obtain ⟨cd, rest, hcd, hm⟩ := ksp_first hc
  rcases hi : op.info with ⟨sym, nm'⟩
  rw [hi] at hs hr h1 h2
  dsimp only at hs hr h1 h2
  have one := ksp_try X I hr hf h
  obtain ⟨hh, g, d, tt, os⟩ := s
  have L1 : Looks (model prog w) hh (typeOf (.ref x)) (.ref C) := I.type
  have L2 : Looks (model prog w) hh (typeOf a) (.type T) := Looks.of_pure ha
  have L3 : Looks (model prog w) hh (fillsNumberSlot (.ref C) nm') true := fills_K X hcd hm hs
  have L4 : Looks (model prog w) hh (fillsNumberSlot (.type T) nm') ((fo.isSome && !isSeqSlot fo) || (ro.isSome && !isSeqSlot ro)) := ksp_fillsT X h1 h2
  rw [hl] at L4
  have hne : (Value.type T == Value.ref C) = false := Bool.eq_false_iff.mpr fun q => by cases beq_iff_eq.mp q
  simp only [binaryOp, hi]
  refine wpAny_holding (wpAny_bind ?_)
  unfold binaryOp1
  refine wpAny_bind (L2.at (wpAny_bind (L1.at (wpAny_bind (L4.at ?_)))))
  simp only [hne, Bool.false_eq_true, if_false]
  ksp_lk
  refine wpAny_mono one (fun r s' hr' => ?_) fun _ _ e => e
  obtain ⟨v, rfl, hq⟩ := hr'
  ksp_lk
  exact hq
end
end PySem.W
namespace VS
open PySem PySem.Spec PyProof.Rows L2
/-- what a class and a type must be for an operator that the right side answers -/
structure BinR (K : PySem.W.Frag) (C : Addr) (nm : String) (Ty : String) : Prop where
  hs : ∃ f0, PySem.W.findIn K (.ref C) (PySem.dunder nm) = some (some (.ref f0))
  ex : ∃ fo ro, PySem.W.findIn K (.type Ty) (PySem.dunder nm) = some fo ∧ PySem.W.findIn K (.type Ty) (PySem.dunderR nm) = some ro ∧ ((fo.isSome && !isSeqSlot fo) || (ro.isSome && !isSeqSlot ro)) = false
def binRB (K : PySem.W.Frag) (C : Addr) (nm Ty : String) : Bool := (match PySem.W.findIn K (.ref C) (PySem.dunder nm) with
  | some (some (.ref _)) => true
  | _ => false) && (match PySem.W.findIn K (.type Ty) (PySem.dunder nm), PySem.W.findIn K (.type Ty) (PySem.dunderR nm) with
  | some fo, some ro => !((fo.isSome && !isSeqSlot fo) || (ro.isSome && !isSeqSlot ro))
  | _, _ => false)
theorem binRB_ok {K : PySem.W.Frag} {C : Addr} {nm Ty : String} (h : binRB K C nm Ty = true) : BinR K C nm Ty := by
  obtain ⟨h1, h2⟩ := He.ba h
  refine ⟨?_, ?_⟩
  · cases q : PySem.W.findIn K (.ref C) (PySem.dunder nm) with
    | none => rw [q] at h1; cases h1
    | some o =>
      rw [q] at h1
      cases o with
      | none => cases h1
      | some v =>
        cases v with
        | ref g => exact ⟨g, rfl⟩
        | _ => cases h1
  · cases q : PySem.W.findIn K (.type Ty) (PySem.dunder nm) with
    | none => rw [q] at h2; cases h2
    | some fo =>
      cases q2 : PySem.W.findIn K (.type Ty) (PySem.dunderR nm) with
      | none => rw [q, q2] at h2; cases h2
      | some ro =>
        rw [q, q2] at h2
        exact ⟨fo, ro, rfl, rfl, by rw [Bool.not_eq_true'] at h2; exact h2⟩
section
variable {X : Cx} {T : Tab} {E : XK} {a b e : Expr} {ta tb te : TEv} {pos : Pos} {CX : CXT} {k c : Nat} {g : Addr} {m : FnM} {C : Addr} {sp : Sp}
def rOwnR (C : Addr) (ok : V → Hp → Prop) (sp : Sp) (E : XK) : R2 := fun x y H Q => OwnAt H C y ∧ ok x H ∧ sp [y, x] H Q E
theorem op_ownBinR {op : Operator} {Ty : String} (hc : PySem.W.selfFirst X.K C = true) (hm : Meth X.K C (PySem.dunderR op.info.2) g) (hb : BinR X.K C op.info.2 Ty) (F : FnR X.prog X.w X.K X.mg X.base CX k g sp) (hr : Room k X.A) (hx : Passes CX X E) :
    OpR X (binaryOp op) (rOwnR C (fun y H => IsV Ty y) sp E) := by
  intro pins s σ H x y v u Q I rx ry h
  obtain ⟨⟨a, dx, fs, rfl, ea⟩, hy, q⟩ := h
  cases (show u = Value.ref a from ry)
  obtain ⟨ox, od, J⟩ := own_inst I ea
  obtain ⟨mm, hF⟩ := I.fr
  obtain ⟨f0, h0⟩ := hb.hs
  obtain ⟨fo, ro, h3, h4, h5⟩ := hb.ex
  have ht : typeOf v = pure (.type Ty) := by
    cases x with
    | int i => obtain ⟨t, e⟩ := (show ∃ t, v = Value.int i t from rx); cases e; cases (show Ty = "int" from hy); rfl
    | str i => obtain ⟨t, e⟩ := (show ∃ t, v = Value.str i t from rx); cases e; cases (show Ty = "str" from hy); rfl
    | _ => exact hy.elim
  refine PySem.W.vz_binR hF I.ok.mod.kin J ht hc h0 hm.at_ hm.fn h3 h4 h5 ?_
  refine wpAny_mono (wpAny_call (run_fnR (us := [.ref a, v]) (vs := [.ref a, x]) F hr hx I (.cons rfl (.cons rx .nil)) q)) (fun w s' z => ?_) fun _ _ x => x
  obtain ⟨z', H', I', rz, qz⟩ := z
  exact SlX.cmpback rz ⟨z', H', I', rz, qz⟩
def eOwnR (c : Nat) (ok : Store → W → Bool) (m : FnM) (ta tb : TEv) : TEv := fun env st => (ta env st).bind fun w st1 => (tb env st1).bind fun u st2 => if ok st2 w = true then own2 c m u w st2 else .stuck
theorem rd_ownR {ok : Store → W → Bool} {okV : V → Hp → Prop} (hok : ∀ Z H ι st v w, SimS X.K T Z ι st H → RepW X.K T Z ι v w → ok st w = true → okV v H) {σ : L2.St} {H : Hp} {Q : VK} (h : RdE X.K T E (eOwnR c ok m ta tb) σ H Q) :
    tOp (rOwnR (T.ca X.K c) okV (spM X.K T m) E) (RdE X.K T E ta) (RdE X.K T E tb) σ H Q := by
  obtain ⟨Z, ι, env, st, s, re, p⟩ := h
  refine ⟨Z, ι, env, st, s, re, (Post.bind p).imp fun w st1 H1 Z1 ι1 l1 s1 p1 v rv => ?_⟩
  refine ⟨Z1, ι1, env, st1, s1, re.mono l1, (Post.bind p1).imp fun u st2 H2 Z2 ι2 l2 s2 p2 v2 rv2 => ?_⟩
  by_cases hk : ok st2 w = true
  · rw [if_pos hk] at p2
    unfold own2 at p2
    by_cases hc : clsW st2 u = some c
    · rw [if_pos hc] at p2
      exact ⟨own_at s2 rv2 hc, hok _ _ _ _ _ _ s2 (rv.mono l2) hk, Z2, ι2, [u, w], st2, s2, .cons rv2 (.cons (rv.mono l2) .nil), p2⟩
    · rw [if_neg hc] at p2
      exact p2.elim
  · rw [if_neg hk] at p2
    exact p2.elim
theorem ve_ownRBinS {op : Operator} {f : Addr} (h1 : PySem.W.selfFirst X.K (T.ca X.K c) = true) (hm : Meth X.K (T.ca X.K c) (PySem.dunderR op.info.2) f) (ht : BinR X.K (T.ca X.K c) op.info.2 "str") (F : Fn X.prog X.w X.K X.mg X.base T CX k f m) (hr : Room k X.A) (hx : Passes CX X E) (ha : VE X T E a ta) (hb : VE X T E b tb) :
    VE X T E (.BinOp a op b pos) (eOwnR c isStrW m ta tb) :=
  pe_weak (pe_op (op_ownBinR h1 hm ht F.raw hr hx) ha hb) fun σ H Q h => rd_ownR (fun Z H ι st v w s r q => by
    cases r with
    | loc _ => cases q
    | f r => cases r <;> first | exact (rfl : "str" = "str") | cases q) h
end
end VS

set_option Elab.async false
set_option linter.all false
set_option maxRecDepth 100000
set_option maxHeartbeats 4000000
set_option autoImplicit false
/-! WA: dicts. -/
namespace VS
open PySem PySem.Spec PyProof.Rows L2

theorem hu1 {n : Nat} (h : n + 64 < cLine) : n + 1 < cLine := Nat.lt_of_le_of_lt (Nat.add_le_add_left (by decide) n) h
/-! ### tables -/
def keyEq (x y : F) : Bool := match keyF x, keyF y with
  | some a, some b => decide (a = b)
  | _, _ => false
def lookF (kfs : List (F × F)) (y : F) : Option F := (kfs.find? fun p => keyEq p.1 y).map (·.2)
def putDF (kfs : List (F × F)) (y x : F) : List (F × F) :=
  if (kfs.any fun p => keyEq p.1 y) = true then kfs.map (fun p => if keyEq p.1 y = true then (p.1, x) else p) else kfs ++ [(y, x)]
def mergeF (kfs more : List (F × F)) : List (F × F) := more.foldl (fun acc p => putDF acc p.1 p.2) kfs
section
variable {K : PySem.W.Frag} {T : Tab} {Z : Hp}
theorem keyEq_of {x y : F} {a b : Key} (hx : keyF x = some a) (hy : keyF y = some b) : keyEq x y = decide (a = b) := by
  unfold keyEq; rw [hx, hy]
theorem RepFk.val {y : F} {k : Key} (hy : keyF y = some k) : ∀ {kvs : List (Key × V)} {kfs : List (F × F)}, RepFk K T Z kvs kfs →
    (∃ v x, valV kvs k = some v ∧ lookF kfs y = some x ∧ RepF K T Z v x) ∨ (valV kvs k = none ∧ lookF kfs y = none)
  | _, _, .nil => .inr ⟨rfl, rfl⟩
  | _, _, .cons (k := k') (v := v') (y := y') (x := x') (vs := vs) (xs := xs) h r t => by
    have e := keyEq_of h hy
    by_cases hk : k' = k
    · refine .inl ⟨v', x', valV_pos hk, ?_, r⟩
      unfold lookF
      rw [List.find?_cons_of_pos (by rw [e]; exact decide_eq_true hk)]
      rfl
    · have e1 : lookF ((y', x') :: xs) y = lookF xs y := by
        unfold lookF
        rw [List.find?_cons_of_neg (by rw [e]; simp [hk])]
      rw [valV_neg (p := (k', v')) hk, e1]
      exact RepFk.val hy t
theorem RepFk.any {y : F} {k : Key} (hy : keyF y = some k) : ∀ {kvs : List (Key × V)} {kfs : List (F × F)}, RepFk K T Z kvs kfs →
    (kvs.any fun kv => decide (kv.1 = k)) = kfs.any fun p => keyEq p.1 y
  | _, _, .nil => rfl
  | _, _, .cons h r t => by rw [List.any_cons, List.any_cons, RepFk.any hy t, keyEq_of h hy]
theorem RepFk.repl {y x : F} {k : Key} {v : V} (hy : keyF y = some k) (rx : RepF K T Z v x) : ∀ {kvs : List (Key × V)} {kfs : List (F × F)}, RepFk K T Z kvs kfs →
    RepFk K T Z (kvs.map fun kv => if kv.1 = k then (kv.1, v) else kv) (kfs.map fun p => if keyEq p.1 y = true then (p.1, x) else p)
  | _, _, .nil => .nil
  | _, _, .cons (k := k') h r t => by
    rw [List.map_cons, List.map_cons]
    have e := keyEq_of h hy
    by_cases hk : k' = k
    · rw [if_pos hk, if_pos (by rw [e]; exact decide_eq_true hk)]
      exact .cons h rx (RepFk.repl hy rx t)
    · rw [if_neg hk, if_neg (by rw [e]; simp [hk])]
      exact .cons h r (RepFk.repl hy rx t)
theorem RepFk.append : ∀ {vs ws : List (Key × V)} {xs ys : List (F × F)}, RepFk K T Z vs xs → RepFk K T Z ws ys → RepFk K T Z (vs ++ ws) (xs ++ ys)
  | _, _, _, _, .nil, s => s
  | _, _, _, _, .cons h r t, s => .cons h r (RepFk.append t s)
theorem RepFk.put {y x : F} {k : Key} {v : V} {kvs : List (Key × V)} {kfs : List (F × F)} (h : RepFk K T Z kvs kfs) (hy : keyF y = some k) (rx : RepF K T Z v x) : RepFk K T Z (putK kvs k v) (putDF kfs y x) := by
  unfold putK putDF
  rw [h.any hy]
  by_cases q : (kfs.any fun p => keyEq p.1 y) = true
  · rw [if_pos q, if_pos q]; exact h.repl hy rx
  · rw [if_neg q, if_neg q]; exact h.append (.cons hy rx .nil)
theorem RepFk.merge : ∀ {ms : List (Key × V)} {xs : List (F × F)} {kvs : List (Key × V)} {kfs : List (F × F)}, RepFk K T Z ms xs → RepFk K T Z kvs kfs → RepFk K T Z (mergeK kvs ms) (mergeF kfs xs)
  | _, _, _, _, .nil, h => h
  | _, _, _, _, .cons (k := k') (v := v') (y := y') (x := x') (vs := ms) (xs := xs) k r t, h => by
    have := RepFk.merge (ms := ms) (xs := xs) t (h.put k r)
    exact this
theorem rep_key {y : F} {k : Key} {v : V} (h : keyF y = some k) (r : RepF K T Z v y) : v = kV k := by
  cases r with
  | int i => cases h; rfl
  | str s => cases h; rfl
  | _ => cases h
end

/-! ### displays -/
def pairsV : List (TEv × TEv) → Env → Store → Res (List (W × W))
  | [], _, st => .ok [] st
  | (tk, tv) :: r, env, st => (tk env st).bind fun x st1 => (tv env st1).bind fun y st2 => (pairsV r env st2).bind fun ps st3 => .ok ((x, y) :: ps) st3
def RepPs (K : PySem.W.Frag) (T : Tab) (Z : Hp) (ι : List Addr) (qs : List (V × V)) (ps : List (W × W)) : Prop := RepWs K T Z ι (qs.map (·.1)) (ps.map (·.1)) ∧ RepWs K T Z ι (qs.map (·.2)) (ps.map (·.2))
theorem rd_pairs {K : PySem.W.Frag} {T : Tab} {E : XK} : ∀ (ts : List (TEv × TEv)) {σ : L2.St} {H : Hp} {Q : List (V × V) → Hp → Prop} {Z : Hp} {ι : List Addr} {env : Env} {st : Store}, SimS K T Z ι st H → EnvR K T Z ι σ env →
    Post K T E Z ι (pairsV ts env st) (fun ps _ H' Z' ι' => ∀ qs, RepPs K T Z' ι' qs ps → Q qs H') → tPairs (ts.map fun t => (RdE K T E t.1, RdE K T E t.2)) σ H Q
  | [], σ, H, Q, Z, ι, env, st, s, re, p => p H Z ι Le.refl s [] ⟨.nil, .nil⟩
  | (tk, tv) :: r, σ, H, Q, Z, ι, env, st, s, re, p =>
    ⟨Z, ι, env, st, s, re, (Post.bind p).imp fun x st1 H1 Z1 ι1 l1 s1 p1 vx rx => ⟨Z1, ι1, env, st1, s1, re.mono l1, (Post.bind p1).imp fun y st2 H2 Z2 ι2 l2 s2 p2 vy ry =>
      rd_pairs r s2 ((re.mono l1).mono l2) ((Post.bind p2).imp fun ps st3 H3 Z3 ι3 l3 s3 p3 qs rps => p3 H3 Z3 ι3 Le.refl s3 _ ⟨.cons ((rx.mono l2).mono l3) rps.1, .cons (ry.mono l3) rps.2⟩)⟩⟩
def pairsF : List (W × W) → Option (List (F × F))
  | [] => some []
  | (.f y, .f x) :: r => if (keyF y).isSome = true then (pairsF r).map ((y, x) :: ·) else none
  | _ :: _ => none
theorem pairsF_ok {K : PySem.W.Frag} {T : Tab} {Z : Hp} {ι : List Addr} : ∀ {qs : List (V × V)} {ps : List (W × W)} {fs : List (F × F)}, RepPs K T Z ι qs ps → pairsF ps = some fs → ∃ kvs : List (Key × V), qs = kvs.map (fun kv => (kV kv.1, kv.2)) ∧ RepFk K T Z kvs fs
  | [], [], fs, _, h => by cases h; exact ⟨[], rfl, .nil⟩
  | [], _ :: _, _, r, _ => by exact nomatch r.1
  | _ :: _, [], _, r, _ => by exact nomatch r.1
  | (v, u) :: qs, (x, y) :: ps, fs, r, h => by
    obtain ⟨r1, r2⟩ := r
    cases r1 with
    | cons rv t1 =>
    cases r2 with
    | cons ru t2 =>
    cases x with
    | loc n => cases h
    | f x =>
    cases y with
    | loc n => cases h
    | f y =>
    have h : (if (keyF x).isSome = true then (pairsF ps).map ((x, y) :: ·) else none) = some fs := h
    cases hk : keyF x with
    | none => rw [hk] at h; cases h
    | some k =>
      rw [hk] at h
      cases q : pairsF ps with
      | none => rw [q] at h; cases h
      | some gs =>
        rw [q] at h
        cases h
        obtain ⟨kvs, e, rk⟩ := pairsF_ok (qs := qs) (ps := ps) ⟨t1, t2⟩ q
        cases rv with
        | f rv =>
        cases ru with
        | f ru =>
        refine ⟨(k, u) :: kvs, ?_, .cons hk ru rk⟩
        rw [List.map_cons, ← e, ← rep_key hk rv]
def isEmptyD : Option Cell → Bool
  | some (.dct []) => true
  | _ => false
def fewP (n : Nat) : Bool := decide (n ≤ 15)
/-- {k: v, ..} as a cell -/
def eDisp (ts : List (TEv × TEv)) : TEv := fun env st => (pairsV ts env (st ++ [.dct []])).bind fun ps st1 => match pairsF ps with
  | some fs => if isEmptyD st1[st.length]? = true then (if fewP fs.length = true then .ok (.loc st.length) (st1.set st.length (.dct (mergeF [] fs))) else .stuck) else .stuck
  | none => .stuck
theorem RepFk.length' {K : PySem.W.Frag} {T : Tab} {Z : Hp} : ∀ {vs : List (Key × V)} {xs : List (F × F)}, RepFk K T Z vs xs → vs.length = xs.length
  | _, _, .nil => rfl
  | _, _, .cons _ _ t => by rw [List.length_cons, List.length_cons, RepFk.length' t]
section
variable {X : Cx} {T : Tab} {E : XK} {o e f i value : Expr} {to te tf ti tv : TEv} {pos pos' apos cpos : Pos} {ts : List (TEv × TEv)} {keys : List (Option Expr)} {values : List Expr}
abbrev VPs (X : Cx) (T : Tab) (E : XK) (pos : Pos) (keys : List (Option Expr)) (values : List Expr) (ts : List (TEv × TEv)) : Prop := PPs X pos keys values (ts.map fun t => (RdE X.K T E t.1, RdE X.K T E t.2))
theorem vps_nil : VPs X T E pos [] [] [] := pps_nil
theorem vps_cons {k v : Expr} {tk tv : TEv} (hk : VE X T E k tk) (hv : VE X T E v tv) (hr : VPs X T E pos keys values ts) : VPs X T E pos (some k :: keys) (v :: values) ((tk, tv) :: ts) := pps_cons hk hv hr
theorem ve_disp (h : VPs X T E pos keys values ts) (hall : keys.all (·.isSome) = true := by rfl) (hl : keys.length = values.length := by rfl) (h0 : keys ≠ [] := by simp) (h15 : keys.length ≤ 15 := by decide) : VE X T E (.Dict keys values pos) (eDisp ts) :=
  pe_weak (pe_disp h hall hl h0 h15) fun σ H Q q => by
    obtain ⟨Z, ι, env, st, s, re, p⟩ := q
    intro a ha
    have hz := free_sub s.sub ha
    have s2 := s.alloc (c := .dct []) (o := .dK []) ha ⟨hz, [], upd_same, .nil⟩
    have la : Le Z ι Z (ι ++ [a]) := Le.alloc
    refine rd_pairs ts s2 (re.mono la) (((Post.bind p).le la).imp fun ps st1 H1 Z1 ι1 l1 s1 p1 qs rps => ?_)
    have ea : ι1[st.length]? = some a := l1.i _ _ (by rw [← s.len]; exact last_get _ _)
    cases q : pairsF ps with
    | none => simp only [q] at p1; exact p1.elim
    | some fs =>
      simp only [q] at p1
      by_cases hd : isEmptyD st1[st.length]? = true
      · rw [if_pos hd] at p1
        by_cases hf : fewP fs.length = true
        · rw [if_pos hf] at p1
          obtain ⟨kvs, e, rk⟩ := pairsF_ok rps q
          have hc : st1[st.length]? = some (.dct []) := by
            cases q2 : st1[st.length]? with
            | none => rw [q2] at hd; cases hd
            | some c =>
              rw [q2] at hd
              cases c with
              | dct l => cases l with
                | nil => rfl
                | cons _ _ => cases hd
              | _ => cases hd
          obtain ⟨hz1, kv0, e0, r0⟩ := s1.cell _ _ _ ea hc
          cases r0
          refine ⟨e0, kvs, e, by rw [rk.length']; exact of_decide_eq_true hf, ?_⟩
          exact p1 _ Z1 ι1 Le.refl (s1.write ea hz1 ⟨hz1, _, upd_same, rk.merge .nil⟩) _ (.loc ea)
        · rw [if_neg hf] at p1; exact p1.elim
      · rw [if_neg hd] at p1; exact p1.elim
/-! ### asked -/
def gDGet : F → F → Option F
  | .dct kfs, y => lookF kfs y
  | _, _ => none
theorem lookF_key {kfs : List (F × F)} {y x : F} (h : lookF kfs y = some x) : ∃ k, keyF y = some k := by
  unfold lookF at h
  cases q : kfs.find? fun p => keyEq p.1 y with
  | none => rw [q] at h; cases h
  | some p =>
    have e := List.find?_some q
    unfold keyEq at e
    cases q1 : keyF y with
    | none => rw [q1] at e; cases q2 : keyF p.1 <;> rw [q2] at e <;> cases e
    | some k => exact ⟨k, rfl⟩
theorem View.key {K : PySem.W.Frag} {Z H : Hp} {v : V} {y : F} {k : Key} (h : View K T Z H v y) (e : keyF y = some k) : v = kV k := by
  cases h with
  | f r => exact rep_key e r
  | lst _ _ => cases e
  | dct _ _ => cases e
theorem op_dget : Op2 X T (fun x y H Q => ∃ a v, x = .ref a ∧ DGet H a y (some v) ∧ Q v H) gDGet := by
  intro Z H x y fx fy z Q s vx vy g gv
  cases fx with
  | dct kfs =>
    have g : lookF kfs fy = some z := g
    obtain ⟨k, hk⟩ := lookF_key g
    obtain ⟨a, vs, rfl, ea, rk⟩ := vx.dct' s
    rcases rk.val hk with ⟨v, x, e1, e2, r⟩ | ⟨e1, e2⟩
    · rw [g] at e2; cases e2
      exact ⟨a, v, rfl, .inl ⟨vs, k, .inl ea, vy.key hk, e1.symm⟩, gv.here s r⟩
    · rw [g] at e2; cases e2
  | _ => cases g
theorem ve_dget (hu : X.A.units + 1 < cLine) (ho : VE X T E o to) (hi : VE X T E i ti) (hs : NoSl i) : VE X T E (.Subscript o i pos) (eOp2 gDGet to ti) :=
  pe_weak (pe_dget hu ho hi hs) fun _ _ _ h => rd_op2 op_dget h
def isDct : Option F → Bool
  | some (.dct _) => true
  | _ => false
def dget2 (w y z : W) (st : Store) : Res W := match look st w, y with
  | some (.dct kfs), .f y => if (keyF y).isSome = true then (match lookF kfs y with
    | some x => .ok (.f x) st
    | none => .ok z st) else .stuck
  | _, _ => .stuck
def eDGet2 (to te tf : TEv) : TEv := fun env st => (to env st).bind fun w st1 => if isDct (look st1 w) = true then (te env st1).bind fun y st2 => (tf env st2).bind fun z st3 => dget2 w y z st3 else .stuck
def eDGet1 (to te : TEv) : TEv := eDGet2 to te (eC .non)
theorem isDct_some {o : Option F} (h : isDct o = true) : ∃ kfs, o = some (.dct kfs) := by
  cases o with
  | none => cases h
  | some x => cases x <;> first | exact ⟨_, rfl⟩ | cases h
theorem dget2_ok {K : PySem.W.Frag} {Z H : Hp} {ι : List Addr} {w y z : W} {st : Store} {Q : VK} {a : Addr} {vy vz : V} (s : SimS K T Z ι st H) (rw_ : RepW K T Z ι (.ref a) w) (ry : RepW K T Z ι vy y) (rz : RepW K T Z ι vz z)
    (h : Post K T E Z ι (dget2 w y z st) fun w _ H' Z' ι' => ∀ v, RepW K T Z' ι' v w → Q v H') : ∃ ov : Option V, DGet H a vy ov ∧ Q (ov.getD vz) H := by
  unfold dget2 at h
  cases y with
  | loc n => cases q : look st w with
    | none => rw [q] at h; exact h.elim
    | some x => rw [q] at h; cases x <;> exact h.elim
  | f y =>
  cases q : look st w with
  | none => rw [q] at h; exact h.elim
  | some x =>
    rw [q] at h
    have vw := rw_.view s q
    cases x with
    | dct kfs =>
      have h : Post K T E Z ι (if (keyF y).isSome = true then (match lookF kfs y with
        | some x => Res.ok (W.f x) st
        | none => Res.ok z st) else .stuck) _ := h
      cases hk : keyF y with
      | none => rw [hk] at h; exact h.elim
      | some k =>
        rw [hk] at h
        obtain ⟨b, vs, e, ea, rk⟩ := vw.dct' s.sub
        cases e
        cases ry with
        | f ry =>
        have ey := rep_key hk ry
        rcases rk.val hk with ⟨v, x, e1, e2, r⟩ | ⟨e1, e2⟩
        · rw [e2] at h
          exact ⟨some v, .inl ⟨vs, k, .inl ea, ey, e1.symm⟩, h H Z ι Le.refl s v (.f r)⟩
        · rw [e2] at h
          exact ⟨none, .inl ⟨vs, k, .inl ea, ey, e1.symm⟩, h H Z ι Le.refl s vz rz⟩
    | _ => exact h.elim
theorem rd_dget2 {K : PySem.W.Frag} {σ : L2.St} {H : Hp} {Q : VK} (h : RdE K T E (eDGet2 to te tf) σ H Q) : tDGet2 (RdE K T E to) (RdE K T E te) (RdE K T E tf) σ H Q := by
  obtain ⟨Z, ι, env, st, s, re, p⟩ := h
  refine ⟨Z, ι, env, st, s, re, (Post.bind p).imp fun w st1 H1 Z1 ι1 l1 s1 p1 v rv => ?_⟩
  by_cases hc : isDct (look st1 w) = true
  · rw [if_pos hc] at p1
    obtain ⟨kfs, e⟩ := isDct_some hc
    obtain ⟨a, vs, rfl, ea, rk⟩ := (rv.view s1 e).dct' s1.sub
    refine ⟨a, rfl, .inl ⟨vs, .inl ea⟩, Z1, ι1, env, st1, s1, re.mono l1, (Post.bind p1).imp fun y st2 H2 Z2 ι2 l2 s2 p2 vy ry => ?_⟩
    refine ⟨Z2, ι2, env, st2, s2, (re.mono l1).mono l2, (Post.bind p2).imp fun z st3 H3 Z3 ι3 l3 s3 p3 vz rz => ?_⟩
    exact dget2_ok s3 ((rv.mono l2).mono l3) (ry.mono l3) rz p3
  · rw [if_neg hc] at p1; exact p1.elim
theorem ve_dget2 (hu : X.A.units + 1 < cLine) (ho : VE X T E o to) (he : VE X T E e te) (hf : VE X T E f tf) (m : M2 X o "get" apos e f cpos) : VE X T E (.Call (.Attribute o "get" apos) [e, f] [] cpos) (eDGet2 to te tf) :=
  pe_weak (pe_dget2 hu ho he hf m) fun _ _ _ h => rd_dget2 h
theorem ve_dget1 (hu : X.A.units + 1 < cLine) (ho : VE X T E o to) (he : VE X T E e te) (m : M1 X o "get" apos e cpos) : VE X T E (.Call (.Attribute o "get" apos) [e] [] cpos) (eDGet1 to te) :=
  pe_weak (pe_dget1 hu ho he m) fun σ H Q h => by
    obtain ⟨Z, ι, env, st, s, re, p⟩ := rd_dget2 h
    refine ⟨Z, ι, env, st, s, re, p.imp fun w st1 H1 Z1 ι1 l1 s1 p1 v rv => ?_⟩
    obtain ⟨a, ex, d, q⟩ := p1 v rv
    refine ⟨a, ex, d, ?_⟩
    obtain ⟨Z, ι, env, st, s, re, p⟩ := q
    refine ⟨Z, ι, env, st, s, re, p.imp fun w st1 H1 Z1 ι1 l1 s1 p1 v rv => ?_⟩
    exact rd_c (x := F.non) (v := V.non) (fun Z => .non) (p1 v rv)
end
end VS

set_option Elab.async false
set_option linter.all false
set_option maxRecDepth 100000
set_option maxHeartbeats 4000000
set_option autoImplicit false
/-! M0: equality of data; loops and comprehensions over plain data; calls and the store. -/
namespace VS
open PySem PySem.Spec PyProof.Rows L2
/-! ### == of data without bools -/
mutual
def okE : Nat → F → Bool
  | _, .non => true
  | _, .int _ => true
  | _, .str s => s.all (· < 0x110000)
  | n + 1, .lst xs => okEs n xs
  | n + 1, .tup xs => okEs n xs
  | _, _ => false
def okEs : Nat → List F → Bool
  | _, [] => true
  | n, x :: xs => okE n x && okEs n xs
end
mutual
theorem okE_toD : ∀ (n : Nat) (x : F), okE n x = true → ∃ d, toD x = some d ∧ d.canLay0 = true ∧ d.depth ≤ n
  | _, .non, _ => ⟨.none, rfl, by simp [PyData.canLay0], by simp [PyData.depth]⟩
  | _, .int i, _ => ⟨.int i, rfl, by simp [PyData.canLay0], by simp [PyData.depth]⟩
  | _, .str s, h => ⟨.str (S s), rfl, by
      have h : s.all (· < 0x110000) = true := by simpa [okE] using h
      simp only [PyData.canLay0, PyData.strOk, S]
      simpa using h, by simp [PyData.depth]⟩
  | n + 1, .lst xs, h => by
    obtain ⟨ds, e, c, dp⟩ := okEs_toD n xs (by simpa [okE] using h)
    exact ⟨.list ds, by simp [toD, e], by simpa [PyData.canLay0] using c, by simp only [PyData.depth]; omega⟩
  | n + 1, .tup xs, h => by
    obtain ⟨ds, e, c, dp⟩ := okEs_toD n xs (by simpa [okE] using h)
    exact ⟨.tuple ds, by simp [toD, e], by simpa [PyData.canLay0] using c, by simp only [PyData.depth]; omega⟩
  | 0, .lst xs, h => by simp [okE] at h
  | 0, .tup xs, h => by simp [okE] at h
  | 0, .bl _, h => by simp [okE] at h
  | 0, .dct _, h => by simp [okE] at h
  | 0, .obj _ _, h => by simp [okE] at h
  | 0, .scr _, h => by simp [okE] at h
  | _ + 1, .bl _, h => by simp [okE] at h
  | _ + 1, .dct _, h => by simp [okE] at h
  | _ + 1, .obj _ _, h => by simp [okE] at h
  | _ + 1, .scr _, h => by simp [okE] at h
theorem okEs_toD : ∀ (n : Nat) (xs : List F), okEs n xs = true → ∃ ds, toDs xs = some ds ∧ PyData.canLayAll0 ds = true ∧ PyData.depthAll ds ≤ n
  | _, [], _ => ⟨[], rfl, by simp [PyData.canLayAll0], by simp [PyData.depthAll]⟩
  | n, x :: xs, h => by
    have h : okE n x = true ∧ okEs n xs = true := by simpa [okEs] using h
    obtain ⟨d, e, c, dp⟩ := okE_toD n x h.1
    obtain ⟨ds, e', c', dp'⟩ := okEs_toD n xs h.2
    exact ⟨d :: ds, by simp [toDs, e, e'], by simp [PyData.canLayAll0, c, c'], by simp only [PyData.depthAll]; omega⟩
end
mutual
theorem eqv_iff : ∀ (n m : Nat) (x y : F) (a b : PyData), okE n x = true → okE m y = true → toD x = some a → toD y = some b → (PyData.eqv a b = true ↔ x = y)
  | n, m, .non, y, a, b, hx, hy, ha, hb => by
    cases ha
    cases y with
    | non => cases hb; simp [PyData.eqv]
    | int i => cases hb; simp [PyData.eqv]
    | str s => cases hb; simp [PyData.eqv]
    | lst ys => simp only [toD] at hb; obtain ⟨ds, e, rfl⟩ := opt_map_some hb; simp [PyData.eqv]
    | tup ys => simp only [toD] at hb; obtain ⟨ds, e, rfl⟩ := opt_map_some hb; simp [PyData.eqv]
    | _ => cases m <;> simp [okE] at hy
  | n, m, .int i, y, a, b, hx, hy, ha, hb => by
    cases ha
    cases y with
    | non => cases hb; simp [PyData.eqv]
    | int i => cases hb; simp [PyData.eqv]
    | str s => cases hb; simp [PyData.eqv]
    | lst ys => simp only [toD] at hb; obtain ⟨ds, e, rfl⟩ := opt_map_some hb; simp [PyData.eqv]
    | tup ys => simp only [toD] at hb; obtain ⟨ds, e, rfl⟩ := opt_map_some hb; simp [PyData.eqv]
    | _ => cases m <;> simp [okE] at hy
  | n, m, .str s, y, a, b, hx, hy, ha, hb => by
    cases ha
    cases y with
    | non => cases hb; simp [PyData.eqv]
    | int i => cases hb; simp [PyData.eqv]
    | str t => cases hb; simp [PyData.eqv, S]
    | lst ys => simp only [toD] at hb; obtain ⟨ds, e, rfl⟩ := opt_map_some hb; simp [PyData.eqv]
    | tup ys => simp only [toD] at hb; obtain ⟨ds, e, rfl⟩ := opt_map_some hb; simp [PyData.eqv]
    | _ => cases m <;> simp [okE] at hy
  | n + 1, m, .lst xs, y, a, b, hx, hy, ha, hb => by
    simp only [toD] at ha
    obtain ⟨ds, e, rfl⟩ := opt_map_some ha
    cases y with
    | non => cases hb; simp [PyData.eqv]
    | int i => cases hb; simp [PyData.eqv]
    | str t => cases hb; simp [PyData.eqv]
    | lst ys =>
      simp only [toD] at hb
      obtain ⟨es, e', rfl⟩ := opt_map_some hb
      cases m with
      | zero => simp [okE] at hy
      | succ m =>
        have := eqvs_iff n m xs ys ds es (by simpa [okE] using hx) (by simpa [okE] using hy) e e'
        simpa [PyData.eqv] using this
    | tup ys => simp only [toD] at hb; obtain ⟨ds, e, rfl⟩ := opt_map_some hb; simp [PyData.eqv]
    | _ => cases m <;> simp [okE] at hy
  | n + 1, m, .tup xs, y, a, b, hx, hy, ha, hb => by
    simp only [toD] at ha
    obtain ⟨ds, e, rfl⟩ := opt_map_some ha
    cases y with
    | non => cases hb; simp [PyData.eqv]
    | int i => cases hb; simp [PyData.eqv]
    | str t => cases hb; simp [PyData.eqv]
    | tup ys =>
      simp only [toD] at hb
      obtain ⟨es, e', rfl⟩ := opt_map_some hb
      cases m with
      | zero => simp [okE] at hy
      | succ m =>
        have := eqvs_iff n m xs ys ds es (by simpa [okE] using hx) (by simpa [okE] using hy) e e'
        simpa [PyData.eqv] using this
    | lst ys => simp only [toD] at hb; obtain ⟨ds, e, rfl⟩ := opt_map_some hb; simp [PyData.eqv]
    | _ => cases m <;> simp [okE] at hy
  | 0, m, .lst xs, y, a, b, hx, hy, ha, hb => by simp [okE] at hx
  | 0, m, .tup xs, y, a, b, hx, hy, ha, hb => by simp [okE] at hx
  | 0, _, .bl _, _, _, _, h, _, _, _ => by simp [okE] at h
  | 0, _, .dct _, _, _, _, h, _, _, _ => by simp [okE] at h
  | 0, _, .obj _ _, _, _, _, h, _, _, _ => by simp [okE] at h
  | 0, _, .scr _, _, _, _, h, _, _, _ => by simp [okE] at h
  | _ + 1, _, .bl _, _, _, _, h, _, _, _ => by simp [okE] at h
  | _ + 1, _, .dct _, _, _, _, h, _, _, _ => by simp [okE] at h
  | _ + 1, _, .obj _ _, _, _, _, h, _, _, _ => by simp [okE] at h
  | _ + 1, _, .scr _, _, _, _, h, _, _, _ => by simp [okE] at h
theorem eqvs_iff : ∀ (n m : Nat) (xs ys : List F) (as bs : List PyData), okEs n xs = true → okEs m ys = true → toDs xs = some as → toDs ys = some bs → (PyData.eqvAll as bs = true ↔ xs = ys)
  | n, m, [], [], as, bs, hx, hy, ha, hb => by cases ha; cases hb; simp [PyData.eqvAll]
  | n, m, [], y :: ys, as, bs, hx, hy, ha, hb => by
    cases ha
    obtain ⟨d, e1, e2⟩ := opt_bind_some hb
    obtain ⟨ds, e3, rfl⟩ := opt_map_some e2
    simp [PyData.eqvAll]
  | n, m, x :: xs, [], as, bs, hx, hy, ha, hb => by
    cases hb
    obtain ⟨d, e1, e2⟩ := opt_bind_some ha
    obtain ⟨ds, e3, rfl⟩ := opt_map_some e2
    simp [PyData.eqvAll]
  | n, m, x :: xs, y :: ys, as, bs, hx, hy, ha, hb => by
    have hx : okE n x = true ∧ okEs n xs = true := by simpa [okEs] using hx
    have hy : okE m y = true ∧ okEs m ys = true := by simpa [okEs] using hy
    obtain ⟨d, e1, e2⟩ := opt_bind_some ha
    obtain ⟨ds, e3, rfl⟩ := opt_map_some e2
    obtain ⟨d', e1', e2'⟩ := opt_bind_some hb
    obtain ⟨ds', e3', rfl⟩ := opt_map_some e2'
    have h1 := eqv_iff n m x y d d' hx.1 hy.1 e1 e1'
    have h2 := eqvs_iff n m xs ys ds ds' hx.2 hy.2 e3 e3'
    simp [PyData.eqvAll, h1, h2]
end
theorem okE_shaped {n : Nat} (hn : n ≤ 64) {x : F} (h : okE n x = true) : ∃ d, toD x = some d ∧ SeqAt.shaped d = true := by
  obtain ⟨d, e, c, dp⟩ := okE_toD n x h
  exact ⟨d, e, by unfold SeqAt.shaped; rw [c]; simp; omega⟩
/-- == of such data is equality -/
theorem eqD_iff {n m : Nat} (hn : n ≤ 64) (hm : m ≤ 64) {x y : F} (hx : okE n x = true) (hy : okE m y = true) : ∃ b, eqD x y = some b ∧ (b = true ↔ x = y) := by
  obtain ⟨d, e, s⟩ := okE_shaped hn hx
  obtain ⟨d', e', s'⟩ := okE_shaped hm hy
  refine ⟨PyData.eqv d d', ?_, eqv_iff n m x y d d' hx hy e e'⟩
  unfold eqD
  simp [e, e', s, s']
theorem eqB_iff {n m : Nat} (hn : n ≤ 64) (hm : m ≤ 64) {x y : F} (hx : okE n x = true) (hy : okE m y = true) : ∃ b, eqB x y = some b ∧ (b = true ↔ x = y) := by
  unfold eqB
  split
  · exact ⟨_, rfl, by simp⟩
  · exact ⟨_, rfl, by simp⟩
  · exact ⟨_, rfl, by simp⟩
  · exact eqD_iff hn hm hx hy
open Classical in
theorem eqB_ok {n m : Nat} (hn : n ≤ 64) (hm : m ≤ 64) {x y : F} (hx : okE n x = true) (hy : okE m y = true) : eqB x y = some (decide (x = y)) := by
  obtain ⟨b, e, h⟩ := eqB_iff hn hm hx hy
  rw [e]
  congr 1
  rw [Bool.eq_iff_iff]
  simpa using h
theorem eqB_no {n m : Nat} (hn : n ≤ 64) (hm : m ≤ 64) {x y : F} (hx : okE n x = true) (hy : okE m y = true) (h : x ≠ y) : eqB x y = some false := by
  obtain ⟨b, e, h'⟩ := eqB_iff hn hm hx hy
  cases b with
  | false => exact e
  | true => exact absurd (h'.mp rfl) h
theorem eqB_yes {n : Nat} (hn : n ≤ 64) {x : F} (hx : okE n x = true) : eqB x x = some true := by
  obtain ⟨b, e, h'⟩ := eqB_iff hn hn hx hx
  rw [e, h'.mpr rfl]
theorem okEs_ints {n : Nat} : ∀ l : List Int, okEs n (l.map .int) = true
  | [] => by simp [okEs]
  | x :: l => by simp [okEs, okE, okEs_ints l]
/-! ### the store and calls -/
abbrev Cl (st : Store) : Prop := clean st.length st = true
theorem below_mono {b c : Nat} (h : b ≤ c) : ∀ {x : W}, x.below b = true → x.below c = true
  | .f _, _ => rfl
  | .loc n, q => by
    have : n < b := of_decide_eq_true q
    exact decide_eq_true (by omega)
theorem cell_below_mono {b c : Nat} (h : b ≤ c) {x : Cell} (q : x.below b = true) : x.below c = true := by
  cases x with
  | lstW xs => exact List.all_eq_true.mpr fun w hw => below_mono h (List.all_eq_true.mp q w hw)
  | ins _ fs => exact List.all_eq_true.mpr fun w hw => below_mono h (List.all_eq_true.mp q w hw)
  | _ => rfl
theorem Cl.push {st : Store} (h : Cl st) (xs : List F) : Cl (st ++ [.lstF xs]) := by
  unfold Cl clean at h ⊢
  rw [List.all_append, Bool.and_eq_true]
  refine ⟨List.all_eq_true.mpr fun c hc => cell_below_mono (by simp) (List.all_eq_true.mp h c hc), by simp [Cell.below]⟩
theorem retW_same (st : Store) (x : F) : retW st.length (.f x) st = .ok (.f x) st := by
  unfold retW
  rw [List.take_length]
  cases clean st.length st <;> rfl
theorem retW_tmp {st : Store} (h : Cl st) (x : F) (t : Store) : retW st.length (.f x) (st ++ t) = .ok (.f x) st := by
  unfold retW
  rw [List.take_left]
  rw [show clean st.length st = true from h]
theorem frz_lst {st : Store} (h : Cl st) (xs : List F) : frz st.length (.loc st.length) (st ++ [.lstF xs]) = .ok (.f (.lst xs)) st := by
  unfold frz
  have e : deepF st.length (st ++ [.lstF xs]) 3 (.loc st.length) = some (.lst xs) := by
    simp [deepF]
  rw [e]
  simp [List.take_left, show clean st.length st = true from h]
theorem frz_f {st : Store} (h : Cl st) (x : F) : frz st.length (.f x) st = .ok (.f x) st := by
  unfold frz
  simp [deepF, show clean st.length st = true from h]
/-! ### comprehensions -/
theorem doCell_app {st : Store} {acc : List F} {x : F} (hl : acc.length < 1000000) : doCell cAppend st.length [.f x] (st ++ [.lstF acc]) = .ok (.f .non) (st ++ [.lstF (acc ++ [x])]) := by
  have e : small (acc.length + 1) = true := decide_eq_true hl
  simp [doCell, cAppend, e]
/-- a comprehension whose parts leave the store alone -/
theorem lc_pure {g : TGv} {tt : TTv} {te : TEv} {env : Env} {st : Store} (f : W → F) (p : W → Bool) : ∀ (ws : List W) (acc : List F), acc.length + ws.length ≤ 1000000 →
    (∀ w ∈ ws, ∀ acc, ∃ env1, g w env = some env1 ∧ tt env1 (st ++ [.lstF acc]) = .ok (p w) (st ++ [.lstF acc]) ∧ (p w = true → te env1 (st ++ [.lstF acc]) = .ok (.f (f w)) (st ++ [.lstF acc]))) →
    lcL g tt te st.length env ws (st ++ [.lstF acc]) = .ok (.loc st.length) (st ++ [.lstF (acc ++ (ws.filter p).map f)])
  | [], acc, _, _ => by simp [lcL]
  | w :: ws, acc, hl, h => by
    obtain ⟨env1, e1, e2, e3⟩ := h w (by simp) acc
    have ih := fun (acc' : List F) (hl' : acc'.length + ws.length ≤ 1000000) => lc_pure f p ws acc' hl' fun w' hw => h w' (by simp [hw])
    simp only [List.length_cons] at hl
    unfold lcL
    simp only [e1, e2, Res.bind]
    cases hp : p w with
    | true =>
      simp only [if_true, e3 hp, doCell_app (st := st) (acc := acc) (x := f w) (by omega)]
      rw [ih (acc ++ [f w]) (by simp; omega)]
      simp [hp]
    | false =>
      simp only [Bool.false_eq_true, if_false]
      rw [ih acc (by omega)]
      simp [hp]
theorem lcf_pure {ti : TIv} {g : TGv} {tt : TTv} {te : TEv} {vs : List Nat} {env : Env} {st : Store} (hc : Cl st) (f : W → F) (p : W → Bool) {ws : List W} (hi : ti env st = .ok ws st) (hl : ws.length ≤ 1000000)
    (h : ∀ w ∈ ws, ∀ acc, ∃ env1, g w (wipeE env vs) = some env1 ∧ tt env1 (st ++ [.lstF acc]) = .ok (p w) (st ++ [.lstF acc]) ∧ (p w = true → te env1 (st ++ [.lstF acc]) = .ok (.f (f w)) (st ++ [.lstF acc]))) :
    eFrz (eLc ti g tt te vs) env st = .ok (.f (.lst ((ws.filter p).map f))) st := by
  unfold eFrz eLc
  simp only [hi, Res.bind]
  rw [lc_pure f p ws [] (by simpa using hl) h]
  simp only [Res.bind, List.nil_append]
  exact frz_lst hc _
/-- .. without a test -/
theorem lcf_map {ti : TIv} {g : TGv} {te : TEv} {vs : List Nat} {env : Env} {st : Store} (hc : Cl st) (f : W → F) {ws : List W} (hi : ti env st = .ok ws st) (hl : ws.length ≤ 1000000)
    (h : ∀ w ∈ ws, ∀ acc, ∃ env1, g w (wipeE env vs) = some env1 ∧ te env1 (st ++ [.lstF acc]) = .ok (.f (f w)) (st ++ [.lstF acc])) :
    eFrz (eLc ti g tYesV te vs) env st = .ok (.f (.lst (ws.map f))) st := by
  rw [lcf_pure hc f (fun _ => true) hi hl fun w hw acc => by
    obtain ⟨env1, e1, e2⟩ := h w hw acc
    exact ⟨env1, e1, rfl, fun _ => e2⟩]
  rw [List.filter_eq_self.mpr fun _ _ => rfl]
end VS

set_option Elab.async false
set_option linter.all false
set_option maxRecDepth 100000
set_option maxHeartbeats 4000000
set_option autoImplicit false
/-! T1: typed programs, and how mirrors refine to them: data, stores, expressions. -/
namespace TL
open VS
open L2 (atI ixN)

/-! ### data -/
class En (α : Type) where
  e : α → F
/-- one sign -/
structure Ch where
  c : Nat
deriving DecidableEq
structure T3 (α β γ : Type) where
  a : α
  b : β
  c : γ
deriving DecidableEq
structure T4 (α β γ δ : Type) where
  a : α
  b : β
  c : γ
  d : δ
deriving DecidableEq
structure T5 (α β γ δ ε : Type) where
  a : α
  b : β
  c : γ
  d : δ
  e : ε
deriving DecidableEq
/-- a tuple of any length -/
structure Tu (α : Type) where
  l : List α
deriving DecidableEq
structure Dc (κ ν : Type) where
  l : List (κ × ν)
deriving DecidableEq
/-- the script -/
structure Sc where
  l : List Int
instance : En Int := ⟨F.int⟩
instance : En Bool := ⟨F.bl⟩
instance : En Unit := ⟨fun _ => F.non⟩
instance : En F := ⟨id⟩
instance : En Ch := ⟨fun c => F.str [c.c]⟩
instance : En Sc := ⟨fun s => F.scr s.l⟩
instance {α : Type} [En α] : En (List α) := ⟨fun l => F.lst (l.map En.e)⟩
instance : En (List Nat) := ⟨F.str⟩
instance {α : Type} [En α] : En (Option α) := ⟨fun o => match o with
  | none => F.non
  | some a => En.e a⟩
instance {α β : Type} [En α] [En β] : En (α × β) := ⟨fun p => F.tup [En.e p.1, En.e p.2]⟩
instance {α β γ : Type} [En α] [En β] [En γ] : En (T3 α β γ) := ⟨fun p => F.tup [En.e p.a, En.e p.b, En.e p.c]⟩
instance {α β γ δ : Type} [En α] [En β] [En γ] [En δ] : En (T4 α β γ δ) := ⟨fun p => F.tup [En.e p.a, En.e p.b, En.e p.c, En.e p.d]⟩
instance {α β γ δ ε : Type} [En α] [En β] [En γ] [En δ] [En ε] : En (T5 α β γ δ ε) := ⟨fun p => F.tup [En.e p.a, En.e p.b, En.e p.c, En.e p.d, En.e p.e]⟩
instance {α : Type} [En α] : En (Tu α) := ⟨fun t => F.tup (t.l.map En.e)⟩
instance {κ ν : Type} [En κ] [En ν] : En (Dc κ ν) := ⟨fun d => F.dct (d.l.map fun p => (En.e p.1, En.e p.2))⟩
abbrev w_ {α : Type} [En α] (a : α) : W := W.f (En.e a)
abbrev cl_ {α : Type} [En α] (l : List α) : Cell := Cell.lstF (l.map En.e)

/-! ### programs -/
inductive O (σ α : Type) where
  | ok (a : α) (s : σ) | ex (c : Nat) (fs : List (Nat × F)) (s : σ) | no
abbrev P (α : Type) := O Unit α
def O.bind {σ α β : Type} (o : O σ α) (k : α → σ → O σ β) : O σ β := match o with
  | .ok a s => k a s
  | .ex c fs s => .ex c fs s
  | .no => .no
def O.up {σ α : Type} (p : P α) (s : σ) : O σ α := match p with
  | .ok a _ => .ok a s
  | .ex c fs _ => .ex c fs s
  | .no => .no
def ofO {σ α : Type} (o : Option α) (s : σ) : O σ α := match o with
  | some a => .ok a s
  | none => .no
theorem bind_ok {σ α β : Type} (a : α) (s : σ) (k : α → σ → O σ β) : O.bind (.ok a s) k = k a s := rfl
theorem bind_no {σ α β : Type} (k : α → σ → O σ β) : O.bind (.no : O σ α) k = .no := rfl
theorem bind_ex {σ α β : Type} (c : Nat) (fs : List (Nat × F)) (s : σ) (k : α → σ → O σ β) : O.bind (.ex c fs s) k = .ex c fs s := rfl
theorem up_ok {σ α : Type} (a : α) (u : Unit) (s : σ) : O.up (.ok a u : P α) s = .ok a s := rfl
theorem ofO_some {σ α : Type} (a : α) (s : σ) : ofO (some a) s = .ok a s := rfl
theorem bind_assoc {σ α β γ : Type} (o : O σ α) (k : α → σ → O σ β) (j : β → σ → O σ γ) : (o.bind k).bind j = o.bind fun a s => (k a s).bind j := by cases o <;> rfl
theorem bind_pure {σ α : Type} (o : O σ α) : (o.bind fun a s => .ok a s) = o := by cases o <;> rfl

/-! ### frames -/
/-- how a state stands in a store -/
structure Wr (σ : Type) where
  put : σ → Store → Store
  len : ∀ s s' r, (put s r).length = (put s' r).length
  cl : ∀ s s' r, Cl (put s r) → Cl (put s' r)
  app : ∀ s r t, put s (r ++ t) = put s r ++ t
def wU : Wr Unit := ⟨fun _ r => r, fun _ _ _ => rfl, fun _ _ _ h => h, fun _ _ _ => rfl⟩
structure Bs {σ : Type} (wr : Wr σ) where
  rest : Store
  cl : ∀ s, Cl (wr.put s rest)
  b : Nat
  len : ∀ s, (wr.put s rest).length = b
abbrev Bs.st {σ : Type} {wr : Wr σ} (B : Bs wr) (s : σ) : Store := wr.put s B.rest
def lk : List (Nat × W) → Nat → Option W
  | [], _ => none
  | (j, w) :: G, i => match Nat.beq j i with
    | true => some w
    | false => lk G i
structure Ok (b n : Nat) (G : List (Nat × W)) (cs : List (Nat × Cell)) (env : Env) (r : Store) : Prop where
  len : env.length = n
  cl : clean (b + r.length) r = true
  nd : (cs.map Prod.fst).Nodup
  cell : ∀ k c, (k, c) ∈ cs → r[k]? = some c
  var : ∀ i w, lk G i = some w → env[i]? = some (some w)
section
variable {σ : Type} {wr : Wr σ} {b n : Nat} {G G' : List (Nat × W)} {cs cs' : List (Nat × Cell)} {env : Env} {r : Store} {B : Bs wr} {s s' : σ}
theorem below_all {b c : Nat} (h : b ≤ c) {st : Store} (q : clean b st = true) : clean c st = true :=
  List.all_eq_true.mpr fun x hx => cell_below_mono h (List.all_eq_true.mp q x hx)
theorem Bs.clean (B : Bs wr) (s : σ) : clean B.b (B.st s) = true := by
  have := B.cl s
  unfold Cl at this
  rw [B.len s] at this
  exact this
theorem Ok.Cl (h : Ok B.b n G cs env r) (s : σ) : Cl (B.st s ++ r) := by
  unfold VS.Cl VS.clean
  rw [List.all_append, List.length_append, B.len s, Bool.and_eq_true]
  exact ⟨below_all (Nat.le_add_right _ _) (B.clean s), h.cl⟩
def Sub (G' G : List (Nat × W)) : Prop := ∀ i w, lk G' i = some w → lk G i = some w
theorem sub_nil : Sub [] G := fun _ _ h => by cases h
theorem sub_cons {i : Nat} {w : W} (h : lk G i = some w) (t : Sub G' G) : Sub ((i, w) :: G') G := fun j u q => by
  unfold lk at q
  cases e : Nat.beq i j with
  | true =>
    rw [e] at q
    cases q
    cases Nat.eq_of_beq_eq_true e
    exact h
  | false => rw [e] at q; exact t j u q
theorem sub_refl : Sub G G := fun _ _ h => h
theorem Ok.sub (h : Ok b n G cs env r) (hg : Sub G' G) (hc : cs'.Sublist cs) : Ok b n G' cs' env r :=
  ⟨h.len, h.cl, h.nd.sublist (hc.map _), fun k c q => h.cell k c (hc.subset q), fun i w q => h.var i w (hg i w q)⟩
theorem Ok.set (h : Ok b n G cs env r) {i : Nat} (hi : i < n) (w : W) : Ok b n ((i, w) :: G) cs (env.set i (some w)) r := by
  refine ⟨by simp [h.len], h.cl, h.nd, h.cell, fun j u q => ?_⟩
  unfold lk at q
  cases e : Nat.beq i j with
  | true =>
    rw [e] at q
    cases q
    cases Nat.eq_of_beq_eq_true e
    exact List.getElem?_set_self (by rw [h.len]; exact hi)
  | false =>
    rw [e] at q
    have hij : i ≠ j := fun z => by subst z; rw [Nat.beq_refl] at e; cases e
    rw [List.getElem?_set_ne hij]
    exact h.var j u q
/-- a cell more, behind all -/
theorem Ok.push (h : Ok b n G cs env r) {c : Cell} (hc : c.below (b + r.length) = true) : Ok b n G cs env (r ++ [c]) := by
  refine ⟨h.len, ?_, h.nd, fun k d q => ?_, h.var⟩
  · unfold clean
    rw [List.all_append, Bool.and_eq_true]
    refine ⟨below_all (by simp) h.cl, ?_⟩
    simp only [List.all_cons, List.all_nil, Bool.and_true]
    exact cell_below_mono (by simp) hc
  · exact get_app (h.cell k d q)
theorem Ok.cell_lt (h : Ok b n G cs env r) {k : Nat} {c : Cell} (q : (k, c) ∈ cs) : k < r.length := (List.getElem?_eq_some_iff.mp (h.cell k c q)).1
theorem Ok.pop (h : Ok b n G cs env (r ++ [.dead])) : True := trivial
theorem Ok.new (h : Ok b n G cs env r) {c : Cell} (hc : c.below (b + r.length) = true) : Ok b n G ((r.length, c) :: cs) env (r ++ [c]) := by
  have p := h.push hc
  refine ⟨p.len, p.cl, ?_, fun k d q => ?_, p.var⟩
  · rw [List.map_cons, List.nodup_cons]
    refine ⟨fun hm => ?_, h.nd⟩
    obtain ⟨⟨k, d⟩, hkd, e⟩ := List.mem_map.mp hm
    have := h.cell_lt hkd
    have e : k = r.length := e
    omega
  · rcases List.mem_cons.mp q with q | q
    · cases q
      exact last_get _ _
    · exact p.cell k d q
theorem nodup_set_fst {cs : List (Nat × Cell)} {p k : Nat} {c c' : Cell} (hp : cs[p]? = some (k, c)) : (cs.set p (k, c')).map Prod.fst = cs.map Prod.fst := by
  apply List.ext_getElem?
  intro j
  rw [List.getElem?_map, List.getElem?_map, List.getElem?_set]
  by_cases hj : p = j
  · subst hj
    obtain ⟨hl, e⟩ := List.getElem?_eq_some_iff.mp hp
    simp [hl, hp, e]
  · simp [hj]
/-- the cell at place p of cs is changed -/
theorem Ok.write (h : Ok b n G cs env r) {p k : Nat} {c c' : Cell} (hp : cs[p]? = some (k, c)) (hc : c'.below (b + r.length) = true) : Ok b n G (cs.set p (k, c')) env (r.set k c') := by
  have hm : (k, c) ∈ cs := List.mem_of_getElem? hp
  have hk := h.cell_lt hm
  refine ⟨h.len, ?_, by rw [nodup_set_fst hp]; exact h.nd, fun j d q => ?_, h.var⟩
  · rw [List.length_set]
    refine List.all_eq_true.mpr fun x hx => ?_
    rcases List.mem_or_eq_of_mem_set hx with hx | hx
    · exact List.all_eq_true.mp h.cl x hx
    · subst hx; exact hc
  · obtain ⟨i, hi, e⟩ := List.getElem_of_mem q
    rw [List.length_set] at hi
    rw [List.getElem_set] at e
    by_cases hpi : p = i
    · rw [if_pos hpi] at e
      cases e
      rw [List.getElem?_set_self hk]
    · rw [if_neg hpi] at e
      have hjk : k ≠ j := fun z => by
        subst z
        have hpl := (List.getElem?_eq_some_iff.mp hp).1
        have e1 : (cs.map Prod.fst)[p]? = some k := by rw [List.getElem?_map, hp]; rfl
        have e2 : (cs.map Prod.fst)[i]? = some k := by rw [List.getElem?_map, List.getElem?_eq_getElem hi, e]; rfl
        obtain ⟨l1, e1⟩ := List.getElem?_eq_some_iff.mp e1
        obtain ⟨l2, e2⟩ := List.getElem?_eq_some_iff.mp e2
        exact hpi ((List.getElem_inj h.nd).mp (e1.trans e2.symm))
      rw [List.getElem?_set_ne hjk]
      exact h.cell j d (e ▸ List.getElem_mem hi)
theorem st_get (B : Bs wr) (s : σ) (r : Store) (k : Nat) : (B.st s ++ r)[B.b + k]? = r[k]? := by
  rw [List.getElem?_append_right (by rw [B.len s]; omega), B.len s]
  congr 1
  omega
theorem st_set (B : Bs wr) (s : σ) (r : Store) (k : Nat) (c : Cell) : (B.st s ++ r).set (B.b + k) c = B.st s ++ r.set k c := by
  rw [List.set_append_right _ _ (by rw [B.len s]; omega), B.len s]
  congr 2
  omega
theorem st_len (B : Bs wr) (s : σ) (r : Store) : (B.st s ++ r).length = B.b + r.length := by rw [List.length_append, B.len s]
theorem st_take (B : Bs wr) (s : σ) (r t : Store) : (B.st s ++ (r ++ t)).take (B.b + r.length) = B.st s ++ r := by
  rw [← List.append_assoc, ← st_len B s r, List.take_left]
end

/-! ### the judgements of expressions -/
section
variable {σ α β γ : Type} {wr : Wr σ}
/-- of a store's upper part: as long, and as clean -/
structure Pr (r r' : Store) : Prop where
  len : r'.length = r.length
  cl : ∀ b, clean b r = true → clean b r' = true
theorem Pr.refl {r : Store} : Pr r r := ⟨rfl, fun _ h => h⟩
theorem Pr.trans {r r1 r2 : Store} (a : Pr r r1) (b : Pr r1 r2) : Pr r r2 := ⟨b.len.trans a.len, fun c h => b.cl c (a.cl c h)⟩
theorem Pr.set {r : Store} {k : Nat} {c : Cell} (h : ∀ b, c.below b = true) : Pr r (r.set k c) := ⟨by simp, fun b q => List.all_eq_true.mpr fun x hx => by
  rcases List.mem_or_eq_of_mem_set hx with hx | hx
  · exact List.all_eq_true.mp q x hx
  · subst hx; exact h b⟩
def Rl (B : Bs wr) (n : Nat) (G : List (Nat × W)) (cs : List (Nat × Cell)) (env : Env) (r0 : Store) (f : α → β) (x : Res β) (o : O σ α) : Prop := match o with
  | .ok a s' => ∃ r', x = .ok (f a) (B.st s' ++ r') ∧ Ok B.b n G cs env r' ∧ Pr r0 r'
  | .ex c fs s' => ∃ r', x = .exc c fs (B.st s' ++ r') ∧ Ok B.b n G [] env r'
  | .no => True
def E [En α] (B : Bs wr) (n : Nat) (G : List (Nat × W)) (cs cs' : List (Nat × Cell)) (t : TEv) (s : σ) (o : O σ α) : Prop :=
  ∀ env r, Ok B.b n G cs env r → Rl B n G cs' env r (fun a => w_ a) (t env (B.st s ++ r)) o
def ET (B : Bs wr) (n : Nat) (G : List (Nat × W)) (cs cs' : List (Nat × Cell)) (t : TTv) (s : σ) (o : O σ Bool) : Prop :=
  ∀ env r, Ok B.b n G cs env r → Rl B n G cs' env r (fun a => a) (t env (B.st s ++ r)) o
/-- the words of an iterable -/
def EI [En α] (B : Bs wr) (n : Nat) (G : List (Nat × W)) (cs cs' : List (Nat × Cell)) (t : TIv) (s : σ) (o : O σ (List α)) : Prop :=
  ∀ env r, Ok B.b n G cs env r → Rl B n G cs' env r (fun l => l.map fun a => w_ a) (t env (B.st s ++ r)) o
/-- what is looked at: data, or a list's cell -/
def EL [En α] (B : Bs wr) (n : Nat) (G : List (Nat × W)) (cs cs' : List (Nat × Cell)) (t : TEv) (s : σ) (o : O σ α) : Prop :=
  ∀ env r, Ok B.b n G cs env r → match o with
    | .ok a s' => ∃ w r', t env (B.st s ++ r) = .ok w (B.st s' ++ r') ∧ Ok B.b n G cs' env r' ∧ Pr r r' ∧ ∀ s'' r'' env'', Ok B.b n G cs' env'' r'' → look (B.st s'' ++ r'') w = some (En.e a)
    | .ex c fs s' => ∃ r', t env (B.st s ++ r) = .exc c fs (B.st s' ++ r') ∧ Ok B.b n G [] env r'
    | .no => True
class Ar (A : Type) where
  ws : A → List W
instance : Ar Unit := ⟨fun _ => []⟩
instance {α A : Type} [En α] [Ar A] : Ar (α × A) := ⟨fun p => w_ p.1 :: Ar.ws p.2⟩
/-- a place in the store -/
structure Rf where
  k : Nat
instance {A : Type} [Ar A] : Ar (Rf × A) := ⟨fun p => W.loc p.1.k :: Ar.ws p.2⟩
/-- the members of a list display -/
instance {α : Type} [En α] : Ar (List α) := ⟨fun l => l.map fun a => w_ a⟩
def EA0 {A : Type} [Ar A] (B : Bs wr) (n : Nat) (G : List (Nat × W)) (cs cs' : List (Nat × Cell)) (t : TAv) (s : σ) (o : O σ A) : Prop :=
  ∀ env r, Ok B.b n G cs env r → Rl B n G cs' env r (fun x => Ar.ws x) (t env (B.st s ++ r)) o
/-- arguments, by what goes on with them -/
def EA {A : Type} [Ar A] (B : Bs wr) (n : Nat) (G : List (Nat × W)) (cs cs' : List (Nat × Cell)) (t : TAv) (s : σ) (q : (β : Type) → (A → σ → O σ β) → O σ β) : Prop :=
  ∃ o, EA0 B n G cs cs' t s o ∧ ∀ β k, q β k = o.bind k
end
section
variable {σ α β γ δ : Type} {wr : Wr σ} {B : Bs wr} {n : Nat} {G : List (Nat × W)} {cs cs1 cs2 cs3 : List (Nat × Cell)} {env : Env} {r0 : Store} {s : σ}
theorem Rl.bind {f : α → β} {g : γ → δ} {x : Res β} {o : O σ α} {k : β → Store → Res δ} {k' : α → σ → O σ γ} (h : Rl B n G cs1 env r0 f x o)
    (hk : ∀ a s' r', o = .ok a s' → Ok B.b n G cs1 env r' → Pr r0 r' → Rl B n G cs2 env r0 g (k (f a) (B.st s' ++ r')) (k' a s')) : Rl B n G cs2 env r0 g (x.bind k) (o.bind k') := by
  cases o with
  | ok a s' =>
    obtain ⟨r', rfl, ok, hl⟩ := h
    exact hk a s' r' rfl ok hl
  | ex c fs s' => obtain ⟨r', rfl, ok⟩ := h; exact ⟨r', rfl, ok⟩
  | no => trivial
theorem Rl.up {f : α → β} {x : Res β} {o : O σ α} {r1 : Store} (p : Pr r0 r1) (h : Rl B n G cs env r1 f x o) : Rl B n G cs env r0 f x o := by
  cases o with
  | ok a s' => obtain ⟨r', e, k, q⟩ := h; exact ⟨r', e, k, p.trans q⟩
  | ex c fs s' => exact h
  | no => trivial
theorem Rl.mk {f : α → β} {x : Res β} {a : α} {r : Store} (e : x = .ok (f a) (B.st s ++ r)) (ok : Ok B.b n G cs env r) (hl : Pr r0 r) : Rl B n G cs env r0 f x (.ok a s) := ⟨r, e, ok, hl⟩
theorem Rl.opt {f : α → β} {x : Res β} {o : Option α} {r : Store} (e : ∀ a, o = some a → x = .ok (f a) (B.st s ++ r)) (ok : Ok B.b n G cs env r) (hl : Pr r0 r) : Rl B n G cs env r0 f x (ofO o s) := by
  cases o with
  | none => trivial
  | some a => exact ⟨r, e a rfl, ok, hl⟩
variable [En α] [En β] [En γ] [En δ] {ta tb tc te : TEv} {o : O σ α} {o1 : O σ α} {o2 : σ → O σ β} {o3 : σ → O σ γ}
theorem E.el (h : E B n G cs cs1 te s o) : EL B n G cs cs1 te s o := fun env r k => by
  have q := h env r k
  cases o with
  | ok a s' => obtain ⟨r', e, ok, hl⟩ := q; exact ⟨_, r', e, ok, hl, fun _ _ _ _ => rfl⟩
  | ex c fs s' => exact q
  | no => trivial
theorem EL.bind {γ' δ' : Type} {g : γ' → δ'} {k : W → Store → Res δ'} {k' : α → σ → O σ γ'} {env : Env} {r : Store} (h : EL B n G cs cs1 te s o) (ok : Ok B.b n G cs env r)
    (hk : ∀ a s' w r', Ok B.b n G cs1 env r' → Pr r r' → (∀ s'' r'' env'', Ok B.b n G cs1 env'' r'' → look (B.st s'' ++ r'') w = some (En.e a)) → Rl B n G cs2 env r g (k w (B.st s' ++ r')) (k' a s')) :
    Rl B n G cs2 env r g ((te env (B.st s ++ r)).bind k) (o.bind k') := by
  have q := h env r ok
  cases o with
  | ok a s' =>
    obtain ⟨w, r', e, ok', hl, hw⟩ := q
    rw [e]
    exact hk a s' w r' ok' hl hw
  | ex c fs s' => obtain ⟨r', e, ok'⟩ := q; rw [e]; exact ⟨r', rfl, ok'⟩
  | no => trivial
/-! names and constants -/
theorem e_var {i : Nat} {a : α} (h : lk G i = some (w_ a)) : E B n G cs cs (eVar i) s (.ok a s) := fun env r k => by
  refine Rl.mk ?_ k .refl
  unfold eVar
  rw [k.var i _ h]
theorem el_cell {i k : Nat} {l : List α} (h : lk G i = some (.loc (B.b + k))) (hc : (k, cl_ l) ∈ cs) : EL B n G cs cs (eVar i) s (.ok l s) := fun env r ok => by
  refine ⟨.loc (B.b + k), r, ?_, ok, .refl, fun s2 r2 env2 ok2 => ?_⟩
  · unfold eVar
    rw [ok.var i _ h]
  · show lookC (B.st s2 ++ r2)[B.b + k]? = _
    rw [st_get, ok2.cell _ _ hc]
    rfl
theorem e_c {x : F} {a : α} (h : x = En.e a) : E B n G cs cs (eC x) s (.ok a s) := fun env r k => by
  subst h
  exact Rl.mk rfl k .refl
theorem e_int {i : Int} : E B n G cs cs (eC (.int i)) s (.ok i s) := e_c rfl
theorem e_bl {i : Bool} : E B n G cs cs (eC (.bl i)) s (.ok i s) := e_c rfl
theorem e_str {i : List Nat} : E B n G cs cs (eC (.str i)) s (.ok i s) := e_c rfl
theorem e_chr {i : Nat} : E B n G cs cs (eC (.str [i])) s (.ok (Ch.mk i) s) := e_c rfl
theorem e_non : E B n G cs cs (eC .non) s (.ok () s) := e_c rfl
theorem e_nonO : E B n G cs cs (eC .non) s (.ok (none : Option α) s) := e_c rfl
/-- another type for the same data -/
theorem e_co {f : α → β} (hf : ∀ a, En.e (f a) = En.e a) (h : E B n G cs cs1 te s o) : E B n G cs cs1 te s (o.bind fun a s1 => .ok (f a) s1) := fun env r k => by
  have q := h env r k
  cases o with
  | ok a s' =>
    obtain ⟨r', e, ok, hl⟩ := q
    exact ⟨r', by rw [e]; show Res.ok (W.f (En.e a)) _ = .ok (W.f (En.e (f a))) _; rw [hf], ok, hl⟩
  | ex c fs s' => exact q
  | no => trivial
theorem co_any : ∀ a : α, (En.e (En.e a : F) : F) = En.e a := fun _ => rfl
theorem co_some : ∀ a : α, (En.e (some a) : F) = En.e a := fun _ => rfl
theorem co_chr : ∀ a : Ch, (En.e [a.c] : F) = En.e a := fun _ => rfl
/-- a partial change of type -/
theorem e_cop {f : α → Option β} (hf : ∀ a b, f a = some b → En.e b = En.e a) (h : E B n G cs cs1 te s o) : E B n G cs cs1 te s (o.bind fun a s1 => ofO (f a) s1) := fun env r k => by
  have q := h env r k
  cases o with
  | ok a s' =>
    obtain ⟨r', e, ok, hl⟩ := q
    refine Rl.opt (r := r') (fun b hb => ?_) ok hl
    rw [e]; show Res.ok (W.f (En.e a)) _ = .ok (W.f (En.e b)) _; rw [hf a b hb]
  | ex c fs s' => exact q
  | no => trivial
theorem co_get : ∀ (a : Option α) (b : α), a = some b → (En.e b : F) = En.e a := fun _ _ h => by rw [h]; rfl
/-! operators -/
def Op2T (g : F → F → Option F) (op : α → β → Option γ) : Prop := ∀ a b c, op a b = some c → g (En.e a) (En.e b) = some (En.e c)
def Op1T (g : F → Option F) (op : α → Option γ) : Prop := ∀ a c, op a = some c → g (En.e a) = some (En.e c)
theorem e_op2 {g : F → F → Option F} {op : α → β → Option γ} (hg : Op2T g op) (h1 : EL B n G cs cs1 ta s o1) (h2 : ∀ s1, EL B n G cs1 cs1 tb s1 (o2 s1)) :
    E B n G cs cs1 (eOp2 g ta tb) s (o1.bind fun a s1 => (o2 s1).bind fun b s2 => ofO (op a b) s2) := fun env r k => by
  refine h1.bind k fun a s1 w r1 k1 hl1 hw => ?_
  refine Rl.up hl1 ?_
  refine (h2 s1).bind k1 fun b s2 u r2 k2 hl2 hu => ?_
  refine Rl.opt (fun c hc => ?_) k2 hl2
  show lk2 g w u _ = _
  unfold lk2
  rw [hw s2 r2 env k2, hu s2 r2 env k2]
  show ofOpt (g (En.e a) (En.e b)) _ = _
  rw [hg a b c hc]
  rfl
theorem e_op1 {g : F → Option F} {op : α → Option γ} (hg : Op1T g op) (h1 : EL B n G cs cs1 ta s o1) :
    E B n G cs cs1 (eOp1 g ta) s (o1.bind fun a s1 => ofO (op a) s1) := fun env r k => by
  refine h1.bind k fun a s1 w r1 k1 hl1 hw => ?_
  refine Rl.opt (fun c hc => ?_) k1 hl1
  show lk1 g w _ = _
  unfold lk1
  rw [hw s1 r1 env k1]
  show ofOpt (g (En.e a)) _ = _
  rw [hg a c hc]
  rfl
/-! tests -/
variable {wa wb : TTv} {p1 : O σ Bool} {p2 : σ → O σ Bool}
theorem t_val {o : O σ Bool} (h : E B n G cs cs1 te s o) : ET B n G cs cs1 (tVal te) s o := fun env r k => by
  have q := h env r k
  show Rl _ _ _ _ _ _ _ ((te env (B.st s ++ r)).bind fun w st1 => asB w st1) o
  cases o with
  | ok a s' => obtain ⟨r', e, ok, hl⟩ := q; rw [e]; exact ⟨r', rfl, ok, hl⟩
  | ex c fs s' => obtain ⟨r', e, ok⟩ := q; rw [e]; exact ⟨r', rfl, ok⟩
  | no => trivial
theorem t_and (h1 : ET B n G cs cs1 wa s p1) (h2 : ∀ s1, ET B n G cs1 cs1 wb s1 (p2 s1)) : ET B n G cs cs1 (tAndV wa wb) s (p1.bind fun b s1 => if b = true then p2 s1 else .ok false s1) := fun env r k => by
  refine (h1 env r k).bind fun b s1 r1 _ k1 hl => ?_
  refine Rl.up hl ?_
  cases b with
  | true => exact h2 s1 env r1 k1
  | false => exact Rl.mk rfl k1 .refl
theorem t_or (h1 : ET B n G cs cs1 wa s p1) (h2 : ∀ s1, ET B n G cs1 cs1 wb s1 (p2 s1)) : ET B n G cs cs1 (tOrV wa wb) s (p1.bind fun b s1 => if b = true then .ok true s1 else p2 s1) := fun env r k => by
  refine (h1 env r k).bind fun b s1 r1 _ k1 hl => ?_
  refine Rl.up hl ?_
  cases b with
  | true => exact Rl.mk rfl k1 .refl
  | false => exact h2 s1 env r1 k1
theorem t_andT {a b : Bool} (h1 : ET B n G cs cs wa s (.ok a s)) (h2 : ∀ s1, ET B n G cs cs wb s1 (.ok b s1)) : ET B n G cs cs (tAndV wa wb) s (.ok (a && b) s) := fun env r k => by
  have q := t_and h1 h2 env r k
  cases a <;> exact q
theorem t_orT {a b : Bool} (h1 : ET B n G cs cs wa s (.ok a s)) (h2 : ∀ s1, ET B n G cs cs wb s1 (.ok b s1)) : ET B n G cs cs (tOrV wa wb) s (.ok (a || b) s) := fun env r k => by
  have q := t_or h1 h2 env r k
  cases a <;> exact q
theorem t_not (h1 : ET B n G cs cs1 wa s p1) : ET B n G cs cs1 (tNotV wa) s (p1.bind fun b s1 => .ok (!b) s1) := fun env r k => by
  refine (h1 env r k).bind fun b s1 r1 _ k1 hl => ?_
  exact Rl.mk rfl k1 hl
theorem e_and {o1 : O σ Bool} {o2 : σ → O σ Bool} (h1 : E B n G cs cs1 ta s o1) (h2 : ∀ s1, E B n G cs1 cs1 tb s1 (o2 s1)) : E B n G cs cs1 (eAnd ta tb) s (o1.bind fun b s1 => if b = true then o2 s1 else .ok false s1) := fun env r k => by
  refine (h1 env r k).bind fun b s1 r1 _ k1 hl => ?_
  refine Rl.up hl ?_
  cases b with
  | true => exact h2 s1 env r1 k1
  | false => exact Rl.mk rfl k1 .refl
theorem e_or {o1 : O σ Bool} {o2 : σ → O σ Bool} (h1 : E B n G cs cs1 ta s o1) (h2 : ∀ s1, E B n G cs1 cs1 tb s1 (o2 s1)) : E B n G cs cs1 (eOr ta tb) s (o1.bind fun b s1 => if b = true then .ok true s1 else o2 s1) := fun env r k => by
  refine (h1 env r k).bind fun b s1 r1 _ k1 hl => ?_
  refine Rl.up hl ?_
  cases b with
  | true => exact Rl.mk rfl k1 .refl
  | false => exact h2 s1 env r1 k1
theorem e_andT {a b : Bool} (h1 : E B n G cs cs ta s (.ok a s)) (h2 : ∀ s1, E B n G cs cs tb s1 (.ok b s1)) : E B n G cs cs (eAnd ta tb) s (.ok (a && b) s) := fun env r k => by
  have q := e_and h1 h2 env r k
  cases a <;> exact q
theorem e_orT {a b : Bool} (h1 : E B n G cs cs ta s (.ok a s)) (h2 : ∀ s1, E B n G cs cs tb s1 (.ok b s1)) : E B n G cs cs (eOr ta tb) s (.ok (a || b) s) := fun env r k => by
  have q := e_or h1 h2 env r k
  cases a <;> exact q
theorem e_not {o1 : O σ Bool} (h1 : E B n G cs cs1 ta s o1) : E B n G cs cs1 (eNot ta) s (o1.bind fun b s1 => .ok (!b) s1) := fun env r k => by
  refine (h1 env r k).bind fun b s1 r1 _ k1 hl => ?_
  exact Rl.mk rfl k1 hl
theorem e_if {o1 o2 : σ → O σ α} (h : ET B n G cs cs1 wa s p1) (h1 : ∀ s1, E B n G cs1 cs2 ta s1 (o1 s1)) (h2 : ∀ s1, E B n G cs1 cs2 tb s1 (o2 s1)) : E B n G cs cs2 (eIf wa ta tb) s (p1.bind fun b s1 => if b = true then o1 s1 else o2 s1) := fun env r k => by
  refine (h env r k).bind fun b s1 r1 _ k1 hl => ?_
  refine Rl.up hl ?_
  cases b with
  | true => exact h1 s1 env r1 k1
  | false => exact h2 s1 env r1 k1
theorem e_ifT' {b : Bool} {x y : α} (h : ET B n G cs cs wa s (.ok b s)) (h1 : ∀ s1, E B n G cs cs ta s1 (.ok x s1)) (h2 : ∀ s1, E B n G cs cs tb s1 (.ok y s1)) : E B n G cs cs (eIf wa ta tb) s (.ok (if b = true then x else y) s) := fun env r k => by
  have q := e_if h h1 h2 env r k
  cases b <;> exact q
theorem e_ifT {o : O σ α} (h : ET B n G cs cs1 wa s (.ok true s)) (h1 : E B n G cs1 cs2 ta s o) : E B n G cs cs2 (eIf wa ta tb) s o := fun env r k => by
  obtain ⟨r1, e, k1, hl⟩ := h env r k
  show Rl _ _ _ _ _ _ _ ((wa env (B.st s ++ r)).bind _) o
  rw [e]
  refine Rl.up hl ?_
  exact h1 env r1 k1
theorem e_ifF {o : O σ α} (h : ET B n G cs cs1 wa s (.ok false s)) (h1 : E B n G cs1 cs2 tb s o) : E B n G cs cs2 (eIf wa ta tb) s o := fun env r k => by
  obtain ⟨r1, e, k1, hl⟩ := h env r k
  show Rl _ _ _ _ _ _ _ ((wa env (B.st s ++ r)).bind _) o
  rw [e]
  refine Rl.up hl ?_
  exact h1 env r1 k1
/-- a < b < c -/
theorem e_chain {g g' : F → F → Option F} {op : α → β → Option Bool} {op' : β → γ → Option Bool} (hg : Op2T g op) (hg' : Op2T g' op') (h1 : E B n G cs cs1 ta s o1) (h2 : ∀ s1, E B n G cs1 cs1 tb s1 (o2 s1)) (h3 : ∀ s1, E B n G cs1 cs1 tc s1 (o3 s1)) :
    E B n G cs cs1 (eChain g g' ta tb tc) s (o1.bind fun a s1 => (o2 s1).bind fun b s2 => (ofO (op a b) s2).bind fun k s3 => if k = true then (o3 s3).bind fun c s4 => ofO (op' b c) s4 else .ok false s3) := fun env r k => by
  refine (h1 env r k).bind fun a s1 r1 _ k1 hl1 => ?_
  refine Rl.up hl1 ?_
  refine (h2 s1 env r1 k1).bind fun b s2 r2 _ k2 hl2 => ?_
  refine Rl.up hl2 ?_
  cases q : op a b with
  | none => trivial
  | some v =>
    have e : lk2 g (w_ a) (w_ b) (B.st s2 ++ r2) = .ok (w_ v) (B.st s2 ++ r2) := by
      show ofOpt (g (En.e a) (En.e b)) _ = _
      rw [hg a b v q]; rfl
    show Rl _ _ _ _ _ _ _ ((lk2 g (w_ a) (w_ b) (B.st s2 ++ r2)).bind _) _
    rw [e]
    cases v with
    | false => exact Rl.mk rfl k2 .refl
    | true =>
      refine (h3 s2 env r2 k2).bind fun c s4 r4 _ k4 hl4 => ?_
      refine Rl.opt (fun d hd => ?_) k4 hl4
      show ofOpt (g' (En.e b) (En.e c)) _ = _
      rw [hg' b c d hd]; rfl
theorem e_chainT {g g' : F → F → Option F} {op : α → β → Bool} {op' : β → γ → Bool} {a : α} {b : β} {c : γ} (hg : Op2T g fun x y => some (op x y)) (hg' : Op2T g' fun x y => some (op' x y)) (h1 : E B n G cs cs ta s (.ok a s)) (h2 : ∀ s1, E B n G cs cs tb s1 (.ok b s1)) (h3 : ∀ s1, E B n G cs cs tc s1 (.ok c s1)) :
    E B n G cs cs (eChain g g' ta tb tc) s (.ok (op a b && op' b c) s) := fun env r k => by
  have q := e_chain hg hg' h1 h2 h3 env r k
  have q : Rl B n G cs env r (fun a => w_ a) (eChain g g' ta tb tc env (B.st s ++ r)) (if op a b = true then .ok (op' b c) s else .ok false s) := q
  cases e : op a b with
  | true => rw [e] at q; exact q
  | false => rw [e] at q; exact q
/-! arguments -/
variable {A : Type} [Ar A] {tr : TAv}
theorem a_nil : EA B n G cs cs aNil s (fun _ k => k () s) := ⟨.ok () s, fun env r k => Rl.mk rfl k .refl, fun _ _ => rfl⟩
theorem a_cons {q : σ → (β : Type) → (A → σ → O σ β) → O σ β} (h1 : E B n G cs cs1 ta s o1) (h2 : ∀ s1, EA B n G cs1 cs2 tr s1 (q s1)) : EA B n G cs cs2 (aCons ta tr) s (fun β k => o1.bind fun a s1 => q s1 β fun x s2 => k (a, x) s2) := by
  obtain ⟨oa, h3⟩ := Classical.axiomOfChoice h2
  refine ⟨o1.bind fun a s1 => (oa s1).bind fun x s2 => .ok (a, x) s2, fun env r k => ?_, fun β k => ?_⟩
  · refine (h1 env r k).bind fun a s1 r1 _ k1 hl1 => ?_
    refine Rl.up hl1 ?_
    refine ((h3 s1).1 env r1 k1).bind fun x s2 r2 _ k2 hl2 => ?_
    exact Rl.mk rfl k2 hl2
  · simp only [(h3 _).2, bind_assoc, bind_ok]
theorem a_ref {i k : Nat} {q : (β : Type) → (A → σ → O σ β) → O σ β} (h : lk G i = some (.loc k)) (h2 : EA B n G cs cs2 tr s q) : EA B n G cs cs2 (aCons (eVar i) tr) s (fun β kk => q β fun x s2 => kk (Rf.mk k, x) s2) := by
  obtain ⟨oa, h3, h4⟩ := h2
  refine ⟨oa.bind fun x s2 => .ok (Rf.mk k, x) s2, fun env r q => ?_, fun β k => ?_⟩
  · have e : eVar i env (B.st s ++ r) = .ok (.loc k) (B.st s ++ r) := by
      unfold eVar
      rw [q.var i _ h]
    unfold aCons
    rw [e]
    refine (h3 env r q).bind fun x s2 r2 _ k2 hl2 => ?_
    exact Rl.mk rfl k2 hl2
  · simp only [h4, bind_assoc, bind_ok]
theorem al_nil : EA B n G cs cs aNil s (fun _ k => k ([] : List α) s) := ⟨.ok [] s, fun env r k => Rl.mk rfl k .refl, fun _ _ => rfl⟩
theorem al_cons {q : σ → (β : Type) → (List α → σ → O σ β) → O σ β} (h1 : E B n G cs cs1 ta s o1) (h2 : ∀ s1, EA B n G cs1 cs2 tr s1 (q s1)) : EA B n G cs cs2 (aCons ta tr) s (fun β k => o1.bind fun a s1 => q s1 β fun x s2 => k (a :: x) s2) := by
  obtain ⟨oa, h3⟩ := Classical.axiomOfChoice h2
  refine ⟨o1.bind fun a s1 => (oa s1).bind fun x s2 => .ok (a :: x) s2, fun env r k => ?_, fun β k => ?_⟩
  · refine (h1 env r k).bind fun a s1 r1 _ k1 hl1 => ?_
    refine Rl.up hl1 ?_
    refine ((h3 s1).1 env r1 k1).bind fun x s2 r2 _ k2 hl2 => ?_
    exact Rl.mk rfl k2 hl2
  · simp only [(h3 _).2, bind_assoc, bind_ok]
/-- a whole list in its place -/
theorem al_star {q : σ → (β : Type) → (List α → σ → O σ β) → O σ β} {ol : O σ (List α)} (h1 : EL B n G cs cs1 ta s ol) (h2 : ∀ s1, EA B n G cs1 cs1 tr s1 (q s1)) : EA B n G cs cs1 (aStar ta tr) s (fun β k => ol.bind fun a s1 => q s1 β fun x s2 => k (a ++ x) s2) := by
  obtain ⟨oa, h3⟩ := Classical.axiomOfChoice h2
  refine ⟨ol.bind fun a s1 => (oa s1).bind fun x s2 => .ok (a ++ x) s2, fun env r k => ?_, fun β k => ?_⟩
  · have q := h1 env r k
    cases ol with
    | no => trivial
    | ex c fs s' => obtain ⟨r', e, ok'⟩ := q; show Rl _ _ _ _ _ _ _ ((ta env (B.st s ++ r)).bind _) _; rw [e]; exact ⟨r', rfl, ok'⟩
    | ok l s1 =>
      obtain ⟨w, r', e, ok', hl, hw⟩ := q
      show Rl _ _ _ _ _ _ _ ((ta env (B.st s ++ r)).bind _) _
      rw [e]
      show Rl _ _ _ _ _ _ _ (match (look (B.st s1 ++ r') w).bind starL with
        | some xs => (tr env (B.st s1 ++ r')).bind fun ws st2 => .ok (xs.map W.f ++ ws) st2
        | none => .stuck) _
      rw [hw s1 r' env ok']
      show Rl _ _ _ _ _ _ _ ((tr env (B.st s1 ++ r')).bind fun ws st2 => .ok ((l.map En.e).map W.f ++ ws) st2) _
      refine Rl.up hl ?_
      refine ((h3 s1).1 env r' ok').bind fun x s2 r2 _ k2 hl2 => ?_
      exact Rl.mk (by show Res.ok _ _ = Res.ok ((l ++ x).map fun a => w_ a) _; simp [w_, Ar.ws]) k2 hl2
  · simp only [(h3 _).2, bind_assoc, bind_ok]
def lstO (l : List α) (s : σ) : O σ (List α) := ofO (if small l.length = true then some l else none) s
theorem allF_w (l : List α) : allF (l.map fun a => w_ a) = some (l.map En.e) := by
  have := allF_map (l.map (En.e (α := α)))
  rw [List.map_map] at this
  exact this
theorem e_lst {q : (β : Type) → (List α → σ → O σ β) → O σ β} (h : EA B n G cs cs1 tr s q) : E B n G cs cs1 (eLst tr) s (q _ fun l s1 => lstO l s1) := fun env r k => by
  obtain ⟨ol, h, hq⟩ := h
  rw [hq]
  refine (h env r k).bind fun l s1 r1 _ k1 hl => ?_
  refine Rl.opt (fun l' hl' => ?_) k1 hl
  obtain ⟨hs, e⟩ := ifSome hl'
  subst e
  show (match allF (l.map fun a => w_ a) with
    | some xs => if small xs.length = true then Res.ok (W.f (F.lst xs)) _ else .stuck
    | none => .stuck) = _
  rw [allF_w]
  simp only [List.length_map]
  rw [if_pos hs]
  rfl
def tupO (l : List α) (s : σ) : O σ (Tu α) := ofO (if small l.length = true then some (Tu.mk l) else none) s
theorem e_tupS {q : (β : Type) → (List α → σ → O σ β) → O σ β} (h : EA B n G cs cs1 tr s q) : E B n G cs cs1 (eTup tr) s (q _ fun l s1 => tupO l s1) := fun env r k => by
  obtain ⟨ol, h, hq⟩ := h
  rw [hq]
  refine (h env r k).bind fun l s1 r1 _ k1 hl => ?_
  refine Rl.opt (fun l' hl' => ?_) k1 hl
  obtain ⟨hs, e⟩ := ifSome hl'
  subst e
  show (match allF (l.map fun a => w_ a) with
    | some xs => if small xs.length = true then Res.ok (W.f (F.tup xs)) _ else .stuck
    | none => .stuck) = _
  rw [allF_w]
  simp only [List.length_map]
  rw [if_pos hs]
  rfl
theorem e_tup2 {q : (β' : Type) → (α × β × Unit → σ → O σ β') → O σ β'} (h : EA B n G cs cs1 tr s q) : E B n G cs cs1 (eTup tr) s (q _ fun x s1 => .ok (x.1, x.2.1) s1) := fun env r k => by
  obtain ⟨oa, h, hq⟩ := h
  rw [hq]
  exact (h env r k).bind fun x s1 r1 _ k1 hl => Rl.mk rfl k1 hl
theorem e_tup3 {q : (β' : Type) → (α × β × γ × Unit → σ → O σ β') → O σ β'} (h : EA B n G cs cs1 tr s q) : E B n G cs cs1 (eTup tr) s (q _ fun x s1 => .ok (T3.mk x.1 x.2.1 x.2.2.1) s1) := fun env r k => by
  obtain ⟨oa, h, hq⟩ := h
  rw [hq]
  exact (h env r k).bind fun x s1 r1 _ k1 hl => Rl.mk rfl k1 hl
theorem e_tup4 {q : (β' : Type) → (α × β × γ × δ × Unit → σ → O σ β') → O σ β'} (h : EA B n G cs cs1 tr s q) : E B n G cs cs1 (eTup tr) s (q _ fun x s1 => .ok (T4.mk x.1 x.2.1 x.2.2.1 x.2.2.2.1) s1) := fun env r k => by
  obtain ⟨oa, h, hq⟩ := h
  rw [hq]
  exact (h env r k).bind fun x s1 r1 _ k1 hl => Rl.mk rfl k1 hl
theorem e_tup5 {ε : Type} [En ε] {q : (β' : Type) → (α × β × γ × δ × ε × Unit → σ → O σ β') → O σ β'} (h : EA B n G cs cs1 tr s q) : E B n G cs cs1 (eTup tr) s (q _ fun x s1 => .ok (T5.mk x.1 x.2.1 x.2.2.1 x.2.2.2.1 x.2.2.2.2.1) s1) := fun env r k => by
  obtain ⟨oa, h, hq⟩ := h
  rw [hq]
  exact (h env r k).bind fun x s1 r1 _ k1 hl => Rl.mk rfl k1 hl
/-! attributes, members -/
theorem e_attr {i : Nat} {f : α → β} (hf : ∀ (a : α) st, attrW st i (w_ a) = some (w_ (f a))) (h : E B n G cs cs1 te s o) : E B n G cs cs1 (eAttr i te) s (o.bind fun a s1 => .ok (f a) s1) := fun env r k => by
  refine (h env r k).bind fun a s1 r1 _ k1 hl => ?_
  refine Rl.mk ?_ k1 hl
  show ofW (attrW _ i (w_ a)) _ = _
  rw [hf]; rfl
theorem e_ixT {i : Int} {f : α → β} (hf : ∀ (a : α) st, ixW st (w_ a) (.f (.int i)) = some (w_ (f a))) (h : E B n G cs cs1 ta s o) (hi : ∀ s1, E B n G cs1 cs1 tb s1 (.ok i s1)) : E B n G cs cs1 (eIx ta tb) s (o.bind fun a s1 => .ok (f a) s1) := fun env r k => by
  refine (h env r k).bind fun a s1 r1 _ k1 hl => ?_
  obtain ⟨r2, e, k2, hl2⟩ := hi s1 env r1 k1
  refine Rl.mk (r := r2) ?_ k2 (hl.trans hl2)
  show (tb env (B.st s1 ++ r1)).bind _ = _
  rw [e]
  show ofW (ixW _ (w_ a) (.f (.int i))) _ = _
  rw [hf]; rfl
theorem atI_map {α β : Type} (f : α → β) (l : List α) (i : Int) : atI (l.map f) i = (atI l i).map f := by
  unfold atI
  rw [List.length_map]
  cases ixN l.length i with
  | none => rfl
  | some j => simp [List.getElem?_map]
theorem e_ixL {ol : O σ (List α)} {oi : σ → O σ Int} (h : E B n G cs cs1 ta s ol) (hi : ∀ s1, E B n G cs1 cs1 tb s1 (oi s1)) : E B n G cs cs1 (eIx ta tb) s (ol.bind fun l s1 => (oi s1).bind fun i s2 => ofO (atI l i) s2) := fun env r k => by
  refine (h env r k).bind fun l s1 r1 _ k1 hl => ?_
  refine Rl.up hl ?_
  refine (hi s1 env r1 k1).bind fun i s2 r2 _ k2 hl2 => ?_
  refine Rl.opt (fun a ha => ?_) k2 hl2
  show ofW ((atI (l.map En.e) i).map W.f) _ = _
  rw [atI_map, ha]; rfl
theorem e_ixTu {ol : O σ (Tu α)} {oi : σ → O σ Int} (h : E B n G cs cs1 ta s ol) (hi : ∀ s1, E B n G cs1 cs1 tb s1 (oi s1)) : E B n G cs cs1 (eIx ta tb) s (ol.bind fun l s1 => (oi s1).bind fun i s2 => ofO (atI l.l i) s2) := fun env r k => by
  refine (h env r k).bind fun l s1 r1 _ k1 hl => ?_
  refine Rl.up hl ?_
  refine (hi s1 env r1 k1).bind fun i s2 r2 _ k2 hl2 => ?_
  refine Rl.opt (fun a ha => ?_) k2 hl2
  show ofW ((atI (l.l.map En.e) i).map W.f) _ = _
  rw [atI_map, ha]; rfl
@[irreducible] def ixS (l : List Nat) (i : Int) : Option Ch := if l.length ≤ 1000000 then (atI l i).map Ch.mk else none
theorem e_ixS {ol : O σ (List Nat)} {oi : σ → O σ Int} (h : E B n G cs cs1 ta s ol) (hi : ∀ s1, E B n G cs1 cs1 tb s1 (oi s1)) : E B n G cs cs1 (eIx ta tb) s (ol.bind fun l s1 => (oi s1).bind fun i s2 => ofO (ixS l i) s2) := fun env r k => by
  refine (h env r k).bind fun l s1 r1 _ k1 hl => ?_
  refine Rl.up hl ?_
  refine (hi s1 env r1 k1).bind fun i s2 r2 _ k2 hl2 => ?_
  refine Rl.opt (fun a ha => ?_) k2 hl2
  unfold ixS at ha
  obtain ⟨hs, e⟩ : l.length ≤ 1000000 ∧ (atI l i).map Ch.mk = some a := by
    by_cases q : l.length ≤ 1000000
    · rw [if_pos q] at ha; exact ⟨q, ha⟩
    · rw [if_neg q] at ha; cases ha
  obtain ⟨c, hc, rfl⟩ := opt_map_some e
  show ofW (if small l.length = true then (atI l i).map fun c => W.f (.str [c]) else none) _ = _
  rw [if_pos (show small l.length = true from decide_eq_true hs), hc]; rfl
/-- of a list's cell -/
theorem e_ixC {i k : Nat} {l : List α} {oi : O σ Int} (h : lk G i = some (.loc (B.b + k))) (hc : (k, cl_ l) ∈ cs1) (hi : E B n G cs cs1 tb s oi) : E B n G cs cs1 (eIx (eVar i) tb) s (oi.bind fun i s2 => ofO (atI l i) s2) := fun env r q => by
  have e : eVar i env (B.st s ++ r) = .ok (.loc (B.b + k)) (B.st s ++ r) := by
    unfold eVar
    rw [q.var i _ h]
  unfold eIx
  rw [e]
  refine (hi env r q).bind fun i s2 r2 _ k2 hl2 => ?_
  refine Rl.opt (fun a ha => ?_) k2 hl2
  show ofW (ixC i (B.st s2 ++ r2)[B.b + k]?) _ = _
  rw [st_get, k2.cell _ _ hc]
  show ofW ((atI (l.map En.e) i).map W.f) _ = _
  rw [atI_map, ha]; rfl
end
end TL

set_option Elab.async false
set_option linter.all false
set_option maxRecDepth 100000
set_option maxHeartbeats 4000000
set_option autoImplicit false
/-! T2: calls, what is walked, comprehensions, statements, defs. -/
namespace TL
open VS
open L2 (atI ixN)

/-! ### defs -/
section
variable {σ R A : Type}
def FnG [Ar A] [En R] (wr : Wr σ) (m : FnM) (d : A → σ → O σ R) : Prop := ∀ rest s a, Cl (wr.put s rest) → match d a s with
  | .ok x s' => m (Ar.ws a) (wr.put s rest) = .ok (w_ x) (wr.put s' rest)
  | .ex c fs s' => ∃ j, m (Ar.ws a) (wr.put s rest) = .exc c fs (wr.put s' rest ++ j) ∧ Cl (wr.put s' rest ++ j)
  | .no => True
abbrev FnP [Ar A] [En R] (m : FnM) (d : A → P R) : Prop := FnG wU m (fun a _ => d a)
end
section
variable {σ α β γ δ R A : Type} {wr : Wr σ} {B : Bs wr} {n : Nat} {G : List (Nat × W)} {cs cs1 cs2 cs3 : List (Nat × Cell)} {env : Env} {s : σ}
theorem Ok.noCells {b n : Nat} {G : List (Nat × W)} {cs : List (Nat × Cell)} {env : Env} {r : Store} (h : Ok b n G cs env r) : Ok b n G [] env r := h.sub sub_refl (List.nil_sublist _)
theorem Ok.junk {b n : Nat} {G : List (Nat × W)} {cs : List (Nat × Cell)} {env : Env} {r j : Store} (h : Ok b n G cs env r) (hc : clean (b + (r ++ j).length) (r ++ j) = true) : Ok b n G [] env (r ++ j) :=
  ⟨h.len, hc, List.nodup_nil, (fun _ _ q => nomatch q), h.var⟩
theorem cl_tail {B : Bs wr} {s : σ} {t : Store} (h : Cl (B.st s ++ t)) : clean (B.b + t.length) t = true := by
  unfold Cl clean at h
  rw [List.all_append, Bool.and_eq_true, List.length_append, B.len s] at h
  exact h.2
theorem callP [Ar A] [En R] {m : FnM} {d : A → P R} (F : FnP m d) {env : Env} {r : Store} (k : Ok B.b n G cs env r) (x : A) : Rl B n G cs env r (fun a => w_ a) (m (Ar.ws x) (B.st s ++ r)) ((d x).up s) := by
  have q := F (B.st s ++ r) () x (k.Cl s)
  cases e : d x with
  | ok a u => simp only [e] at q; exact Rl.mk q k .refl
  | ex c fs u =>
    simp only [e] at q
    obtain ⟨j, e1, e2⟩ := q
    refine ⟨r ++ j, by rw [← List.append_assoc]; exact e1, k.junk (cl_tail (s := s) (by rw [← List.append_assoc]; exact e2))⟩
  | no => trivial
theorem callS [Ar A] [En R] {m : FnM} {d : A → σ → O σ R} (F : FnG wr m d) {env : Env} {r : Store} (k : Ok B.b n G cs env r) (x : A) : Rl B n G cs env r (fun a => w_ a) (m (Ar.ws x) (B.st s ++ r)) (d x s) := by
  have q := F (B.rest ++ r) s x (by rw [wr.app]; exact k.Cl s)
  rw [wr.app] at q
  cases e : d x s with
  | ok a u => simp only [e] at q; rw [wr.app] at q; exact Rl.mk q k .refl
  | ex c fs u =>
    simp only [e] at q
    obtain ⟨j, e1, e2⟩ := q
    rw [wr.app] at e1 e2
    refine ⟨r ++ j, by rw [← List.append_assoc]; exact e1, k.junk (cl_tail (s := u) (by rw [← List.append_assoc]; exact e2))⟩
  | no => trivial
theorem up_unit {α : Type} (p : P α) (u : Unit) : p.up u = p := by cases p <;> rfl
variable [En α] [En β] [En γ] [En δ] [En R] [Ar A] {ta tb tc te to : TEv} {tr : TAv} {m : FnM} {o1 : O σ α} {o2 : σ → O σ β}
theorem e_call {d : A → P R} {q : (β : Type) → (A → σ → O σ β) → O σ β} (F : FnP m d) (h : EA B n G cs cs1 tr s q) : E B n G cs cs1 (eCall m tr) s (q _ fun x s1 => (d x).up s1) := fun env r k => by
  obtain ⟨oa, h, hq⟩ := h
  rw [hq]
  refine (h env r k).bind fun x s1 r1 _ k1 hl => ?_
  refine Rl.up hl ?_
  exact callP F k1 x
theorem e_callU {B : Bs wU} {d : A → P R} {q : (β : Type) → (A → Unit → O Unit β) → O Unit β} {s : Unit} (F : FnP m d) (h : EA B n G cs cs1 tr s q) : E B n G cs cs1 (eCall m tr) s (q _ fun x _ => d x) := fun env r k => by
  have z := e_call F h env r k
  simp only [up_unit] at z
  exact z
theorem e_callS {d : A → σ → O σ R} {q : (β : Type) → (A → σ → O σ β) → O σ β} (F : FnG wr m d) (h : EA B n G cs cs1 tr s q) : E B n G cs cs1 (eCall m tr) s (q _ fun x s1 => d x s1) := fun env r k => by
  obtain ⟨oa, h, hq⟩ := h
  rw [hq]
  refine (h env r k).bind fun x s1 r1 _ k1 hl => ?_
  refine Rl.up hl ?_
  exact callS F k1 x
/-! methods of data -/
theorem e_meth {c : Nat} {d : α × A → P R} {q : σ → (β : Type) → (A → σ → O σ β) → O σ β} (hc : ∀ (a : α) st, clsW st (w_ a) = some c) (F : FnP m d) (ho : E B n G cs cs1 to s o1) (h : ∀ s1, EA B n G cs1 cs1 tr s1 (q s1)) : E B n G cs cs1 (eMeth c m to tr) s (o1.bind fun a s1 => q s1 _ fun x s2 => (d (a, x)).up s2) := fun env r k => by
  refine (ho env r k).bind fun a s1 r1 _ k1 hl => ?_
  rw [if_pos (hc a _)]
  refine Rl.up hl ?_
  obtain ⟨oa, h, hq⟩ := h s1
  rw [hq]
  refine (h env r1 k1).bind fun x s2 r2 _ k2 hl2 => ?_
  refine Rl.up hl2 ?_
  exact callP F k2 (a, x)
theorem e_methU {B : Bs wU} {s : Unit} {c : Nat} {d : α × A → P R} {o1 : P α} {q : Unit → (β : Type) → (A → Unit → O Unit β) → O Unit β} (hc : ∀ (a : α) st, clsW st (w_ a) = some c) (F : FnP m d) (ho : E B n G cs cs1 to s o1) (h : ∀ s1, EA B n G cs1 cs1 tr s1 (q s1)) : E B n G cs cs1 (eMeth c m to tr) s (o1.bind fun a s1 => q s1 _ fun x s2 => d (a, x)) := fun env r k => by
  have z := e_meth hc F ho h env r k
  simp only [up_unit] at z
  exact z
/-- bounds by Nat.ble: they get stuck at once where nothing is known -/
def inRg (k : Nat) (i : Int) : Bool := Nat.ble i.natAbs k
def posB (i : Int) : Bool := match i with
  | .ofNat _ => true
  | .negSucc _ => false
theorem inRg_iff {k : Nat} {i : Int} : inRg k i = true ↔ i.natAbs ≤ k := by unfold inRg; rw [Nat.ble_eq]
theorem posB_iff {i : Int} : posB i = true ↔ 0 ≤ i := by cases i <;> simp [posB] <;> omega
@[irreducible] def lenI (i : Int) (s : σ) : O σ Int := ofO (if (posB i && inRg 9223372036854775807 i) = true then some i else none) s
theorem e_lenO {c : Nat} {d : α × Unit → P Int} (hc : ∀ (a : α) st, clsW st (w_ a) = some c) (F : FnP m d) (ho : E B n G cs cs1 to s o1) : E B n G cs cs1 (eLenO c m to) s (o1.bind fun a s1 => ((d (a, ())).up s1).bind fun i s2 => lenI i s2) := fun env r k => by
  refine (ho env r k).bind fun a s1 r1 _ k1 hl => ?_
  unfold own1
  rw [if_pos (hc a _)]
  refine Rl.up hl ?_
  refine (callP F k1 (a, ())).bind fun i s2 r2 _ k2 hl2 => ?_
  unfold lenI
  refine Rl.opt (fun j hj => ?_) k2 hl2
  obtain ⟨hs, rfl⟩ := ifSome hj
  rw [Bool.and_eq_true, posB_iff, inRg_iff] at hs
  exact if_pos ⟨hs.1, by omega⟩
theorem e_lenOU {B : Bs wU} {s : Unit} {o1 : P α} {c : Nat} {d : α × Unit → P Int} (hc : ∀ (a : α) st, clsW st (w_ a) = some c) (F : FnP m d) (ho : E B n G cs cs1 to s o1) : E B n G cs cs1 (eLenO c m to) s (o1.bind fun a s1 => (d (a, ())).bind fun i s2 => lenI i s2) := fun env r k => by
  have q := e_lenO hc F ho env r k
  simp only [up_unit] at q
  exact q
theorem e_strO {c : Nat} {d : α × Unit → P (List Nat)} (hc : ∀ (a : α) st, clsW st (w_ a) = some c) (F : FnP m d) (ho : E B n G cs cs1 to s o1) : E B n G cs cs1 (eStrO c m to) s (o1.bind fun a s1 => (d (a, ())).up s1) := fun env r k => by
  refine (ho env r k).bind fun a s1 r1 _ k1 hl => ?_
  unfold own1
  rw [if_pos (hc a _)]
  refine Rl.up hl ?_
  have q := callP F (s := s1) k1 (a, ())
  cases e : d (a, ()) with
  | ok x u => rw [e] at q; obtain ⟨r2, e2, k2, hl2⟩ := q; rw [show m [w_ a] (B.st s1 ++ r1) = _ from e2]; exact ⟨r2, rfl, k2, hl2⟩
  | ex c fs u => rw [e] at q; obtain ⟨r2, e2, k2⟩ := q; rw [show m [w_ a] (B.st s1 ++ r1) = _ from e2]; exact ⟨r2, rfl, k2⟩
  | no => trivial
theorem e_strOU {B : Bs wU} {s : Unit} {o1 : P α} {c : Nat} {d : α × Unit → P (List Nat)} (hc : ∀ (a : α) st, clsW st (w_ a) = some c) (F : FnP m d) (ho : E B n G cs cs1 to s o1) : E B n G cs cs1 (eStrO c m to) s (o1.bind fun a s1 => d (a, ())) := fun env r k => by
  have q := e_strO hc F ho env r k
  simp only [up_unit] at q
  exact q
theorem e_own2 {c : Nat} {ok : Store → W → Bool} {d : α × β × Unit → P R} (hc : ∀ (a : α) st, clsW st (w_ a) = some c) (hok : ∀ (b : β) st, ok st (w_ b) = true) (F : FnP m d) (h1 : E B n G cs cs1 ta s o1) (h2 : ∀ s1, E B n G cs1 cs1 tb s1 (o2 s1)) :
    E B n G cs cs1 (eOwn2 c ok m ta tb) s (o1.bind fun a s1 => (o2 s1).bind fun b s2 => (d (a, b, ())).up s2) := fun env r k => by
  refine (h1 env r k).bind fun a s1 r1 _ k1 hl => ?_
  refine Rl.up hl ?_
  refine (h2 s1 env r1 k1).bind fun b s2 r2 _ k2 hl2 => ?_
  unfold own2
  rw [if_pos (hok b _), if_pos (hc a _)]
  refine Rl.up hl2 ?_
  exact callP F k2 (a, b, ())
theorem e_own2U {B : Bs wU} {s : Unit} {o1 : P α} {o2 : Unit → P β} {c : Nat} {ok : Store → W → Bool} {d : α × β × Unit → P R} (hc : ∀ (a : α) st, clsW st (w_ a) = some c) (hok : ∀ (b : β) st, ok st (w_ b) = true) (F : FnP m d) (h1 : E B n G cs cs1 ta s o1) (h2 : ∀ s1, E B n G cs1 cs1 tb s1 (o2 s1)) :
    E B n G cs cs1 (eOwn2 c ok m ta tb) s (o1.bind fun a s1 => (o2 s1).bind fun b s2 => d (a, b, ())) := fun env r k => by
  have q := e_own2 hc hok F h1 h2 env r k
  simp only [up_unit] at q
  exact q
/-- a type's test whose answer is known -/
theorem e_isi {gs : List Tg} {b : Bool} (hk : ∀ a : α, isiAny gs (kyF (En.e a)) = b) (h : E B n G cs cs1 te s o1) : E B n G cs cs1 (eIsi gs te) s (o1.bind fun _ s1 => .ok b s1) := fun env r k => by
  refine (h env r k).bind fun a s1 r1 _ k1 hl => ?_
  refine Rl.mk ?_ k1 hl
  show Res.ok (W.f (F.bl (isiAny gs (kyF (En.e a))))) _ = _
  rw [hk]
  rfl
theorem e_isiD {gs : List Tg} {f : α → Bool} (hk : ∀ a : α, isiAny gs (kyF (En.e a)) = f a) (h : E B n G cs cs1 te s o1) : E B n G cs cs1 (eIsi gs te) s (o1.bind fun a s1 => .ok (f a) s1) := fun env r k => by
  refine (h env r k).bind fun a s1 r1 _ k1 hl => ?_
  refine Rl.mk ?_ k1 hl
  show Res.ok (W.f (F.bl (isiAny gs (kyF (En.e a))))) _ = _
  rw [hk]
  rfl
/-! built-in functions -/
theorem looks1 {st : Store} {w : W} {x : F} (h : look st w = some x) : looks st [w] = some [x] := by
  unfold looks looks
  rw [h]; rfl
theorem e_cb1 {g : F → Option F} {op : α → Option γ} (hg : Op1T g op) (h1 : EL B n G cs cs1 ta s o1) : E B n G cs cs1 (eCB (g1 g) (aCons ta aNil)) s (o1.bind fun a s1 => ofO (op a) s1) := fun env r k => by
  have e : eCB (g1 g) (aCons ta aNil) env (B.st s ++ r) = (ta env (B.st s ++ r)).bind fun w st1 => lkN (g1 g) [w] st1 := by
    unfold eCB aCons aNil
    cases ta env (B.st s ++ r) <;> rfl
  rw [e]
  refine h1.bind k fun a s1 w r1 k1 hl1 hw => ?_
  refine Rl.opt (fun c hc => ?_) k1 hl1
  unfold lkN
  rw [looks1 (hw s1 r1 env k1)]
  show ofOpt (g (En.e a)) _ = _
  rw [hg a c hc]; rfl
theorem e_cb2 {g : F → F → Option F} {op : α → β → Option γ} (hg : Op2T g op) (h1 : E B n G cs cs1 ta s o1) (h2 : ∀ s1, E B n G cs1 cs1 tb s1 (o2 s1)) :
    E B n G cs cs1 (eCB (g2 g) (aCons ta (aCons tb aNil))) s (o1.bind fun a s1 => (o2 s1).bind fun b s2 => ofO (op a b) s2) := fun env r k => by
  have e : eCB (g2 g) (aCons ta (aCons tb aNil)) env (B.st s ++ r) = (ta env (B.st s ++ r)).bind fun w st1 => (tb env st1).bind fun u st2 => lkN (g2 g) [w, u] st2 := by
    unfold eCB aCons aNil
    cases ta env (B.st s ++ r) with
    | ok w st1 =>
      show ((((tb env st1).bind fun u st2 => Res.ok [u] st2)).bind fun ws st2 => Res.ok (w :: ws) st2).bind _ = _
      cases q : tb env st1 <;> simp [aCons, Res.bind, q]
    | exc _ _ _ => rfl
    | stuck => rfl
  rw [e]
  refine (h1 env r k).bind fun a s1 r1 _ k1 hl1 => ?_
  refine Rl.up hl1 ?_
  refine (h2 s1 env r1 k1).bind fun b s2 r2 _ k2 hl2 => ?_
  refine Rl.opt (fun c hc => ?_) k2 hl2
  show ofOpt (g (En.e a) (En.e b)) _ = _
  rw [hg a b c hc]; rfl
/-- a method of a built-in type, with one argument -/
def OpMT (Ty : String) (g : F → List F → Option F) (op : α → β → Option γ) : Prop := (∀ a : α, tyF (En.e a) = Ty) ∧ ∀ a b c, op a b = some c → g (En.e a) [En.e b] = some (En.e c)
theorem e_bm1 {Ty : String} {g : F → List F → Option F} {op : α → β → Option γ} (hg : OpMT Ty g op) (h1 : EL B n G cs cs1 ta s o1) (h2 : ∀ s1, EL B n G cs1 cs1 tb s1 (o2 s1)) :
    E B n G cs cs1 (eBM Ty g ta (aCons tb aNil)) s (o1.bind fun a s1 => (o2 s1).bind fun b s2 => ofO (op a b) s2) := fun env r k => by
  refine h1.bind k fun a s1 w r1 k1 hl1 hw => ?_
  rw [hw s1 r1 env k1]
  refine Rl.up hl1 ?_
  cases q : o2 s1 with
  | no => trivial
  | ex c fs s2 =>
    have q2 := h2 s1 env r1 k1
    rw [q] at q2
    obtain ⟨r2, e2, k2⟩ := q2
    have ht := hg.1 a
    refine ⟨r2, ?_, k2⟩
    simp only [if_pos ht]
    unfold aCons
    rw [e2]; rfl
  | ok b s2 =>
    have ht := hg.1 a
    have q2 := h2 s1 env r1 k1
    rw [q] at q2
    obtain ⟨u, r2, e2, k2, hl2, hu⟩ := q2
    simp only [if_pos ht]
    refine Rl.opt (fun c hc => ?_) k2 hl2
    unfold aCons aNil
    rw [e2]
    show (match look (B.st s2 ++ r2) w with
      | some x => lkN (g x) [u] (B.st s2 ++ r2)
      | none => .stuck) = _
    rw [hw s2 r2 env k2]
    show lkN (g (En.e a)) [u] _ = _
    unfold lkN
    rw [looks1 (hu s2 r2 env k2)]
    show ofOpt (g (En.e a) [En.e b]) _ = _
    rw [hg.2 a b c hc]; rfl
/-! a cell becomes data -/
theorem e_frz {i k p : Nat} {l : List α} (h : lk G i = some (.loc (B.b + k))) (hp : cs[p]? = some (k, cl_ l)) : E B n G cs (cs.set p (k, .dead)) (eFrzC (eVar i)) s (.ok l s) := fun env r q => by
  have e : eVar i env (B.st s ++ r) = .ok (.loc (B.b + k)) (B.st s ++ r) := by
    unfold eVar
    rw [q.var i _ h]
  refine ⟨r.set k .dead, ?_, q.write hp rfl, .set fun _ => rfl⟩
  unfold eFrzC
  rw [e]
  show (match (B.st s ++ r)[B.b + k]? with
    | some (.lstF xs) => Res.ok (W.f (F.lst xs)) ((B.st s ++ r).set (B.b + k) .dead)
    | some (.dct xs) => Res.ok (W.f (F.dct xs)) ((B.st s ++ r).set (B.b + k) .dead)
    | _ => .stuck) = _
  rw [st_get, q.cell _ _ (List.mem_of_getElem? hp)]
  show Res.ok (W.f (F.lst (l.map En.e))) ((B.st s ++ r).set (B.b + k) .dead) = _
  rw [st_set]
  rfl
theorem e_frzF (h : E B n G cs cs1 te s o1) : E B n G cs cs1 (eFrzC te) s o1 := fun env r k => by
  have q := h env r k
  show Rl _ _ _ _ _ _ _ ((te env (B.st s ++ r)).bind frzC) o1
  cases o1 with
  | ok a s' => obtain ⟨r', e, ok, hl⟩ := q; rw [e]; exact ⟨r', rfl, ok, hl⟩
  | ex c fs s' => obtain ⟨r', e, ok⟩ := q; rw [e]; exact ⟨r', rfl, ok⟩
  | no => trivial
/-! ### what is walked -/
theorem i_any {f : α → List β} (hf : ∀ a : α, itemsF (En.e a) = some ((f a).map fun b => w_ b)) (h : E B n G cs cs1 te s o1) : EI B n G cs cs1 (iAny te) s (o1.bind fun a s1 => .ok (f a) s1) := fun env r k => by
  refine (h env r k).bind fun a s1 r1 _ k1 hl => ?_
  refine Rl.mk ?_ k1 hl
  show ofL (itemsF (En.e a)) _ = _
  rw [hf]; rfl
theorem it_lst : ∀ l : List β, itemsF (En.e l) = some (l.map fun b => w_ b) := fun l => by
  show some ((l.map En.e).map W.f) = _
  rw [List.map_map]; rfl
theorem it_tu : ∀ l : Tu β, itemsF (En.e l) = some (l.l.map fun b => w_ b) := fun l => by
  show some ((l.l.map En.e).map W.f) = _
  rw [List.map_map]; rfl
theorem it_str : ∀ l : List Nat, itemsF (En.e l) = some ((l.map Ch.mk).map fun b => w_ b) := fun l => by
  show some (signs l) = _
  unfold signs
  rw [List.map_map]; rfl
theorem it_any : ∀ l : List F, itemsF (F.lst l) = some (l.map fun b => w_ b) := fun l => rfl
def rgI (lo : Int) (n : Nat) : List Int := (List.range n).map fun i => lo + (i : Nat)
def smI (i : Int) : Bool := inRg 4611686018427387903 i
theorem smI_ok {i : Int} (h : smI i = true) : smallI i = true := by
  unfold smI at h
  rw [inRg_iff] at h
  unfold smallI
  rw [Bool.and_eq_true, decide_eq_true_iff, decide_eq_true_iff]
  omega
@[irreducible] def rg1 (j : Int) (s : σ) : O σ (List Int) := ofO (if smI j = true then some (rgI 0 j.toNat) else none) s
@[irreducible] def rg2 (i j : Int) (s : σ) : O σ (List Int) := ofO (if smI i = true ∧ smI j = true then some (rgI i (j - i).toNat) else none) s
theorem rgI_w (lo : Int) (k : Nat) : rangeW lo 1 k = (rgI lo k).map fun b => w_ b := by
  unfold rangeW rgI
  rw [List.map_map]
  refine List.map_congr_left fun i _ => ?_
  show W.f (F.int (lo + (i : Nat) * 1)) = W.f (F.int (lo + (i : Nat)))
  rw [Int.mul_one]
theorem i_rg1 {o : O σ Int} (h : E B n G cs cs1 te s o) : EI B n G cs cs1 (iRange1 (aCons te aNil)) s (o.bind fun j s1 => rg1 j s1) := fun env r k => by
  have e : iRange1 (aCons te aNil) env (B.st s ++ r) = (te env (B.st s ++ r)).bind fun w st1 => rng1 [w] st1 := by
    unfold iRange1 aCons aNil
    cases te env (B.st s ++ r) <;> rfl
  rw [e]
  refine (h env r k).bind fun j s1 r1 _ k1 hl => ?_
  unfold rg1
  refine Rl.opt (fun l hl' => ?_) k1 hl
  obtain ⟨hs, rfl⟩ := ifSome hl'
  show (if smallI j = true then Res.ok (rangeW 0 1 j.toNat) _ else .stuck) = _
  rw [if_pos (smI_ok hs), rgI_w]
theorem i_rg2 {o : O σ Int} {o' : σ → O σ Int} (h : E B n G cs cs1 ta s o) (h' : ∀ s1, E B n G cs1 cs1 tb s1 (o' s1)) : EI B n G cs cs1 (iRange2 (aCons ta (aCons tb aNil))) s (o.bind fun i s1 => (o' s1).bind fun j s2 => rg2 i j s2) := fun env r k => by
  have e : iRange2 (aCons ta (aCons tb aNil)) env (B.st s ++ r) = (ta env (B.st s ++ r)).bind fun w st1 => (tb env st1).bind fun u st2 => rng2 [w, u] st2 := by
    unfold iRange2 aCons aNil
    cases ta env (B.st s ++ r) with
    | ok w st1 => cases q : tb env st1 <;> simp [aCons, Res.bind, q]
    | exc _ _ _ => rfl
    | stuck => rfl
  rw [e]
  refine (h env r k).bind fun i s1 r1 _ k1 hl => ?_
  refine Rl.up hl ?_
  refine (h' s1 env r1 k1).bind fun j s2 r2 _ k2 hl2 => ?_
  unfold rg2
  refine Rl.opt (fun l hl' => ?_) k2 hl2
  obtain ⟨hs, rfl⟩ := ifSome hl'
  show (if (smallI i && smallI j) = true then Res.ok (rangeW i 1 (j - i).toNat) (B.st s2 ++ r2) else .stuck) = _
  rw [if_pos (by rw [smI_ok hs.1, smI_ok hs.2]; rfl), rgI_w]
theorem d_lst : ∀ l : List β, itemsD (En.e l) = some (l.map En.e) := fun l => rfl
theorem d_tu : ∀ l : Tu β, itemsD (En.e l) = some (l.l.map En.e) := fun l => rfl
theorem d_str : ∀ l : List Nat, itemsD (En.e l) = some ((l.map Ch.mk).map En.e) := fun l => by
  show some (l.map fun c => F.str [c]) = _
  rw [List.map_map]; rfl
theorem zip_e {γ δ : Type} [En γ] [En δ] : ∀ (a : List γ) (b : List δ), ((a.map (En.e (α := γ))).zip (b.map (En.e (α := δ)))).map (fun q : VS.F × VS.F => W.f (VS.F.tup [q.1, q.2])) = (a.zip b).map fun p => w_ p
  | [], _ => rfl
  | _ :: _, [] => rfl
  | x :: a, y :: b => by
    simp only [List.map_cons, List.zip_cons_cons, zip_e a b]
    rfl
theorem i_zip {f : α → List γ} {g : β → List δ} (hf : ∀ a : α, itemsD (En.e a) = some ((f a).map En.e)) (hg : ∀ b : β, itemsD (En.e b) = some ((g b).map En.e)) (h1 : E B n G cs cs1 ta s o1) (h2 : ∀ s1, E B n G cs1 cs1 tb s1 (o2 s1)) :
    EI B n G cs cs1 (iZip (aCons ta (aCons tb aNil))) s (o1.bind fun a s1 => (o2 s1).bind fun b s2 => .ok ((f a).zip (g b)) s2) := fun env r k => by
  have e : iZip (aCons ta (aCons tb aNil)) env (B.st s ++ r) = (ta env (B.st s ++ r)).bind fun w st1 => (tb env st1).bind fun u st2 => zipW [w, u] st2 := by
    unfold iZip aCons aNil
    cases ta env (B.st s ++ r) with
    | ok w st1 => cases q : tb env st1 <;> simp [aCons, Res.bind, q]
    | exc _ _ _ => rfl
    | stuck => rfl
  rw [e]
  refine (h1 env r k).bind fun a s1 r1 _ k1 hl => ?_
  refine Rl.up hl ?_
  refine (h2 s1 env r1 k1).bind fun b s2 r2 _ k2 hl2 => ?_
  refine Rl.mk ?_ k2 hl2
  show (match itemsD (En.e a), itemsD (En.e b) with
    | some xs, some ys => Res.ok ((xs.zip ys).map fun (q : VS.F × VS.F) => W.f (F.tup [q.1, q.2])) (B.st s2 ++ r2)
    | _, _ => .stuck) = _
  rw [hf, hg]
  show Res.ok _ _ = Res.ok _ _
  rw [zip_e]
def enI : Nat → List α → List (Int × α)
  | _, [] => []
  | k, x :: xs => ((k : Int), x) :: enI (k + 1) xs
theorem enI_w : ∀ (k : Nat) (l : List α), (enumL k (l.map En.e)).map W.f = (enI k l).map fun p => w_ p
  | _, [] => rfl
  | k, x :: l => by
    simp only [List.map_cons, enumL, enI, enI_w (k + 1) l]
    rfl
theorem i_enum {f : α → List γ} (hf : ∀ a : α, itemsD (En.e a) = some ((f a).map En.e)) (h1 : E B n G cs cs1 ta s o1) : EI B n G cs cs1 (iEnum (aCons ta aNil)) s (o1.bind fun a s1 => .ok (enI 0 (f a)) s1) := fun env r k => by
  have e : iEnum (aCons ta aNil) env (B.st s ++ r) = (ta env (B.st s ++ r)).bind fun w st1 => enumW [w] st1 := by
    unfold iEnum aCons aNil
    cases ta env (B.st s ++ r) <;> rfl
  rw [e]
  refine (h1 env r k).bind fun a s1 r1 _ k1 hl => ?_
  refine Rl.mk ?_ k1 hl
  show (match itemsD (En.e a) with
    | some xs => Res.ok ((enumL 0 xs).map W.f) (B.st s1 ++ r1)
    | _ => .stuck) = _
  rw [hf]
  show Res.ok _ _ = Res.ok _ _
  rw [enI_w]
end
end TL

set_option Elab.async false
set_option linter.all false
set_option maxRecDepth 100000
set_option maxHeartbeats 4000000
set_option autoImplicit false
/-! T3: targets, comprehensions, statements, defs. -/
namespace TL
open VS
open L2 (atI ixN)
section
variable {σ α β γ δ ε R X S : Type} {wr : Wr σ} {B : Bs wr} {n : Nat} {G G' : List (Nat × W)} {cs cs1 cs2 cs3 : List (Nat × Cell)} {env : Env} {s : σ}
/-! ### targets -/
def Holds (G : List (Nat × W)) (env : Env) : Prop := ∀ i w, lk G i = some w → env[i]? = some (some w)
def Tgt [En α] (n : Nat) (g : TGv) (f : α → List (Nat × W)) : Prop := ∀ a env, env.length = n → ∃ env', g (w_ a) env = some env' ∧ env'.length = n ∧ ∀ G, Holds G env → Holds (f a ++ G) env'
theorem holds_set {env : Env} {i : Nat} {w : W} (hi : i < env.length) (h : Holds G env) : Holds ((i, w) :: G) (env.set i (some w)) := fun j u q => by
  unfold lk at q
  cases e : Nat.beq i j with
  | true =>
    rw [e] at q
    cases q
    cases Nat.eq_of_beq_eq_true e
    exact List.getElem?_set_self hi
  | false =>
    rw [e] at q
    have hij : i ≠ j := fun z => by subst z; rw [Nat.beq_refl] at e; cases e
    rw [List.getElem?_set_ne hij]
    exact h j u q
theorem tg_nm [En α] {i : Nat} (hi : i < n) : Tgt (α := α) n (gNm i) fun a => [(i, w_ a)] := fun a env hl =>
  ⟨env.set i (some (w_ a)), rfl, by simp [hl], fun G h => holds_set (by omega) h⟩
theorem tg_2 [En α] [En β] {g1 g2 : TGv} {f1 : α → List (Nat × W)} {f2 : β → List (Nat × W)} (h1 : Tgt n g1 f1) (h2 : Tgt n g2 f2) : Tgt (α := α × β) n (gTp (gsCons g1 (gsCons g2 gsNil))) fun p => f2 p.2 ++ f1 p.1 := fun p env hl => by
  obtain ⟨e1, q1, l1, k1⟩ := h1 p.1 env hl
  obtain ⟨e2, q2, l2, k2⟩ := h2 p.2 e1 l1
  refine ⟨e2, ?_, l2, fun G h => by rw [List.append_assoc]; exact k2 _ (k1 _ h)⟩
  show (g1 (w_ p.1) env).bind (fun env1 => (g2 (w_ p.2) env1).bind fun env2 => some env2) = _
  rw [q1]; show (g2 (w_ p.2) e1).bind _ = _; rw [q2]; rfl
theorem tg_3 [En α] [En β] [En γ] {g1 g2 g3 : TGv} {f1 : α → List (Nat × W)} {f2 : β → List (Nat × W)} {f3 : γ → List (Nat × W)} (h1 : Tgt n g1 f1) (h2 : Tgt n g2 f2) (h3 : Tgt n g3 f3) : Tgt (α := T3 α β γ) n (gTp (gsCons g1 (gsCons g2 (gsCons g3 gsNil)))) fun p => f3 p.c ++ (f2 p.b ++ f1 p.a) := fun p env hl => by
  obtain ⟨e1, q1, l1, k1⟩ := h1 p.a env hl
  obtain ⟨e2, q2, l2, k2⟩ := h2 p.b e1 l1
  obtain ⟨e3, q3, l3, k3⟩ := h3 p.c e2 l2
  refine ⟨e3, ?_, l3, fun G h => by rw [List.append_assoc, List.append_assoc]; exact k3 _ (k2 _ (k1 _ h))⟩
  show (g1 (w_ p.a) env).bind (fun env1 => (g2 (w_ p.b) env1).bind fun env2 => (g3 (w_ p.c) env2).bind fun env3 => some env3) = _
  rw [q1]; show (g2 (w_ p.b) e1).bind _ = _; rw [q2]; show (g3 (w_ p.c) e2).bind _ = _; rw [q3]; rfl
theorem tg_4 [En α] [En β] [En γ] [En δ] {g1 g2 g3 g4 : TGv} {f1 : α → List (Nat × W)} {f2 : β → List (Nat × W)} {f3 : γ → List (Nat × W)} {f4 : δ → List (Nat × W)} (h1 : Tgt n g1 f1) (h2 : Tgt n g2 f2) (h3 : Tgt n g3 f3) (h4 : Tgt n g4 f4) : Tgt (α := T4 α β γ δ) n (gTp (gsCons g1 (gsCons g2 (gsCons g3 (gsCons g4 gsNil))))) fun p => f4 p.d ++ (f3 p.c ++ (f2 p.b ++ f1 p.a)) := fun p env hl => by
  obtain ⟨e1, q1, l1, k1⟩ := h1 p.a env hl
  obtain ⟨e2, q2, l2, k2⟩ := h2 p.b e1 l1
  obtain ⟨e3, q3, l3, k3⟩ := h3 p.c e2 l2
  obtain ⟨e4, q4, l4, k4⟩ := h4 p.d e3 l3
  refine ⟨e4, ?_, l4, fun G h => by rw [List.append_assoc, List.append_assoc, List.append_assoc]; exact k4 _ (k3 _ (k2 _ (k1 _ h)))⟩
  show (g1 (w_ p.a) env).bind (fun env1 => (g2 (w_ p.b) env1).bind fun env2 => (g3 (w_ p.c) env2).bind fun env3 => (g4 (w_ p.d) env3).bind fun env4 => some env4) = _
  rw [q1]; show (g2 (w_ p.b) e1).bind _ = _; rw [q2]; show (g3 (w_ p.c) e2).bind _ = _; rw [q3]; show (g4 (w_ p.d) e3).bind _ = _; rw [q4]; rfl
theorem tg_5 [En α] [En β] [En γ] [En δ] [En ε] {g1 g2 g3 g4 g5 : TGv} {f1 : α → List (Nat × W)} {f2 : β → List (Nat × W)} {f3 : γ → List (Nat × W)} {f4 : δ → List (Nat × W)} {f5 : ε → List (Nat × W)} (h1 : Tgt n g1 f1) (h2 : Tgt n g2 f2) (h3 : Tgt n g3 f3) (h4 : Tgt n g4 f4) (h5 : Tgt n g5 f5) : Tgt (α := T5 α β γ δ ε) n (gTp (gsCons g1 (gsCons g2 (gsCons g3 (gsCons g4 (gsCons g5 gsNil)))))) fun p => f5 p.e ++ (f4 p.d ++ (f3 p.c ++ (f2 p.b ++ f1 p.a))) := fun p env hl => by
  obtain ⟨e1, q1, l1, k1⟩ := h1 p.a env hl
  obtain ⟨e2, q2, l2, k2⟩ := h2 p.b e1 l1
  obtain ⟨e3, q3, l3, k3⟩ := h3 p.c e2 l2
  obtain ⟨e4, q4, l4, k4⟩ := h4 p.d e3 l3
  obtain ⟨e5, q5, l5, k5⟩ := h5 p.e e4 l4
  refine ⟨e5, ?_, l5, fun G h => by rw [List.append_assoc, List.append_assoc, List.append_assoc, List.append_assoc]; exact k5 _ (k4 _ (k3 _ (k2 _ (k1 _ h))))⟩
  show (g1 (w_ p.a) env).bind (fun env1 => (g2 (w_ p.b) env1).bind fun env2 => (g3 (w_ p.c) env2).bind fun env3 => (g4 (w_ p.d) env3).bind fun env4 => (g5 (w_ p.e) env4).bind fun env5 => some env5) = _
  rw [q1]; show (g2 (w_ p.b) e1).bind _ = _; rw [q2]; show (g3 (w_ p.c) e2).bind _ = _; rw [q3]; show (g4 (w_ p.d) e3).bind _ = _; rw [q4]; show (g5 (w_ p.e) e4).bind _ = _; rw [q5]; rfl
theorem lk_cons (j : Nat) (w : W) (A : List (Nat × W)) (i : Nat) : lk ((j, w) :: A) i = match Nat.beq j i with
    | true => some w
    | false => lk A i := rfl
theorem lk_self (i : Nat) (w : W) (A : List (Nat × W)) : lk ((i, w) :: A) i = some w := by rw [lk_cons, Nat.beq_refl]
theorem lk_append (A C : List (Nat × W)) (i : Nat) : lk (A ++ C) i = match lk A i with
    | some w => some w
    | none => lk C i := by
  induction A with
  | nil => rfl
  | cons p A ih =>
    obtain ⟨j, w⟩ := p
    rw [List.cons_append, lk_cons, lk_cons]
    cases Nat.beq j i with
    | true => rfl
    | false => exact ih
theorem wipeE_len (env : Env) : ∀ vs : List Nat, (wipeE env vs).length = env.length
  | [] => rfl
  | v :: vs => by show ((wipeE env vs).set v none).length = _; rw [List.length_set, wipeE_len env vs]
theorem wipeE_get (env : Env) {i : Nat} : ∀ vs : List Nat, i ∉ vs → (wipeE env vs)[i]? = env[i]?
  | [], _ => rfl
  | v :: vs, h => by
    show ((wipeE env vs).set v none)[i]? = _
    rw [List.getElem?_set_ne (fun z => h (by simp [z])), wipeE_get env vs fun z => h (by simp [z])]
/-- behind a wipe of the names that the target sets -/
theorem tg_wipe [En α] {g : TGv} {f : α → List (Nat × W)} {vs : List Nat} (h : Tgt n g f) (hv : ∀ a, (vs.all fun v => (lk (f a) v).isSome) = true) (a : α) {env : Env} (hl : env.length = n) :
    ∃ env', g (w_ a) (wipeE env vs) = some env' ∧ env'.length = n ∧ ∀ G, Holds G env → Holds (f a ++ G) env' := by
  obtain ⟨env', e, l', k⟩ := h a (wipeE env vs) (by rw [wipeE_len]; exact hl)
  refine ⟨env', e, l', fun G hG i w q => ?_⟩
  rw [lk_append] at q
  cases c : lk (f a) i with
  | some u =>
    rw [c] at q
    have := k [] (fun _ _ z => by cases z) i u (by rw [lk_append, c])
    rw [this, ← q]
  | none =>
    rw [c] at q
    have hni : i ∉ vs := fun hm => by
      have := List.all_eq_true.mp (hv a) i hm
      rw [c] at this; cases this
    refine k [(i, w)] (fun j u z => ?_) i w (by rw [lk_append, c]; exact lk_self i w [])
    rw [lk_cons] at z
    cases c2 : Nat.beq i j with
    | true =>
      rw [c2] at z; cases z
      cases Nat.eq_of_beq_eq_true c2
      rw [wipeE_get env vs hni]; exact hG i w q
    | false => rw [c2] at z; cases z
theorem Ok.holds {b : Nat} {r : Store} (h : Ok b n G cs env r) : Holds G env := h.var
theorem Ok.inE {b : Nat} {r : Store} (h : Ok b n G cs env r) {env' : Env} (hl : env'.length = n) (k : Holds G' env') : Ok b n G' cs env' r := ⟨hl, h.cl, h.nd, h.cell, k⟩
/-! ### comprehensions -/
def lcO (c : β → σ → O σ Bool) (v : β → σ → O σ α) : List β → σ → O σ (List α)
  | [], s => .ok [] s
  | x :: xs, s => (c x s).bind fun b s1 => if b = true then (v x s1).bind fun a s2 => (lcO c v xs s2).bind fun l s3 => .ok (a :: l) s3 else lcO c v xs s1
def mapO (v : β → σ → O σ α) : List β → σ → O σ (List α)
  | [], s => .ok [] s
  | x :: xs, s => (v x s).bind fun a s2 => (mapO v xs s2).bind fun l s3 => .ok (a :: l) s3
@[irreducible] def smL (xs : List β) (s : σ) : O σ (List β) := ofO (if xs.length ≤ 1000000 then some xs else none) s
theorem doCell_acc {B : Bs wr} {s : σ} {r : Store} {acc : List F} {x : F} (hl : acc.length < 1000000) : doCell cAppend (B.b + r.length) [.f x] (B.st s ++ (r ++ [.lstF acc])) = .ok (.f .non) (B.st s ++ (r ++ [.lstF (acc ++ [x])])) := by
  have h := doCell_app (st := B.st s ++ r) (acc := acc) (x := x) hl
  rw [st_len] at h
  rw [← List.append_assoc, h, List.append_assoc]
theorem below_lstF {b : Nat} {l : List F} : Cell.below b (.lstF l) = true := rfl
theorem Ok.split {b : Nat} {G : List (Nat × W)} {env : Env} {r : Store} {k : Nat} {c : Cell} (h : Ok b n G ((k, c) :: cs) env r) (hl : r.length = k + 1) : ∃ r0, r = r0 ++ [c] ∧ r0.length = k ∧ (clean (b + k) r0 = true → Ok b n G cs env r0) := by
  have e := h.cell k c (by simp)
  obtain ⟨hk, e⟩ := List.getElem?_eq_some_iff.mp e
  refine ⟨r.take k, ?_, by simp; omega, fun hcl => ?_⟩
  · apply List.ext_getElem?
    intro j
    by_cases hj : j < k
    · rw [List.getElem?_append_left (by simp; omega), List.getElem?_take_of_lt hj]
    · by_cases hj2 : j = k
      · subst hj2
        rw [List.getElem?_append_right (by simp; omega)]
        simp [hk, e, Nat.min_eq_left (Nat.le_of_lt hk)]
      · rw [List.getElem?_eq_none (by omega), List.getElem?_eq_none (by simp; omega)]
  · have hnd := h.nd
    rw [List.map_cons, List.nodup_cons] at hnd
    refine ⟨h.len, by rw [List.length_take, Nat.min_eq_left (by omega)]; exact hcl, hnd.2, fun j d q => ?_, h.var⟩
    have hj : j ≠ k := fun z => hnd.1 (List.mem_map.mpr ⟨(j, d), q, z⟩)
    have hd := h.cell j d (by simp [q])
    have hjl := (List.getElem?_eq_some_iff.mp hd).1
    rw [List.getElem?_take_of_lt (by omega)]
    exact hd
/-- a change above keeps the part below -/
theorem Ok.below {b : Nat} {G G' : List (Nat × W)} {env env' : Env} {r : Store} {k : Nat} {acc acc' : List F} {q : Store} (h : Ok b n G cs env r) (hk : k = r.length) (h2 : Ok b n G' ((k, .lstF acc') :: cs) env' q) (p : Pr (r ++ [.lstF acc]) q) :
    ∃ r1, q = r1 ++ [.lstF acc'] ∧ Pr r r1 ∧ Ok b n G' cs env' r1 := by
  subst hk
  obtain ⟨r1, e, l1, k1⟩ := h2.split (by rw [p.len]; simp)
  subst e
  have pc : ∀ c, clean c r = true → clean c r1 = true := fun c hc => by
    have z := p.cl c (by unfold clean; rw [List.all_append, Bool.and_eq_true]; exact ⟨hc, rfl⟩)
    unfold clean at z
    rw [List.all_append, Bool.and_eq_true] at z
    exact z.1
  exact ⟨r1, rfl, ⟨l1, pc⟩, k1 (pc _ h.cl)⟩
theorem lc_run [En α] [En β] {g : TGv} {tt : TTv} {te : TEv} {vs : List Nat} {f : β → List (Nat × W)} {c : β → σ → O σ Bool} {v : β → σ → O σ α} (hg : Tgt n g f) (hv : ∀ a, (vs.all fun v => (lk (f a) v).isSome) = true)
    (ht : ∀ x s k acc, ET B n (f x ++ G) ((k, .lstF acc) :: cs) ((k, .lstF acc) :: cs) tt s (c x s)) (he : ∀ x s k acc, E B n (f x ++ G) ((k, .lstF acc) :: cs) ((k, .lstF acc) :: cs) te s (v x s)) {env : Env} :
    ∀ (xs : List β) (acc : List α) (s : σ) (r : Store), acc.length + xs.length ≤ 1000000 → Ok B.b n G cs env r → match lcO c v xs s with
      | .ok l s' => ∃ r', lcL g tt te (B.b + r.length) (wipeE env vs) (xs.map fun b => w_ b) (B.st s ++ (r ++ [cl_ acc])) = .ok (.loc (B.b + r.length)) (B.st s' ++ (r' ++ [cl_ (acc ++ l)])) ∧ Ok B.b n G cs env r' ∧ Pr r r'
      | .ex e fs s' => ∃ r', lcL g tt te (B.b + r.length) (wipeE env vs) (xs.map fun b => w_ b) (B.st s ++ (r ++ [cl_ acc])) = .exc e fs (B.st s' ++ r') ∧ clean (B.b + r'.length) r' = true
      | .no => True
  | [], acc, s, r, _, k => ⟨r, by simp [lcL], k, .refl⟩
  | x :: xs, acc, s, r, hl, k => by
    have ih := fun (acc' : List α) (s' : σ) (r' : Store) (hl' : acc'.length + xs.length ≤ 1000000) (k' : Ok B.b n G cs env r') => lc_run hg hv ht he xs acc' s' r' hl' k'
    simp only [List.length_cons] at hl
    obtain ⟨env', e, l', kk⟩ := tg_wipe hg hv x k.len
    have ok1 : Ok B.b n (f x ++ G) ((r.length, cl_ acc) :: cs) env' (r ++ [cl_ acc]) := (k.new (c := cl_ acc) rfl).inE l' (kk G k.var)
    have hstep : ∀ st, lcL g tt te (B.b + r.length) (wipeE env vs) ((x :: xs).map fun b => w_ b) st = (tt env' st).bind fun b st1 => if b = true then (te env' st1).bind fun y st2 => (doCell cAppend (B.b + r.length) [y] st2).bind fun _ st3 => lcL g tt te (B.b + r.length) (wipeE env vs) (xs.map fun b => w_ b) st3 else lcL g tt te (B.b + r.length) (wipeE env vs) (xs.map fun b => w_ b) st1 := fun st => by
      rw [List.map_cons, lcL, e]
    rw [hstep]
    unfold lcO
    have q1 := ht x s r.length (acc.map En.e) env' (r ++ [cl_ acc]) ok1
    cases e1 : c x s with
    | no => trivial
    | ex d fs s1 => rw [e1] at q1; obtain ⟨r1, z, k1⟩ := q1; rw [z]; exact ⟨r1, rfl, k1.cl⟩
    | ok b s1 =>
      rw [e1] at q1
      obtain ⟨q, z, k1, p1⟩ := q1
      rw [z]
      simp only [Res.bind, O.bind]
      cases b with
      | false =>
        obtain ⟨r1, rfl, p2, k2⟩ := Ok.below k rfl k1 p1
        have i := ih acc s1 r1 (by omega) (k2.inE k.len k.var)
        simp only [Bool.false_eq_true, if_false]
        rw [p2.len] at i
        cases e2 : lcO c v xs s1 with
        | no => trivial
        | ex d fs s2 => simp only [e2] at i; exact i
        | ok l s2 => simp only [e2] at i; obtain ⟨r', y, k3, p3⟩ := i; exact ⟨r', y, k3, p2.trans p3⟩
      | true =>
        simp only [if_true]
        have q2 := he x s1 r.length (acc.map En.e) env' q k1
        cases e2 : v x s1 with
        | no => trivial
        | ex d fs s2 => rw [e2] at q2; obtain ⟨r1, z2, k2⟩ := q2; rw [z2]; exact ⟨r1, rfl, k2.cl⟩
        | ok a s2 =>
          rw [e2] at q2
          obtain ⟨q', z2, k2, p2⟩ := q2
          rw [z2]
          obtain ⟨r1, rfl, p3, k3⟩ := Ok.below k rfl k2 (p1.trans p2)
          simp only
          rw [← p3.len, show w_ a = W.f (En.e a) from rfl, doCell_acc (by simp; omega)]
          have i := ih (acc ++ [a]) s2 r1 (by simp; omega) (k3.inE k.len k.var)
          have ec : (acc.map En.e ++ [En.e a] : List F) = (acc ++ [a]).map En.e := by simp
          simp only
          rw [ec]
          cases e3 : lcO c v xs s2 with
          | no => trivial
          | ex d fs s3 => simp only [e3] at i; exact i
          | ok l s3 =>
            simp only [e3] at i
            obtain ⟨r', y, k4, p4⟩ := i
            refine ⟨r', ?_, k4, p3.trans p4⟩
            rw [y]
            simp
/-- a list that is made, as the last cell -/
def EC [En α] (B : Bs wr) (n : Nat) (G : List (Nat × W)) (cs cs' : List (Nat × Cell)) (t : TEv) (s : σ) (o : O σ (List α)) : Prop := ∀ env r, Ok B.b n G cs env r → match o with
  | .ok l s' => ∃ r', t env (B.st s ++ r) = .ok (.loc (B.b + r'.length)) (B.st s' ++ (r' ++ [cl_ l])) ∧ Ok B.b n G cs' env r' ∧ Pr r r'
  | .ex c fs s' => ∃ r', t env (B.st s ++ r) = .exc c fs (B.st s' ++ r') ∧ Ok B.b n G [] env r'
  | .no => True
theorem Ok.exc {b : Nat} {G : List (Nat × W)} {cs : List (Nat × Cell)} {env : Env} {r r' : Store} (h : Ok b n G cs env r) (hc : clean (b + r'.length) r' = true) : Ok b n G [] env r' := ⟨h.len, hc, List.nodup_nil, (fun _ _ q => nomatch q), h.var⟩
theorem c_lc [En α] [En β] {ti : TIv} {g : TGv} {tt : TTv} {te : TEv} {vs : List Nat} {f : β → List (Nat × W)} {c : β → σ → O σ Bool} {v : β → σ → O σ α} {oi : O σ (List β)} (hi : EI B n G cs cs1 ti s oi) (hg : Tgt n g f) (hv : ∀ a, (vs.all fun v => (lk (f a) v).isSome) = true)
    (ht : ∀ x s k acc, ET B n (f x ++ G) ((k, .lstF acc) :: cs1) ((k, .lstF acc) :: cs1) tt s (c x s)) (he : ∀ x s k acc, E B n (f x ++ G) ((k, .lstF acc) :: cs1) ((k, .lstF acc) :: cs1) te s (v x s)) :
    EC B n G cs cs1 (eLc ti g tt te vs) s (oi.bind fun xs s1 => (smL xs s1).bind fun xs s2 => lcO c v xs s2) := fun env r k => by
  have q := hi env r k
  unfold eLc
  cases oi with
  | no => trivial
  | ex d fs s1 => obtain ⟨r1, z, k1⟩ := q; rw [z]; exact ⟨r1, rfl, k1⟩
  | ok xs s1 =>
    obtain ⟨r1, z, k1, p1⟩ := q
    rw [z]
    simp only [O.bind, Res.bind]
    unfold smL
    by_cases hl : xs.length ≤ 1000000
    · simp only [if_pos hl, ofO]
      have y := lc_run hg hv ht he xs [] s1 r1 (by simpa using hl) k1
      rw [st_len, List.append_assoc]
      cases e : lcO c v xs s1 with
      | no => trivial
      | ex d fs s2 => simp only [e] at y; obtain ⟨r2, y1, y2⟩ := y; exact ⟨r2, y1, k1.exc y2⟩
      | ok l s2 =>
        simp only [e] at y
        obtain ⟨r2, y1, k2, p2⟩ := y
        refine ⟨r2, ?_, k2, p1.trans p2⟩
        rw [p2.len]
        exact y1
    · simp only [if_neg hl, ofO]
theorem frz_top {B : Bs wr} {s s' : σ} {r r' : Store} {l : List F} (k : Ok B.b n G cs env r') (p : Pr r r') : frz (B.st s ++ r).length (.loc (B.b + r'.length)) (B.st s' ++ (r' ++ [.lstF l])) = .ok (.f (.lst l)) (B.st s' ++ r') := by
  have h := frz_lst (k.Cl s') l
  rw [st_len] at h ⊢
  rw [← p.len, ← List.append_assoc]
  exact h
/-- frozen at once -/
theorem c_frz [En α] {t : TEv} {o : O σ (List α)} (h : EC B n G cs cs1 t s o) : E B n G cs cs1 (eFrz t) s o := fun env r k => by
  have q := h env r k
  show Rl _ _ _ _ _ _ _ ((t env (B.st s ++ r)).bind _) o
  cases o with
  | no => trivial
  | ex c fs s1 => obtain ⟨r1, z, k1⟩ := q; rw [z]; exact ⟨r1, rfl, k1⟩
  | ok l s1 =>
    obtain ⟨r1, z, k1, p⟩ := q
    rw [z]
    refine ⟨r1, ?_, k1, p⟩
    show frz _ _ _ = _
    rw [frz_top k1 p]
    rfl
theorem lcO_map (v : β → σ → O σ α) : ∀ (xs : List β) (s : σ), lcO (fun _ s => .ok true s) v xs s = mapO v xs s
  | [], _ => rfl
  | x :: xs, s => by
    show (v x s).bind (fun a s2 => (lcO _ v xs s2).bind fun l s3 => .ok (a :: l) s3) = (v x s).bind fun a s2 => (mapO v xs s2).bind fun l s3 => .ok (a :: l) s3
    congr 1
    funext a s2
    rw [lcO_map v xs s2]
theorem lcO_tot (c : β → Bool) (v : β → α) : ∀ (xs : List β) (s : σ), lcO (fun x s => .ok (c x) s) (fun x s => .ok (v x) s) xs s = .ok ((xs.filter c).map v) s
  | [], _ => rfl
  | x :: xs, s => by
    unfold lcO
    simp only [O.bind, lcO_tot c v xs s]
    cases h : c x with
    | true => simp [h]
    | false => simp [h]
theorem lcO_totM (v : β → α) : ∀ (xs : List β) (s : σ), lcO (fun _ s => .ok true s) (fun x s => .ok (v x) s) xs s = .ok (xs.map v) s
  | [], _ => rfl
  | x :: xs, s => by
    unfold lcO
    simp only [O.bind, lcO_totM v xs s]
    simp
variable {α' : Type}
theorem c_map [En α] [En β] {ti : TIv} {g : TGv} {te : TEv} {vs : List Nat} {f : β → List (Nat × W)} {v : β → σ → O σ α} {oi : O σ (List β)} (hi : EI B n G cs cs1 ti s oi) (hg : Tgt n g f) (hv : ∀ a, (vs.all fun v => (lk (f a) v).isSome) = true)
    (he : ∀ x s k acc, E B n (f x ++ G) ((k, .lstF acc) :: cs1) ((k, .lstF acc) :: cs1) te s (v x s)) :
    EC B n G cs cs1 (eLc ti g tYesV te vs) s (oi.bind fun xs s1 => (smL xs s1).bind fun xs s2 => mapO v xs s2) := by
  have h := c_lc (c := fun _ s => .ok true s) hi hg hv (fun x s k acc env r q => Rl.mk rfl q .refl) he
  simp only [lcO_map] at h
  exact h
theorem c_lcT [En α] [En β] {ti : TIv} {g : TGv} {tt : TTv} {te : TEv} {vs : List Nat} {f : β → List (Nat × W)} {c : β → Bool} {v : β → α} {oi : O σ (List β)} (hi : EI B n G cs cs1 ti s oi) (hg : Tgt n g f) (hv : ∀ a, (vs.all fun v => (lk (f a) v).isSome) = true)
    (ht : ∀ x s k acc, ET B n (f x ++ G) ((k, .lstF acc) :: cs1) ((k, .lstF acc) :: cs1) tt s (.ok (c x) s)) (he : ∀ x s k acc, E B n (f x ++ G) ((k, .lstF acc) :: cs1) ((k, .lstF acc) :: cs1) te s (.ok (v x) s)) :
    EC B n G cs cs1 (eLc ti g tt te vs) s (oi.bind fun xs s1 => (smL xs s1).bind fun xs s2 => .ok ((xs.filter c).map v) s2) := by
  have h := c_lc (c := fun x s => .ok (c x) s) (v := fun x s => .ok (v x) s) hi hg hv ht he
  simp only [lcO_tot] at h
  exact h
theorem c_mapT [En α] [En β] {ti : TIv} {g : TGv} {te : TEv} {vs : List Nat} {f : β → List (Nat × W)} {v : β → α} {oi : O σ (List β)} (hi : EI B n G cs cs1 ti s oi) (hg : Tgt n g f) (hv : ∀ a, (vs.all fun v => (lk (f a) v).isSome) = true)
    (he : ∀ x s k acc, E B n (f x ++ G) ((k, .lstF acc) :: cs1) ((k, .lstF acc) :: cs1) te s (.ok (v x) s)) :
    EC B n G cs cs1 (eLc ti g tYesV te vs) s (oi.bind fun xs s1 => (smL xs s1).bind fun xs s2 => .ok (xs.map v) s2) := by
  have h := c_lc (c := fun _ s => .ok true s) (v := fun x s => .ok (v x) s) hi hg hv (fun x s k acc env r q => Rl.mk rfl q .refl) he
  simp only [lcO_totM] at h
  exact h
theorem c_lst [En α] {tr : TAv} {q : (β : Type) → (List α → σ → O σ β) → O σ β} (h : EA B n G cs cs1 tr s q) : EC B n G cs cs1 (eLstM tr) s (q _ fun l s1 => lstO l s1) := fun env r k => by
  obtain ⟨ol, h, hq⟩ := h
  rw [hq]
  have q := h env r k
  unfold eLstM
  cases ol with
  | no => trivial
  | ex c fs s1 => obtain ⟨r1, z, k1⟩ := q; rw [z]; exact ⟨r1, rfl, k1⟩
  | ok l s1 =>
    obtain ⟨r1, z, k1, p⟩ := q
    rw [z]
    simp only [O.bind, Res.bind]
    unfold lstO
    by_cases hs : small l.length = true
    · simp only [if_pos hs, ofO]
      refine ⟨r1, ?_, k1, p⟩
      rw [if_pos (by show small (l.map fun a => w_ a).length = true; rw [List.length_map]; exact hs), st_len, List.append_assoc]
      unfold cellOf
      rw [show allF (Ar.ws l) = _ from allF_w l]
    · simp only [if_neg hs, ofO]
end
end TL

set_option Elab.async false
set_option linter.all false
set_option maxRecDepth 100000
set_option maxHeartbeats 4000000
set_option autoImplicit false
/-! T4: statements and defs. -/
namespace TL
open VS
open L2 (atI ixN)
inductive Fl (S R : Type) where
  | nx (s : S) | bk (s : S) | rt (r : R)
section
variable {σ α β γ δ R X S A : Type} {wr : Wr σ}
/-- a block: what it comes to -/
def J (B : Bs wr) (n : Nat) (K : X → σ → SR → Prop) (G : List (Nat × W)) (cs : List (Nat × Cell)) (t : TSv) (s : σ) (o : O σ X) : Prop := ∀ env r, Ok B.b n G cs env r → match o with
  | .ok x s' => K x s' (t env (B.st s ++ r))
  | .ex c fs s' => ∃ r', t env (B.st s ++ r) = .exc c fs (B.st s' ++ r') ∧ clean (B.b + r'.length) r' = true
  | .no => True
/-- a def's body -/
def Kfn [En R] (B : Bs wr) : R → σ → SR → Prop := fun x s sr => (∃ r', sr = .rt (w_ x) (B.st s ++ r')) ∨ ((En.e x : F) = .non ∧ ∃ env' r', sr = .nx env' (B.st s ++ r'))
/-- a join: the names and cells that go on -/
def Kj (B : Bs wr) (n : Nat) (oG : S → List (Nat × W)) (oC : S → List (Nat × Cell)) : S → σ → SR → Prop := fun v s sr => ∃ env' r', sr = .nx env' (B.st s ++ r') ∧ Ok B.b n (oG v) (oC v) env' r'
/-- a loop's body without break and return -/
def Ks (B : Bs wr) (n : Nat) (oG : S → List (Nat × W)) (oC : S → List (Nat × Cell)) : S → σ → SR → Prop := fun v s sr => ∃ env' r', (sr = .nx env' (B.st s ++ r') ∨ sr = .ct env' (B.st s ++ r')) ∧ Ok B.b n (oG v) (oC v) env' r'
/-- a loop's body -/
def Kl [En R] (B : Bs wr) (n : Nat) (oG : S → List (Nat × W)) (oC : S → List (Nat × Cell)) : Fl S R → σ → SR → Prop := fun x s sr => match x with
  | .nx v => ∃ env' r', (sr = .nx env' (B.st s ++ r') ∨ sr = .ct env' (B.st s ++ r')) ∧ Ok B.b n (oG v) (oC v) env' r'
  | .bk v => ∃ env' r', sr = .bk env' (B.st s ++ r') ∧ Ok B.b n (oG v) (oC v) env' r'
  | .rt a => ∃ r', sr = .rt (w_ a) (B.st s ++ r')
def KT (K : X → σ → SR → Prop) : X → σ → SR → Prop := fun x s sr => K x s sr ∧ ∀ env st, sr ≠ .nx env st
/-- what K takes for a return -/
def RetK [En α] (B : Bs wr) (K : X → σ → SR → Prop) (f : α → X) : Prop := ∀ a s r, K (f a) s (.rt (w_ a) (B.st s ++ r))
theorem ret_fn [En R] {B : Bs wr} : RetK B (Kfn (R := R) B) (fun a : R => a) := fun a s r => .inl ⟨r, rfl⟩
theorem ret_l [En R] {B : Bs wr} {n : Nat} {oG : S → List (Nat × W)} {oC : S → List (Nat × Cell)} : RetK B (Kl (R := R) B n oG oC) (fun a : R => Fl.rt a) := fun a s r => ⟨r, rfl⟩
theorem ret_t [En α] {B : Bs wr} {K : X → σ → SR → Prop} {f : α → X} (h : RetK B K f) : RetK B (KT K) f := fun a s r => ⟨h a s r, fun _ _ => nofun⟩
/-- what K takes for an end -/
def EndK (B : Bs wr) (n : Nat) (K : X → σ → SR → Prop) (G : List (Nat × W)) (cs : List (Nat × Cell)) (x : X) : Prop := ∀ env r s, Ok B.b n G cs env r → K x s (.nx env (B.st s ++ r))
def CntK (B : Bs wr) (n : Nat) (K : X → σ → SR → Prop) (G : List (Nat × W)) (cs : List (Nat × Cell)) (x : X) : Prop := ∀ env r s, Ok B.b n G cs env r → K x s (.ct env (B.st s ++ r))
def BrkK (B : Bs wr) (n : Nat) (K : X → σ → SR → Prop) (G : List (Nat × W)) (cs : List (Nat × Cell)) (x : X) : Prop := ∀ env r s, Ok B.b n G cs env r → K x s (.bk env (B.st s ++ r))
variable {B : Bs wr} {n : Nat} {G G' : List (Nat × W)} {cs cs1 cs2 cs3 : List (Nat × Cell)} {s : σ} {K : X → σ → SR → Prop} {oG : S → List (Nat × W)} {oC : S → List (Nat × Cell)} {rest t t1 t2 : TSv} {ta tb te : TEv} {wa : TTv} {tr : TAv}
theorem end_fn : EndK B n (Kfn (R := Unit) B) G cs () := fun env r s _ => .inr ⟨rfl, env, r, rfl⟩
theorem end_fnO [En α] : EndK B n (Kfn (R := Option α) B) G cs none := fun env r s _ => .inr ⟨rfl, env, r, rfl⟩
theorem end_j {v : S} (h : Sub (oG v) G) (hc : (oC v).Sublist cs) : EndK B n (Kj B n oG oC) G cs v := fun env r s k => ⟨env, r, rfl, k.sub h hc⟩
theorem end_s {v : S} (h : Sub (oG v) G) (hc : (oC v).Sublist cs) : EndK B n (Ks B n oG oC) G cs v := fun env r s k => ⟨env, r, .inl rfl, k.sub h hc⟩
theorem cnt_s {v : S} (h : Sub (oG v) G) (hc : (oC v).Sublist cs) : CntK B n (Ks B n oG oC) G cs v := fun env r s k => ⟨env, r, .inr rfl, k.sub h hc⟩
theorem end_l [En R] {v : S} (h : Sub (oG v) G) (hc : (oC v).Sublist cs) : EndK B n (Kl (R := R) B n oG oC) G cs (.nx v) := fun env r s k => ⟨env, r, .inl rfl, k.sub h hc⟩
theorem cnt_l [En R] {v : S} (h : Sub (oG v) G) (hc : (oC v).Sublist cs) : CntK B n (Kl (R := R) B n oG oC) G cs (.nx v) := fun env r s k => ⟨env, r, .inr rfl, k.sub h hc⟩
theorem brk_l [En R] {v : S} (h : Sub (oG v) G) (hc : (oC v).Sublist cs) : BrkK B n (Kl (R := R) B n oG oC) G cs (.bk v) := fun env r s k => ⟨env, r, rfl, k.sub h hc⟩
theorem cnt_t {x : X} (h : CntK B n K G cs x) : CntK B n (KT K) G cs x := fun env r s k => ⟨h env r s k, fun _ _ => nofun⟩
theorem brk_t {x : X} (h : BrkK B n K G cs x) : BrkK B n (KT K) G cs x := fun env r s k => ⟨h env r s k, fun _ _ => nofun⟩
/-! a statement whose value is had goes on -/
def RlS (B : Bs wr) (K : X → σ → SR → Prop) (sr : SR) (o : O σ X) : Prop := match o with
  | .ok x s' => K x s' sr
  | .ex c fs s' => ∃ r', sr = .exc c fs (B.st s' ++ r') ∧ clean (B.b + r'.length) r' = true
  | .no => True
theorem Rl.thenS {α β : Type} {env : Env} {r0 : Store} {f : α → β} {x : Res β} {o : O σ α} {k : β → Store → SR} {k' : α → σ → O σ X} (h : Rl B n G cs1 env r0 f x o)
    (hk : ∀ a s' r', o = .ok a s' → Ok B.b n G cs1 env r' → Pr r0 r' → RlS B K (k (f a) (B.st s' ++ r')) (k' a s')) : RlS B K (x.thenS k) (o.bind k') := by
  cases o with
  | ok a s' =>
    obtain ⟨r', rfl, ok, hl⟩ := h
    exact hk a s' r' rfl ok hl
  | ex c fs s' => obtain ⟨r', rfl, ok⟩ := h; exact ⟨r', rfl, ok.cl⟩
  | no => trivial
theorem J.at_ {o : O σ X} (h : J B n K G cs t s o) {env : Env} {r : Store} (k : Ok B.b n G cs env r) : RlS B K (t env (B.st s ++ r)) o := h env r k
theorem J.of {o : O σ X} (h : ∀ env r, Ok B.b n G cs env r → RlS B K (t env (B.st s ++ r)) o) : J B n K G cs t s o := h
theorem j_last {o : O σ X} (h : J B n K G cs (bCons t bNil) s o) : J B n K G cs t s o := fun env r k => by
  have q := h env r k
  have e : bCons t bNil env (B.st s ++ r) = t env (B.st s ++ r) := by
    unfold bCons bNil
    cases t env (B.st s ++ r) <;> rfl
  rw [e] at q
  exact q
theorem j_end {x : X} (h : EndK B n K G cs x) : J B n K G cs bNil s (.ok x s) := fun env r k => h env r s k
/-- a block that never ends normally, and what stands behind it -/
theorem j_term {o : O σ X} (h : J B n (KT K) G cs t s o) : J B n K G cs (bCons t rest) s o := fun env r k => by
  have q := h env r k
  unfold bCons
  cases o with
  | no => trivial
  | ex c fs s' => obtain ⟨r', e, c⟩ := q; rw [e]; exact ⟨r', rfl, c⟩
  | ok x s' =>
    obtain ⟨q1, q2⟩ := q
    cases e : t env (B.st s ++ r) with
    | nx e1 s1 => exact absurd e (q2 e1 s1)
    | _ => rw [e] at q1; exact q1
theorem j_nil {o : O σ X} (h : J B n K G cs rest s o) : J B n K G cs (bCons bNil rest) s o := h
theorem j_assoc {o : O σ X} (h : J B n K G cs (bCons t1 (bCons t2 rest)) s o) : J B n K G cs (bCons (bCons t1 t2) rest) s o := fun env r k => by
  have q := h env r k
  have e : bCons (bCons t1 t2) rest env (B.st s ++ r) = bCons t1 (bCons t2 rest) env (B.st s ++ r) := by
    unfold bCons
    cases t1 env (B.st s ++ r) <;> rfl
  rw [e]
  exact q
theorem j_ret [En α] {o : O σ α} {f : α → X} (hK : RetK B K f) (h : E B n G cs cs1 te s o) : J B n K G cs (bCons (sRet te) rest) s (o.bind fun a s1 => .ok (f a) s1) := fun env r k => by
  have q : RlS B K (sRet te env (B.st s ++ r)) (o.bind fun a s1 => .ok (f a) s1) := (h env r k).thenS fun a s1 r1 _ k1 p1 => hK a s1 r1
  unfold bCons
  cases o with
  | no => trivial
  | ex c fs s' => obtain ⟨r', e, c⟩ := q; rw [e]; exact ⟨r', rfl, c⟩
  | ok x s' =>
    obtain ⟨r', e, k', p⟩ := h env r k
    have e2 : sRet te env (B.st s ++ r) = .rt (w_ x) (B.st s' ++ r') := by unfold sRet; rw [e]; rfl
    rw [e2]
    exact hK x s' r'
/-- .. of a def: the value itself -/
theorem j_retF [En R] {o : O σ R} (h : E B n G cs cs1 te s o) : J B n (Kfn B) G cs (bCons (sRet te) rest) s o := by
  have q := j_ret (rest := rest) ret_fn h
  rw [bind_pure] at q
  exact q
theorem j_retFT [En R] {o : O σ R} (h : E B n G cs cs1 te s o) : J B n (KT (Kfn B)) G cs (bCons (sRet te) rest) s o := by
  have q := j_ret (rest := rest) (ret_t ret_fn) h
  rw [bind_pure] at q
  exact q
theorem j_retN [En α] {a : α} {x : X} {f : α → X} (ha : (En.e a : F) = .non) (hK : RetK B K f) : J B n K G cs (bCons sRetN rest) s (.ok (f a) s) := fun env r k => by
  show K (f a) s (.rt (.f .non) (B.st s ++ r))
  rw [← ha]
  exact hK a s r
theorem j_cnt {x : X} (h : CntK B n K G cs x) : J B n K G cs (bCons sCont rest) s (.ok x s) := fun env r k => h env r s k
theorem j_brk {x : X} (h : BrkK B n K G cs x) : J B n K G cs (bCons sBreak rest) s (.ok x s) := fun env r k => h env r s k
theorem j_never : J B n K G cs t s .no := fun _ _ _ => trivial
/-! assignments -/
theorem j_set [En α] {i : Nat} {o : O σ α} {k : α → σ → O σ X} (hi : i < n) (h : E B n G cs cs1 te s o) (hr : ∀ a s1, J B n K ((i, w_ a) :: G) cs1 rest s1 (k a s1)) : J B n K G cs (bCons (sSet i te) rest) s (o.bind k) := fun env r q => by
  have e : bCons (sSet i te) rest env (B.st s ++ r) = (te env (B.st s ++ r)).thenS fun w st1 => rest (env.set i (some w)) st1 := by
    unfold bCons sSet
    cases te env (B.st s ++ r) <;> rfl
  rw [e]
  exact (h env r q).thenS fun a s1 r1 _ k1 p1 => hr a s1 _ _ (k1.set hi _)
theorem j_expr [En α] {o : O σ α} {k : σ → O σ X} (h : E B n G cs cs1 te s o) (hr : ∀ s1, J B n K G cs1 rest s1 (k s1)) : J B n K G cs (bCons (sExpr te) rest) s (o.bind fun _ s1 => k s1) := fun env r q => by
  have e : bCons (sExpr te) rest env (B.st s ++ r) = (te env (B.st s ++ r)).thenS fun w st1 => rest env st1 := by
    unfold bCons sExpr
    cases te env (B.st s ++ r) <;> rfl
  rw [e]
  exact (h env r q).thenS fun a s1 r1 _ k1 p1 => hr s1 _ _ k1
theorem j_setC [En α] {i : Nat} {o : O σ (List α)} {k : List α → σ → O σ X} (hi : i < n) (h : EC B n G cs cs1 te s o) (hr : ∀ c a s1, J B n K ((i, .loc (B.b + c)) :: G) ((c, cl_ a) :: cs1) rest s1 (k a s1)) : J B n K G cs (bCons (sSet i te) rest) s (o.bind k) := fun env r q => by
  have z := h env r q
  have e : bCons (sSet i te) rest env (B.st s ++ r) = (te env (B.st s ++ r)).thenS fun w st1 => rest (env.set i (some w)) st1 := by
    unfold bCons sSet
    cases te env (B.st s ++ r) <;> rfl
  rw [e]
  cases o with
  | no => trivial
  | ex c fs s' => obtain ⟨r', e, k'⟩ := z; rw [e]; exact ⟨r', rfl, k'.cl⟩
  | ok l s1 =>
    obtain ⟨r1, e, k1, p1⟩ := z
    rw [e]
    exact hr r1.length l s1 _ _ ((k1.new rfl).set hi _)
theorem j_asg [En α] {g : TGv} {f : α → List (Nat × W)} {o : O σ α} {k : α → σ → O σ X} (hg : Tgt n g f) (h : E B n G cs cs1 te s o) (hr : ∀ a s1, J B n K (f a ++ G) cs1 rest s1 (k a s1)) : J B n K G cs (bCons (sAsg te g) rest) s (o.bind k) := fun env r q => by
  have e : bCons (sAsg te g) rest env (B.st s ++ r) = (te env (B.st s ++ r)).thenS fun w st1 => match g w env with
      | some env1 => rest env1 st1
      | none => .stuck := by
    unfold bCons sAsg
    cases te env (B.st s ++ r) with
    | ok w st1 => simp only [Res.thenS]; cases g w env <;> rfl
    | _ => rfl
  rw [e]
  refine (h env r q).thenS fun a s1 r1 _ k1 p1 => ?_
  obtain ⟨env', e2, l2, kk⟩ := hg a env k1.len
  rw [e2]
  exact hr a s1 _ _ (k1.inE l2 (kk G k1.var))
theorem j_par2 [En α] [En β] {i j : Nat} {q : (β' : Type) → (α × β × Unit → σ → O σ β') → O σ β'} {k : α × β × Unit → σ → O σ X} (hi : i < n) (hj : j < n) (h : EA B n G cs cs1 tr s q) (hr : ∀ a s1, J B n K ((j, w_ a.2.1) :: (i, w_ a.1) :: G) cs1 rest s1 (k a s1)) : J B n K G cs (bCons (sPar2 i j tr) rest) s (q _ fun a s1 => k a s1) := fun env r qq => by
  obtain ⟨oa, h, hq⟩ := h
  rw [hq]
  have e : bCons (sPar2 i j tr) rest env (B.st s ++ r) = (tr env (B.st s ++ r)).thenS fun ws st1 => match ws with
      | [w1, w2] => rest ((env.set i (some w1)).set j (some w2)) st1
      | _ => .stuck := by
    unfold bCons sPar2
    cases tr env (B.st s ++ r) with
    | ok w st1 => simp only [Res.thenS]; rcases w with _ | ⟨a, _ | ⟨b, _ | ⟨c, d⟩⟩⟩ <;> rfl
    | _ => rfl
  rw [e]
  exact (h env r qq).thenS fun a s1 r1 _ k1 p1 => hr a s1 _ _ ((k1.set hi _).set hj _)
theorem j_par3 [En α] [En β] [En γ] {i j l : Nat} {q : (β' : Type) → (α × β × γ × Unit → σ → O σ β') → O σ β'} {k : α × β × γ × Unit → σ → O σ X} (hi : i < n) (hj : j < n) (hl : l < n) (h : EA B n G cs cs1 tr s q) (hr : ∀ a s1, J B n K ((l, w_ a.2.2.1) :: (j, w_ a.2.1) :: (i, w_ a.1) :: G) cs1 rest s1 (k a s1)) : J B n K G cs (bCons (sPar3 i j l tr) rest) s (q _ fun a s1 => k a s1) := fun env r qq => by
  obtain ⟨oa, h, hq⟩ := h
  rw [hq]
  have e : bCons (sPar3 i j l tr) rest env (B.st s ++ r) = (tr env (B.st s ++ r)).thenS fun ws st1 => match ws with
      | [w1, w2, w3] => rest (((env.set i (some w1)).set j (some w2)).set l (some w3)) st1
      | _ => .stuck := by
    unfold bCons sPar3
    cases tr env (B.st s ++ r) with
    | ok w st1 => simp only [Res.thenS]; rcases w with _ | ⟨a, _ | ⟨b, _ | ⟨c, _ | ⟨d, f⟩⟩⟩⟩ <;> rfl
    | _ => rfl
  rw [e]
  exact (h env r qq).thenS fun a s1 r1 _ k1 p1 => hr a s1 _ _ (((k1.set hi _).set hj _).set hl _)
theorem j_aug [En α] [En β] [En γ] {i : Nat} {g : F → F → Option F} {op : α → β → Option γ} {a : α} {o : O σ β} {k : γ → σ → O σ X} (hi : i < n) (hg : Op2T g op) (hv : lk G i = some (w_ a)) (h : EL B n G cs cs1 te s o) (hr : ∀ c s1, J B n K ((i, w_ c) :: G) cs1 rest s1 (k c s1)) : J B n K G cs (bCons (sAug i g te) rest) s (o.bind fun b s1 => (ofO (op a b) s1).bind k) := fun env r q => by
  have e : bCons (sAug i g te) rest env (B.st s ++ r) = (te env (B.st s ++ r)).thenS fun u st1 => (lk2 g (w_ a) u st1).thenS fun z st2 => rest (env.set i (some z)) st2 := by
    unfold bCons sAug
    rw [q.var i _ hv]
    cases te env (B.st s ++ r) with
    | ok u st1 => simp only [Res.thenS]; cases lk2 g (w_ a) u st1 <;> rfl
    | _ => rfl
  rw [e]
  have z := h env r q
  cases o with
  | no => trivial
  | ex c fs s' => obtain ⟨r', e, k'⟩ := z; rw [e]; exact ⟨r', rfl, k'.cl⟩
  | ok b s1 =>
    obtain ⟨w, r1, e, k1, p1, hw⟩ := z
    rw [e]
    simp only [Res.thenS, O.bind]
    cases c : op a b with
    | none => trivial
    | some c' =>
      have e3 : lk2 g (w_ a) w (B.st s1 ++ r1) = .ok (w_ c') (B.st s1 ++ r1) := by
        unfold lk2
        rw [hw s1 r1 env k1]
        show ofOpt (g (En.e a) (En.e b)) _ = _
        rw [hg a b c' c]; rfl
      rw [e3]
      exact hr c' s1 _ _ (k1.set hi _)
/-! lists that change -/
@[irreducible] def appO [En α] (l : List α) (a : α) (s : σ) : O σ (List α) := ofO (if small (l.length + 1) = true then some (l ++ [a]) else none) s
@[irreducible] def extO [En α] (l : List α) (a : List α) (s : σ) : O σ (List α) := ofO (if small (l.length + a.length) = true then some (l ++ a) else none) s
theorem j_app [En α] {i k p : Nat} {l : List α} {o : O σ α} {kk : List α → σ → O σ X} (hv : lk G i = some (.loc (B.b + k))) (h : E B n G cs cs1 te s o) (hc0 : (k, cl_ l) ∈ cs) (hp : cs1[p]? = some (k, cl_ l)) (hr : ∀ l' s1, J B n K G (cs1.set p (k, cl_ l')) rest s1 (kk l' s1)) :
    J B n K G cs (bCons (sExpr (eMut false cAppend (eVar i) (aCons te aNil))) rest) s (o.bind fun a s1 => (appO l a s1).bind kk) := fun env r q => by
  have ev : eVar i env (B.st s ++ r) = .ok (.loc (B.b + k)) (B.st s ++ r) := by
    unfold eVar
    rw [q.var i _ hv]
  have e : bCons (sExpr (eMut false cAppend (eVar i) (aCons te aNil))) rest env (B.st s ++ r) = (te env (B.st s ++ r)).thenS fun w st1 => (doCell cAppend (B.b + k) [w] st1).thenS fun _ st2 => rest env st2 := by
    unfold bCons sExpr eMut aCons aNil
    rw [ev]
    simp only [Res.bind]
    rw [if_pos (by rw [st_get, q.cell _ _ hc0]; rfl)]
    cases te env (B.st s ++ r) with
    | ok w st1 =>
      simp only [Res.bind, Res.thenS]
      cases doCell cAppend (B.b + k) [w] st1 <;> rfl
    | _ => rfl
  rw [e]
  refine (h env r q).thenS fun a s1 r1 _ k1 p1 => ?_
  unfold appO
  by_cases hs : small (l.length + 1) = true
  · rw [if_pos hs]
    have e2 : doCell cAppend (B.b + k) [w_ a] (B.st s1 ++ r1) = .ok (.f .non) (B.st s1 ++ r1.set k (cl_ (l ++ [a]))) := by
      unfold doCell
      rw [st_get, k1.cell _ _ (List.mem_of_getElem? hp)]
      show (match (if small ((l.map En.e).length + 1) = true then some (W.f .non, Cell.lstF (l.map En.e ++ [En.e a])) else none) with
        | some (w, c') => Res.ok w ((B.st s1 ++ r1).set (B.b + k) c')
        | none => .stuck) = _
      rw [if_pos (by rw [List.length_map]; exact hs)]
      show Res.ok (W.f .non) ((B.st s1 ++ r1).set (B.b + k) (Cell.lstF (l.map En.e ++ [En.e a]))) = _
      rw [st_set]
      simp [cl_]
    rw [e2]
    exact hr (l ++ [a]) s1 _ _ (k1.write hp rfl)
  · rw [if_neg hs]; trivial
theorem j_ext [En α] {i k p : Nat} {l : List α} {o : O σ (List α)} {kk : List α → σ → O σ X} (hv : lk G i = some (.loc (B.b + k))) (h : E B n G cs cs1 te s o) (hc0 : (k, cl_ l) ∈ cs) (hp : cs1[p]? = some (k, cl_ l)) (hr : ∀ l' s1, J B n K G (cs1.set p (k, cl_ l')) rest s1 (kk l' s1)) :
    J B n K G cs (bCons (sExpr (eMut false cExtend (eVar i) (aCons te aNil))) rest) s (o.bind fun a s1 => (extO l a s1).bind kk) := fun env r q => by
  have ev : eVar i env (B.st s ++ r) = .ok (.loc (B.b + k)) (B.st s ++ r) := by
    unfold eVar
    rw [q.var i _ hv]
  have e : bCons (sExpr (eMut false cExtend (eVar i) (aCons te aNil))) rest env (B.st s ++ r) = (te env (B.st s ++ r)).thenS fun w st1 => (doCell cExtend (B.b + k) [w] st1).thenS fun _ st2 => rest env st2 := by
    unfold bCons sExpr eMut aCons aNil
    rw [ev]
    simp only [Res.bind]
    rw [if_pos (by rw [st_get, q.cell _ _ hc0]; rfl)]
    cases te env (B.st s ++ r) with
    | ok w st1 =>
      simp only [Res.bind, Res.thenS]
      cases doCell cExtend (B.b + k) [w] st1 <;> rfl
    | _ => rfl
  rw [e]
  refine (h env r q).thenS fun a s1 r1 _ k1 p1 => ?_
  unfold extO
  by_cases hs : small (l.length + a.length) = true
  · rw [if_pos hs]
    have e2 : doCell cExtend (B.b + k) [w_ a] (B.st s1 ++ r1) = .ok (.f .non) (B.st s1 ++ r1.set k (cl_ (l ++ a))) := by
      unfold doCell
      rw [st_get, k1.cell _ _ (List.mem_of_getElem? hp)]
      show (match (if small ((l.map En.e).length + (a.map En.e).length) = true then some (W.f .non, Cell.lstF (l.map En.e ++ a.map En.e)) else none) with
        | some (w, c') => Res.ok w ((B.st s1 ++ r1).set (B.b + k) c')
        | none => .stuck) = _
      rw [if_pos (by rw [List.length_map, List.length_map]; exact hs)]
      show Res.ok (W.f .non) ((B.st s1 ++ r1).set (B.b + k) (Cell.lstF (l.map En.e ++ a.map En.e))) = _
      rw [st_set]
      simp [cl_]
    rw [e2]
    exact hr (l ++ a) s1 _ _ (k1.write hp rfl)
  · rw [if_neg hs]; trivial
@[irreducible] def setO [En α] (l : List α) (i : Int) (a : α) (s : σ) : O σ (List α) := ofO ((ixN l.length i).map fun j => l.set j a) s
theorem j_sub [En α] {i k p : Nat} {l : List α} {o : O σ α} {oi : σ → O σ Int} {kk : List α → σ → O σ X} (hv : lk G i = some (.loc (B.b + k))) (h : E B n G cs cs1 te s o) (h2 : ∀ s1, E B n G cs1 cs2 ta s1 (oi s1)) (hp : cs2[p]? = some (k, cl_ l)) (hr : ∀ l' s1, J B n K G (cs2.set p (k, cl_ l')) rest s1 (kk l' s1)) :
    J B n K G cs (bCons (sSub (eVar i) ta te) rest) s (o.bind fun a s1 => (oi s1).bind fun j s2 => (setO l j a s2).bind kk) := fun env r q => by
  have e : bCons (sSub (eVar i) ta te) rest env (B.st s ++ r) = (te env (B.st s ++ r)).thenS fun w st1 => (eVar i env st1).thenS fun o st2 => (ta env st2).thenS fun j st3 => match setI w st3 o j with
      | some st4 => rest env st4
      | none => .stuck := by
    unfold bCons sSub
    cases te env (B.st s ++ r) with
    | ok w st1 =>
      simp only [Res.thenS]
      cases eVar i env st1 with
      | ok o st2 =>
        simp only
        cases ta env st2 with
        | ok j st3 => simp only; cases setI w st3 o j <;> rfl
        | _ => rfl
      | _ => rfl
    | _ => rfl
  rw [e]
  refine (h env r q).thenS fun a s1 r1 _ k1 p1 => ?_
  have ev : eVar i env (B.st s1 ++ r1) = .ok (.loc (B.b + k)) (B.st s1 ++ r1) := by
    unfold eVar
    rw [k1.var i _ hv]
  rw [ev]
  refine (h2 s1 env r1 k1).thenS fun j s2 r2 _ k2 p2 => ?_
  unfold setO
  cases ej : ixN l.length j with
  | none => trivial
  | some jj =>
    have e2 : setI (w_ a) (B.st s2 ++ r2) (.loc (B.b + k)) (w_ j) = some (B.st s2 ++ r2.set k (cl_ (l.set jj a))) := by
      show ((B.st s2 ++ r2)[B.b + k]?).bind (fun c => (setC j (w_ a) c).map fun c' => (B.st s2 ++ r2).set (B.b + k) c') = _
      rw [st_get, k2.cell _ _ (List.mem_of_getElem? hp)]
      show ((ixN (l.map En.e).length j).map fun j => Cell.lstF ((l.map En.e).set j (En.e a))).map (fun c' => (B.st s2 ++ r2).set (B.b + k) c') = _
      rw [List.length_map, ej]
      simp only [Option.map_some]
      rw [st_set]
      simp [cl_, List.map_set]
    rw [e2]
    exact hr (l.set jj a) s2 _ _ (k2.write hp rfl)
/-! if -/
theorem ifD {env : Env} {st : Store} : bCons (sIf wa t1 t2) rest env st = (wa env st).thenS fun b st1 => if b = true then bCons t1 rest env st1 else bCons t2 rest env st1 := by
  unfold bCons sIf
  cases wa env st with
  | ok b st1 => cases b <;> rfl
  | _ => rfl
theorem j_if {o : O σ Bool} {o1 o2 : σ → O σ X} (hc : ET B n G cs cs1 wa s o) (h1 : ∀ s1, J B n K G cs1 (bCons t1 rest) s1 (o1 s1)) (h2 : ∀ s1, J B n K G cs1 (bCons t2 rest) s1 (o2 s1)) : J B n K G cs (bCons (sIf wa t1 t2) rest) s (o.bind fun b s1 => if b = true then o1 s1 else o2 s1) := fun env r q => by
  rw [ifD]
  refine (hc env r q).thenS fun b s1 r1 _ k1 p1 => ?_
  cases b with
  | true => exact h1 s1 env r1 k1
  | false => exact h2 s1 env r1 k1
theorem j_ifT {o : O σ X} (hc : ET B n G cs cs1 wa s (.ok true s)) (h1 : J B n K G cs1 (bCons t1 rest) s o) : J B n K G cs (bCons (sIf wa t1 t2) rest) s o := fun env r q => by
  rw [ifD]
  obtain ⟨r1, e, k1, p⟩ := hc env r q
  rw [e]
  exact h1 env r1 k1
theorem j_ifF {o : O σ X} (hc : ET B n G cs cs1 wa s (.ok false s)) (h1 : J B n K G cs1 (bCons t2 rest) s o) : J B n K G cs (bCons (sIf wa t1 t2) rest) s o := fun env r q => by
  rw [ifD]
  obtain ⟨r1, e, k1, p⟩ := hc env r q
  rw [e]
  exact h1 env r1 k1
/-- a block, then the rest of what goes on -/
theorem j_seq {o : O σ S} {k : S → σ → O σ X} (h : J B n (Kj B n oG oC) G cs t s o) (hr : ∀ v s1, J B n K (oG v) (oC v) rest s1 (k v s1)) : J B n K G cs (bCons t rest) s (o.bind k) := fun env r q => by
  have z := h env r q
  unfold bCons
  cases o with
  | no => trivial
  | ex c fs s' => obtain ⟨r', e, k'⟩ := z; rw [e]; exact ⟨r', rfl, k'⟩
  | ok v s1 =>
    obtain ⟨env', r', e, k'⟩ := z
    rw [e]
    exact hr v s1 env' r' k'
/-- both ways go on -/
theorem j_ifJ {o : O σ Bool} {o1 o2 : σ → O σ S} {k : S → σ → O σ X} (hc : ET B n G cs cs1 wa s o) (h1 : ∀ s1, J B n (Kj B n oG oC) G cs1 t1 s1 (o1 s1)) (h2 : ∀ s1, J B n (Kj B n oG oC) G cs1 t2 s1 (o2 s1)) (hr : ∀ v s1, J B n K (oG v) (oC v) rest s1 (k v s1)) :
    J B n K G cs (bCons (sIf wa t1 t2) rest) s (o.bind fun b s1 => (if b = true then o1 s1 else o2 s1).bind k) := fun env r q => by
  rw [ifD]
  refine (hc env r q).thenS fun b s1 r1 _ k1 p1 => ?_
  cases b with
  | true => exact j_seq (h1 s1) hr env r1 k1
  | false => exact j_seq (h2 s1) hr env r1 k1
theorem j_ifJT {b : Bool} {v1 v2 : S} {k : S → σ → O σ X} (hc : ET B n G cs cs wa s (.ok b s)) (h1 : ∀ s1, J B n (Kj B n oG oC) G cs t1 s1 (.ok v1 s1)) (h2 : ∀ s1, J B n (Kj B n oG oC) G cs t2 s1 (.ok v2 s1)) (hr : ∀ v s1, J B n K (oG v) (oC v) rest s1 (k v s1)) :
    J B n K G cs (bCons (sIf wa t1 t2) rest) s (k (if b = true then v1 else v2) s) := by
  have h := j_ifJ hc h1 h2 hr
  cases b <;> exact h
/-! loops -/
def foldO (body : β → S → σ → O σ S) : List β → S → σ → O σ S
  | [], v, s => .ok v s
  | x :: xs, v, s => (body x v s).bind fun v1 s1 => foldO body xs v1 s1
def forO (body : β → S → σ → O σ (Fl S R)) : List β → S → σ → O σ (Fl S R)
  | [], v, s => .ok (.nx v) s
  | x :: xs, v, s => (body x v s).bind fun y s1 => match y with
    | .nx v1 => forO body xs v1 s1
    | .bk v1 => .ok (.nx v1) s1
    | .rt a => .ok (.rt a) s1
def flB (k : S → σ → O σ X) (f : R → X) : Fl S R → σ → O σ X := fun y s => match y with
  | .nx v => k v s
  | .bk v => k v s
  | .rt a => .ok (f a) s
theorem for_run [En β] {g : TGv} {f : β → List (Nat × W)} {body : β → S → σ → O σ S} (hg : Tgt n g f) (hb : ∀ x v s, J B n (Ks B n oG oC) (f x ++ oG v) (oC v) t s (body x v s)) :
    ∀ (xs : List β) (v : S) (s : σ), J B n (Kj B n oG oC) (oG v) (oC v) (forL g t (xs.map fun b => w_ b)) s (foldO body xs v s)
  | [], v, s => fun env r k => ⟨env, r, rfl, k⟩
  | x :: xs, v, s => fun env r k => by
    have ih := for_run hg hb xs
    obtain ⟨env', e, l', kk⟩ := hg x env k.len
    have k1 : Ok B.b n (f x ++ oG v) (oC v) env' r := k.inE l' (kk _ k.var)
    have z := hb x v s env' r k1
    rw [List.map_cons]
    unfold forL
    rw [e]
    unfold foldO
    cases eb : body x v s with
    | no => trivial
    | ex c fs s' => rw [eb] at z; obtain ⟨r', e', c'⟩ := z; simp only [e']; exact ⟨r', rfl, c'⟩
    | ok v1 s1 =>
      rw [eb] at z
      obtain ⟨env2, r2, e2, k2⟩ := z
      rcases e2 with e2 | e2
      · simp only [e2]; exact ih v1 s1 env2 r2 k2
      · simp only [e2]; exact ih v1 s1 env2 r2 k2
/-- a block with a loop's ends -/
def KF [En R] (B : Bs wr) (n : Nat) (oG : S → List (Nat × W)) (oC : S → List (Nat × Cell)) : Fl S R → σ → SR → Prop := fun x s sr => match x with
  | .nx v => ∃ env' r', sr = .nx env' (B.st s ++ r') ∧ Ok B.b n (oG v) (oC v) env' r'
  | .bk v => ∃ env' r', sr = .nx env' (B.st s ++ r') ∧ Ok B.b n (oG v) (oC v) env' r'
  | .rt a => ∃ r', sr = .rt (w_ a) (B.st s ++ r')
theorem for_runL [En β] [En R] {g : TGv} {f : β → List (Nat × W)} {body : β → S → σ → O σ (Fl S R)} (hg : Tgt n g f) (hb : ∀ x v s, J B n (Kl B n oG oC) (f x ++ oG v) (oC v) t s (body x v s)) :
    ∀ (xs : List β) (v : S) (s : σ), J B n (KF B n oG oC) (oG v) (oC v) (forL g t (xs.map fun b => w_ b)) s (forO body xs v s)
  | [], v, s => fun env r k => ⟨env, r, rfl, k⟩
  | x :: xs, v, s => fun env r k => by
    have ih := for_runL hg hb xs
    obtain ⟨env', e, l', kk⟩ := hg x env k.len
    have k1 : Ok B.b n (f x ++ oG v) (oC v) env' r := k.inE l' (kk _ k.var)
    have z := hb x v s env' r k1
    rw [List.map_cons]
    unfold forL
    rw [e]
    unfold forO
    cases eb : body x v s with
    | no => trivial
    | ex c fs s' => rw [eb] at z; obtain ⟨r', e', c'⟩ := z; simp only [e']; exact ⟨r', rfl, c'⟩
    | ok y s1 =>
      rw [eb] at z
      cases y with
      | nx v1 =>
        obtain ⟨env2, r2, e2, k2⟩ := z
        rcases e2 with e2 | e2
        · simp only [e2]; exact ih v1 s1 env2 r2 k2
        · simp only [e2]; exact ih v1 s1 env2 r2 k2
      | bk v1 => obtain ⟨env2, r2, e2, k2⟩ := z; simp only [e2]; exact ⟨env2, r2, rfl, k2⟩
      | rt a => obtain ⟨r2, e2⟩ := z; simp only [e2]; exact ⟨r2, rfl⟩
theorem j_seqF [En R] {o : O σ (Fl S R)} {k : S → σ → O σ X} {f : R → X} (hK : RetK B K f) (h : J B n (KF B n oG oC) G cs t s o) (hr : ∀ v s1, J B n K (oG v) (oC v) rest s1 (k v s1)) : J B n K G cs (bCons t rest) s (o.bind (flB k f)) := fun env r q => by
  have z := h env r q
  unfold bCons
  cases o with
  | no => trivial
  | ex c fs s' => obtain ⟨r', e, k'⟩ := z; rw [e]; exact ⟨r', rfl, k'⟩
  | ok y s1 =>
    cases y with
    | nx v => obtain ⟨env', r', e, k'⟩ := z; rw [e]; exact hr v s1 env' r' k'
    | bk v => obtain ⟨env', r', e, k'⟩ := z; rw [e]; exact hr v s1 env' r' k'
    | rt a => obtain ⟨r', e⟩ := z; rw [e]; exact hK a s1 r'
theorem forE {ti : TIv} {g : TGv} {env : Env} {st : Store} : bCons (sFor ti g t) rest env st = (ti env st).thenS fun ws st1 => bCons (forL g t ws) rest env st1 := by
  unfold bCons sFor
  cases ti env st <;> rfl
theorem j_for [En β] {ti : TIv} {g : TGv} {f : β → List (Nat × W)} {body : β → S → σ → O σ S} {v0 : S} {oi : O σ (List β)} {k : S → σ → O σ X} (hi : EI B n G cs cs1 ti s oi) (hg : Tgt n g f) (hb : ∀ x v s, J B n (Ks B n oG oC) (f x ++ oG v) (oC v) t s (body x v s))
    (h0 : Sub (oG v0) G) (hc0 : (oC v0).Sublist cs1) (hr : ∀ v s1, J B n K (oG v) (oC v) rest s1 (k v s1)) : J B n K G cs (bCons (sFor ti g t) rest) s (oi.bind fun xs s1 => (foldO body xs v0 s1).bind k) := fun env r q => by
  rw [forE]
  refine (hi env r q).thenS fun xs s1 r1 _ k1 p1 => ?_
  exact j_seq (for_run hg hb xs v0 s1) hr env r1 (k1.sub h0 hc0)
theorem j_forL [En β] [En R] {ti : TIv} {g : TGv} {f : β → List (Nat × W)} {body : β → S → σ → O σ (Fl S R)} {v0 : S} {oi : O σ (List β)} {k : S → σ → O σ X} {rf : R → X} (hK : RetK B K rf) (hi : EI B n G cs cs1 ti s oi) (hg : Tgt n g f) (hb : ∀ x v s, J B n (Kl B n oG oC) (f x ++ oG v) (oC v) t s (body x v s))
    (h0 : Sub (oG v0) G) (hc0 : (oC v0).Sublist cs1) (hr : ∀ v s1, J B n K (oG v) (oC v) rest s1 (k v s1)) : J B n K G cs (bCons (sFor ti g t) rest) s (oi.bind fun xs s1 => (forO body xs v0 s1).bind (flB k rf)) := fun env r q => by
  rw [forE]
  refine (hi env r q).thenS fun xs s1 r1 _ k1 p1 => ?_
  exact j_seqF hK (for_runL hg hb xs v0 s1) hr env r1 (k1.sub h0 hc0)
def whO (c : S → σ → O σ Bool) (body : S → σ → O σ S) : Nat → S → σ → O σ S
  | 0, _, _ => .no
  | m + 1, v, s => (c v s).bind fun b s1 => if b = true then (body v s1).bind fun v1 s2 => whO c body m v1 s2 else .ok v s1
def whL (c : S → σ → O σ Bool) (body : S → σ → O σ (Fl S R)) : Nat → S → σ → O σ (Fl S R)
  | 0, _, _ => .no
  | m + 1, v, s => (c v s).bind fun b s1 => if b = true then (body v s1).bind fun y s2 => match y with
    | .nx v1 => whL c body m v1 s2
    | .bk v1 => .ok (.nx v1) s2
    | .rt a => .ok (.rt a) s2 else .ok (.nx v) s1
theorem wh_run {c : S → σ → O σ Bool} {body : S → σ → O σ S} (hc : ∀ v s, ET B n (oG v) (oC v) (oC v) wa s (c v s)) (hb : ∀ v s, J B n (Ks B n oG oC) (oG v) (oC v) t s (body v s)) :
    ∀ (m : Nat) (v : S) (s : σ), J B n (Kj B n oG oC) (oG v) (oC v) (whileF wa t m) s (whO c body m v s)
  | 0, v, s => fun env r k => trivial
  | m + 1, v, s => fun env r k => by
    have ih := wh_run hc hb m
    unfold whileF whO
    refine (hc v s env r k).thenS (K := Kj B n oG oC) fun b s1 r1 _ k1 p1 => ?_
    cases b with
    | false => exact ⟨env, r1, rfl, k1⟩
    | true =>
      have z := hb v s1 env r1 k1
      simp only [if_true]
      cases eb : body v s1 with
      | no => trivial
      | ex c fs s' => rw [eb] at z; obtain ⟨r', e', c'⟩ := z; simp only [e']; exact ⟨r', rfl, c'⟩
      | ok v1 s2 =>
        rw [eb] at z
        obtain ⟨env2, r2, e2, k2⟩ := z
        rcases e2 with e2 | e2
        · simp only [e2]; exact ih v1 s2 env2 r2 k2
        · simp only [e2]; exact ih v1 s2 env2 r2 k2
theorem wh_runL [En R] {c : S → σ → O σ Bool} {body : S → σ → O σ (Fl S R)} (hc : ∀ v s, ET B n (oG v) (oC v) (oC v) wa s (c v s)) (hb : ∀ v s, J B n (Kl B n oG oC) (oG v) (oC v) t s (body v s)) :
    ∀ (m : Nat) (v : S) (s : σ), J B n (KF B n oG oC) (oG v) (oC v) (whileF wa t m) s (whL c body m v s)
  | 0, v, s => fun env r k => trivial
  | m + 1, v, s => fun env r k => by
    have ih := wh_runL hc hb m
    unfold whileF whL
    refine (hc v s env r k).thenS (K := KF B n oG oC) fun b s1 r1 _ k1 p1 => ?_
    cases b with
    | false => exact ⟨env, r1, rfl, k1⟩
    | true =>
      have z := hb v s1 env r1 k1
      simp only [if_true]
      cases eb : body v s1 with
      | no => trivial
      | ex c fs s' => rw [eb] at z; obtain ⟨r', e', c'⟩ := z; simp only [e']; exact ⟨r', rfl, c'⟩
      | ok y s2 =>
        rw [eb] at z
        cases y with
        | nx v1 =>
          obtain ⟨env2, r2, e2, k2⟩ := z
          rcases e2 with e2 | e2
          · simp only [e2]; exact ih v1 s2 env2 r2 k2
          · simp only [e2]; exact ih v1 s2 env2 r2 k2
        | bk v1 => obtain ⟨env2, r2, e2, k2⟩ := z; simp only [e2]; exact ⟨env2, r2, rfl, k2⟩
        | rt a => obtain ⟨r2, e2⟩ := z; simp only [e2]; exact ⟨r2, rfl⟩
theorem j_wh {c : S → σ → O σ Bool} {body : S → σ → O σ S} {m : Nat} {v0 : S} {k : S → σ → O σ X} (hc : ∀ v s, ET B n (oG v) (oC v) (oC v) wa s (c v s)) (hb : ∀ v s, J B n (Ks B n oG oC) (oG v) (oC v) t s (body v s))
    (h0 : Sub (oG v0) G) (hc0 : (oC v0).Sublist cs) (hr : ∀ v s1, J B n K (oG v) (oC v) rest s1 (k v s1)) : J B n K G cs (bCons (whileF wa t m) rest) s ((whO c body m v0 s).bind k) := fun env r q =>
  j_seq (wh_run hc hb m v0 s) hr env r (q.sub h0 hc0)
theorem j_whL [En R] {c : S → σ → O σ Bool} {body : S → σ → O σ (Fl S R)} {m : Nat} {v0 : S} {k : S → σ → O σ X} {rf : R → X} (hK : RetK B K rf) (hc : ∀ v s, ET B n (oG v) (oC v) (oC v) wa s (c v s)) (hb : ∀ v s, J B n (Kl B n oG oC) (oG v) (oC v) t s (body v s))
    (h0 : Sub (oG v0) G) (hc0 : (oC v0).Sublist cs) (hr : ∀ v s1, J B n K (oG v) (oC v) rest s1 (k v s1)) : J B n K G cs (bCons (whileF wa t m) rest) s ((whL c body m v0 s).bind (flB k rf)) := fun env r q =>
  j_seqF hK (wh_runL hc hb m v0 s) hr env r (q.sub h0 hc0)
/-! defs -/
def argG : Nat → List W → List (Nat × W)
  | _, [] => []
  | i, w :: ws => (i, w) :: argG (i + 1) ws
theorem argG_get : ∀ (ws : List W) (i j : Nat) (w : W), lk (argG i ws) j = some w → i ≤ j ∧ ws[j - i]? = some w
  | [], i, j, w, h => by cases h
  | u :: ws, i, j, w, h => by
    unfold argG at h
    rw [lk_cons] at h
    cases e : Nat.beq i j with
    | true =>
      rw [e] at h; cases h
      cases Nat.eq_of_beq_eq_true e
      exact ⟨Nat.le_refl _, by simp⟩
    | false =>
      rw [e] at h
      obtain ⟨h1, h2⟩ := argG_get ws (i + 1) j w h
      refine ⟨by omega, ?_⟩
      rw [show j - i = (j - (i + 1)) + 1 from by omega]
      simpa using h2
theorem ok_start {b : Nat} {ws : List W} (hl : ws.length ≤ n) {r : Store} {cs : List (Nat × Cell)} (hr : clean (b + r.length) r = true) (hn : (cs.map Prod.fst).Nodup) (hc : ∀ k c, (k, c) ∈ cs → r[k]? = some c) : Ok b n (argG 0 ws) cs (ws.map some ++ List.replicate (n - ws.length) none) r := by
  refine ⟨by simp; omega, hr, hn, hc, fun i w h => ?_⟩
  obtain ⟨_, h2⟩ := argG_get ws 0 i w h
  have h2 : ws[i]? = some w := by simpa using h2
  have hi := (List.getElem?_eq_some_iff.mp h2).1
  rw [List.getElem?_append_left (by simp; exact hi), List.getElem?_map, h2]
  rfl
def mkB (wr : Wr σ) (rest : Store) (s : σ) (h : Cl (wr.put s rest)) : Bs wr := ⟨rest, fun s' => wr.cl s s' rest h, (wr.put s rest).length, fun s' => wr.len s' s rest⟩
theorem fn_ok [En R] [Ar A] {np : Nat} {d : A → σ → O σ R} (hw : ∀ a : A, (Ar.ws a).length = np) (hn : np ≤ n) (h : ∀ (B : Bs wr) (a : A) (s : σ), J B n (Kfn B) (argG 0 (Ar.ws a)) [] t s (d a s)) : FnG wr (fnM np n t) d := fun rest s a hcl => by
  have z := h (mkB wr rest s hcl) a s ((Ar.ws a).map some ++ List.replicate (n - (Ar.ws a).length) none) [] (ok_start (by rw [hw]; exact hn) (by simp [clean]) (by simp) (fun _ _ q => nomatch q))
  rw [List.append_nil] at z
  have e : fnM np n t (Ar.ws a) (wr.put s rest) = (match t ((Ar.ws a).map some ++ List.replicate (n - (Ar.ws a).length) none) (wr.put s rest) with
      | .rt w st1 => retW (wr.put s rest).length w st1
      | .nx _ st1 => retW (wr.put s rest).length (.f .non) st1
      | .exc c fs st1 => .exc c fs st1
      | _ => .stuck) := by
    unfold fnM runFn
    rw [if_pos (hw a)]
    all_goals (cases t ((Ar.ws a).map some ++ List.replicate (n - (Ar.ws a).length) none) (wr.put s rest) <;> rfl)
  rw [e]
  cases ed : d a s with
  | no => trivial
  | ex c fs s' =>
    rw [ed] at z
    obtain ⟨r', e1, e2⟩ := z
    simp only [show t _ (wr.put s rest) = _ from e1]
    refine ⟨r', rfl, ?_⟩
    have hb := wr.cl s s' rest hcl
    unfold Cl VS.clean at hb ⊢
    rw [List.all_append, Bool.and_eq_true, List.length_append]
    refine ⟨below_all (Nat.le_add_right _ _) hb, ?_⟩
    rw [wr.len s' s rest]
    exact e2
  | ok x s' =>
    rw [ed] at z
    have hb := wr.cl s s' rest hcl
    rcases z with ⟨r', e1⟩ | ⟨e0, env', r', e1⟩
    · simp only [show t _ (wr.put s rest) = _ from e1]
      rw [wr.len s s' rest]
      exact retW_tmp hb _ r'
    · simp only [show t _ (wr.put s rest) = _ from e1]
      rw [wr.len s s' rest]
      have z := retW_tmp hb .non r'
      rw [← e0] at z ⊢
      exact z
theorem fn_okP [En R] [Ar A] {np : Nat} {d : A → P R} (hw : ∀ a : A, (Ar.ws a).length = np) (hn : np ≤ n) (h : ∀ (B : Bs wU) (a : A) (s : Unit), J B n (Kfn B) (argG 0 (Ar.ws a)) [] t s (d a)) : FnP (fnM np n t) d := fn_ok hw hn fun B a s => h B a s
end
end TL

set_option Elab.async false
set_option linter.all false
set_option maxRecDepth 100000
set_option maxHeartbeats 4000000
set_option autoImplicit false
/-! T5: objects made as data; the operators. -/
namespace TL
open VS
open L2 (atI ixN)
section
variable {σ α β γ δ R X S A : Type} {wr : Wr σ} {B : Bs wr} {n : Nat} {G G' : List (Nat × W)} {cs cs1 cs2 cs3 : List (Nat × Cell)} {s : σ} {K : X → σ → SR → Prop} {oG : S → List (Nat × W)} {oC : S → List (Nat × Cell)} {rest t t1 t2 : TSv} {ta tb te : TEv} {wa : TTv} {tr : TAv} {T : Tab}
/-! ### __init__ -/
def fsW (fs : List (Nat × F)) : List (Nat × W) := fs.map fun p => (p.1, W.f p.2)
/-- self stands at place 0 -/
def Ki [En R] (c : Nat) (B : Bs wU) : R → Unit → SR → Prop := fun x _ sr => ∃ r' fs, ((∃ env', sr = .nx env' (B.rest ++ r')) ∨ sr = .rt (.f .non) (B.rest ++ r')) ∧ r'[0]? = some (.ins c (fsW fs)) ∧ (En.e x : F) = .obj c fs
theorem end_i [En R] {B : Bs wU} {c : Nat} {x : R} {fs : List (Nat × F)} (hm : (0, Cell.ins c (fsW fs)) ∈ cs) (he : (En.e x : F) = .obj c fs) : EndK B n (Ki c B) G cs x := fun env r s k => ⟨r, fs, .inl ⟨env, rfl⟩, k.cell _ _ hm, he⟩
theorem below_put {b i : Nat} {x : F} : ∀ {fs : List (Nat × W)}, (fs.all fun p => p.2.below b) = true → ((putA i (.f x) fs).all fun p => p.2.below b) = true
  | [], _ => rfl
  | (j, u) :: fs, h => by
    rw [List.all_cons, Bool.and_eq_true] at h
    unfold putA
    by_cases hj : j = i
    · rw [if_pos hj, List.all_cons, Bool.and_eq_true]; exact ⟨rfl, h.2⟩
    · rw [if_neg hj, List.all_cons, Bool.and_eq_true]; exact ⟨h.1, below_put h.2⟩
theorem j_attr [En α] {c i k p : Nat} {o : O σ α} {fs : List (Nat × W)} {kk : α → σ → O σ X} {i0 : Nat} (hv : lk G i0 = some (.loc (B.b + k))) (hT : T.okf c i = true) (hl : fs.length < 1000) (h : E B n G cs cs1 te s o) (hp : cs1[p]? = some (k, .ins c fs)) (hr : ∀ a s1, J B n K G (cs1.set p (k, .ins c (putA i (w_ a) fs))) rest s1 (kk a s1)) :
    J B n K G cs (bCons (sAttr T i (eVar i0) te) rest) s (o.bind kk) := fun env r q => by
  have e : bCons (sAttr T i (eVar i0) te) rest env (B.st s ++ r) = (te env (B.st s ++ r)).thenS fun w st1 => (eVar i0 env st1).thenS fun o st2 => match setA T i w st2 o with
      | some st3 => rest env st3
      | none => .stuck := by
    unfold bCons sAttr
    cases te env (B.st s ++ r) with
    | ok w st1 =>
      simp only [Res.thenS]
      cases eVar i0 env st1 with
      | ok o st2 => simp only; cases setA T i w st2 o <;> rfl
      | _ => rfl
    | _ => rfl
  rw [e]
  refine (h env r q).thenS fun a s1 r1 _ k1 p1 => ?_
  have ev : eVar i0 env (B.st s1 ++ r1) = .ok (.loc (B.b + k)) (B.st s1 ++ r1) := by
    unfold eVar
    rw [k1.var i0 _ hv]
  rw [ev]
  have hm := k1.cell _ _ (List.mem_of_getElem? hp)
  have e2 : setA T i (w_ a) (B.st s1 ++ r1) (.loc (B.b + k)) = some (B.st s1 ++ r1.set k (.ins c (putA i (w_ a) fs))) := by
    show (match (B.st s1 ++ r1)[B.b + k]? with
      | some (.ins c fs) => if T.okf c i = true ∧ fs.length < 1000 then some ((B.st s1 ++ r1).set (B.b + k) (Cell.ins c (putA i (w_ a) fs))) else none
      | _ => none) = _
    rw [st_get, hm]
    show (if T.okf c i = true ∧ fs.length < 1000 then some ((B.st s1 ++ r1).set (B.b + k) (Cell.ins c (putA i (w_ a) fs))) else none) = _
    rw [if_pos ⟨hT, hl⟩, st_set]
  have hb : Cell.below (B.b + r1.length) (.ins c fs) = true := List.all_eq_true.mp k1.cl _ (List.mem_of_getElem? hm)
  simp only [Res.thenS]
  rw [e2]
  exact hr a s1 _ _ (k1.write hp (below_put hb))
/-- self.f, of a cell -/
theorem e_attrC [En α] {c i i0 k : Nat} {fs : List (Nat × W)} {a : α} (hv : lk G i0 = some (.loc (B.b + k))) (hm : (k, .ins c fs) ∈ cs) (hf : fs.lookup i = some (w_ a)) : E B n G cs cs (eAttr i (eVar i0)) s (.ok a s) := fun env r q => by
  have ev : eVar i0 env (B.st s ++ r) = .ok (.loc (B.b + k)) (B.st s ++ r) := by
    unfold eVar
    rw [q.var i0 _ hv]
  refine Rl.mk ?_ q .refl
  unfold eAttr
  rw [ev]
  show ofW (match (B.st s ++ r)[B.b + k]? with
    | some (.ins _ fs) => fs.lookup i
    | _ => none) _ = _
  rw [st_get, q.cell _ _ hm]
  show ofW (fs.lookup i) _ = _
  rw [hf]; rfl
theorem deep_fs {b : Nat} {st : Store} {m : Nat} : ∀ fs : List (Nat × F), ((fsW fs).mapM fun p => (deepF b st m p.2).map fun x => (p.1, x)) = some fs
  | [] => rfl
  | (i, x) :: fs => by
    have ih := deep_fs (b := b) (st := st) (m := m) fs
    have e : deepF b st m (W.f x) = some x := by cases m <;> rfl
    show (((i, W.f x) :: fsW fs).mapM fun p => (deepF b st m p.2).map fun x => (p.1, x)) = _
    rw [List.mapM_cons, ih]
    simp [e]
theorem below_fs {b c : Nat} (fs : List (Nat × F)) : Cell.below b (.ins c (fsW fs)) = true := by
  show ((fsW fs).all fun p => p.2.below b) = true
  induction fs with
  | nil => rfl
  | cons p fs ih => exact ih
theorem mk_ok [En R] [Ar A] {np c : Nat} {d : A → P R} (hw : ∀ a : A, (Ar.ws a).length + 1 = np) (hn : np ≤ n) (h : ∀ (B : Bs wU) (a : A) (s : Unit), J B n (Ki c B) (argG 0 (.loc (B.b + 0) :: Ar.ws a)) [(0, .ins c [])] t s (d a)) : FnP (mkF c (fnM np n t)) d := fun rest s a hcl => by
  have hcl : Cl rest := hcl
  have z := h (mkB wU rest () hcl) a () ((W.loc (rest.length + 0) :: Ar.ws a).map some ++ List.replicate (n - (W.loc (rest.length + 0) :: Ar.ws a).length) none) [.ins c []] (ok_start (by rw [List.length_cons, hw]; exact hn) (by simp [clean, Cell.below]) (by simp) (fun k c' q => by simp at q; obtain ⟨rfl, rfl⟩ := q; rfl))
  have z : RlS (mkB wU rest () hcl) (Ki c (mkB wU rest () hcl)) (t ((W.loc (rest.length + 0) :: Ar.ws a).map some ++ List.replicate (n - (W.loc (rest.length + 0) :: Ar.ws a).length) none) (rest ++ [.ins c []])) (d a) := z
  rw [Nat.add_zero] at z
  have e : fnM np n t (W.loc rest.length :: Ar.ws a) (rest ++ [.ins c []]) = (match t ((W.loc rest.length :: Ar.ws a).map some ++ List.replicate (n - (W.loc rest.length :: Ar.ws a).length) none) (rest ++ [.ins c []]) with
      | .rt w st1 => retW (rest ++ [Cell.ins c []]).length w st1
      | .nx _ st1 => retW (rest ++ [Cell.ins c []]).length (.f .non) st1
      | .exc c fs st1 => .exc c fs st1
      | _ => .stuck) := by
    unfold fnM runFn
    rw [if_pos (by rw [List.length_cons]; exact hw a)]
    all_goals (cases t ((W.loc rest.length :: Ar.ws a).map some ++ List.replicate (n - (W.loc rest.length :: Ar.ws a).length) none) (rest ++ [.ins c []]) <;> rfl)
  dsimp only
  cases ed : d a with
  | no => trivial
  | ex c' fs s' =>
    rw [ed] at z
    obtain ⟨r', e1, e2⟩ := z
    refine ⟨r', ?_, ?_⟩
    · show mkF c (fnM np n t) (Ar.ws a) rest = .exc c' fs (rest ++ r')
      unfold mkF
      rw [e, e1]
      rfl
    · show Cl (rest ++ r')
      unfold Cl VS.clean at hcl ⊢
      rw [List.all_append, Bool.and_eq_true, List.length_append]
      exact ⟨below_all (Nat.le_add_right _ _) hcl, e2⟩
  | ok x s' =>
    rw [ed] at z
    obtain ⟨r', fs, e1, e2, e3⟩ := z
    have e1 : (∃ env', t ((W.loc rest.length :: Ar.ws a).map some ++ List.replicate (n - (W.loc rest.length :: Ar.ws a).length) none) (rest ++ [.ins c []]) = .nx env' (rest ++ r')) ∨ t ((W.loc rest.length :: Ar.ws a).map some ++ List.replicate (n - (W.loc rest.length :: Ar.ws a).length) none) (rest ++ [.ins c []]) = .rt (.f .non) (rest ++ r') := e1
    obtain ⟨r2, rfl⟩ : ∃ r2, r' = .ins c (fsW fs) :: r2 := by
      cases r' with
      | nil => cases e2
      | cons y r2 => simp at e2; subst e2; exact ⟨r2, rfl⟩
    have hc1 : Cl (rest ++ [Cell.ins c (fsW fs)]) := by
      unfold Cl VS.clean at hcl ⊢
      rw [List.all_append, Bool.and_eq_true, List.length_append]
      refine ⟨below_all (Nat.le_add_right _ _) hcl, ?_⟩
      rw [List.all_cons, below_fs]; rfl
    have er : retW (rest ++ [Cell.ins c []]).length (.f .non) (rest ++ .ins c (fsW fs) :: r2) = .ok (.f .non) (rest ++ [.ins c (fsW fs)]) := by
      have := retW_tmp hc1 .non r2
      rw [List.length_append, List.append_assoc] at this
      rw [List.length_append]
      exact this
    have e4 : fnM np n t (W.loc rest.length :: Ar.ws a) (rest ++ [.ins c []]) = .ok (.f .non) (rest ++ [.ins c (fsW fs)]) := by
      rw [e]
      rcases e1 with ⟨env', e1⟩ | e1
      · rw [e1]; exact er
      · rw [e1]; exact er
    show mkF c (fnM np n t) (Ar.ws a) rest = .ok (w_ x) rest
    unfold mkF
    rw [e4]
    show frz rest.length (.loc rest.length) (rest ++ [.ins c (fsW fs)]) = _
    have e5 : deepF rest.length (rest ++ [.ins c (fsW fs)]) 3 (.loc rest.length) = some (.obj c fs) := by
      unfold deepF
      rw [if_pos (Nat.le_refl _), last_get]
      show ((fsW fs).mapM fun p => (deepF rest.length (rest ++ [.ins c (fsW fs)]) 2 p.2).map fun x => (p.1, x)).map (F.obj c) = _
      rw [deep_fs]; rfl
    unfold frz
    rw [e5]
    simp only [List.take_left]
    rw [if_pos hcl, ← e3]
end
end TL

set_option Elab.async false
set_option linter.all false
set_option maxRecDepth 100000
set_option maxHeartbeats 4000000
set_option autoImplicit false
/-! T6: the operators. -/
namespace TL
open VS
open L2 (atI ixN)
section
variable {σ α β γ δ R : Type}
/-! ### numbers -/
theorem o_addI : Op2T addF fun (a b : Int) => some (a + b) := fun a b c h => by cases h; rfl
theorem o_iaddI : Op2T addI fun (a b : Int) => some (a + b) := fun a b c h => by cases h; rfl
theorem o_subI : Op2T subF fun (a b : Int) => some (a - b) := fun a b c h => by cases h; rfl
@[irreducible] def mulO (i j : Int) : Option Int := if (inRg 18446744073709551615 i || (inRg 18446744073709551615 j || Nat.ble (bitsI i + bitsI j) 999999)) = true then some (i * j) else none
theorem o_mulI : Op2T mulF mulO := fun a b c h => by
  unfold mulO at h
  obtain ⟨hs, rfl⟩ := ifSome h
  rw [Bool.or_eq_true, Bool.or_eq_true, inRg_iff, inRg_iff, Nat.ble_eq] at hs
  refine if_pos ?_
  rcases hs with hs | hs | hs
  · exact .inl (by simp only [Bool.and_eq_true, decide_eq_true_eq]; omega)
  · exact .inr (.inl (by simp only [Bool.and_eq_true, decide_eq_true_eq]; omega))
  · exact .inr (.inr (by omega))
theorem mulO_ok {i j : Int} (h : -(2 ^ 64) < i ∧ i < 2 ^ 64 ∨ -(2 ^ 64) < j ∧ j < 2 ^ 64) : mulO i j = some (i * j) := by
  unfold mulO
  refine if_pos ?_
  rw [Bool.or_eq_true, Bool.or_eq_true, inRg_iff, inRg_iff]
  rcases h with h | h
  · exact .inl (by omega)
  · exact .inr (.inl (by omega))
@[irreducible] def divO (i j : Int) : Option Int := if 0 < j ∧ bitsI j < 9000 then some (i / j) else none
theorem o_divI : Op2T fdivF divO := fun a b c h => by
  unfold divO at h
  obtain ⟨hs, rfl⟩ := ifSome h
  exact if_pos hs
theorem log2_64 {n : Nat} (h : n < 2 ^ 64) : n.log2 < 9000 := by
  by_cases q : n = 0
  · subst q; decide
  · have h1 := (Nat.log2_lt q (k := 64)).mpr h
    omega
theorem divO_ok {i j : Int} (h : 0 < j) (h' : j < 2 ^ 64) : divO i j = some (i / j) := by
  unfold divO
  exact if_pos ⟨h, log2_64 (by omega)⟩
@[irreducible] def modO (i j : Int) : Option Int := if 0 < j then some (i % j) else none
theorem o_modI : Op2T modF modO := fun a b c h => by
  unfold modO at h
  obtain ⟨hs, rfl⟩ := ifSome h
  exact if_pos hs
theorem modO_ok {i j : Int} (h : 0 < j) : modO i j = some (i % j) := by
  unfold modO
  exact if_pos h
@[irreducible] def powO (i j : Int) : Option Int := if (posB j && (inRg 1000 j && inRg 18446744073709551615 i)) = true then some (i ^ j.toNat) else none
theorem o_powI : Op2T powF powO := fun a b c h => by
  unfold powO at h
  obtain ⟨hs, rfl⟩ := ifSome h
  rw [Bool.and_eq_true, Bool.and_eq_true, inRg_iff, inRg_iff, posB_iff] at hs
  exact if_pos ⟨hs.1, by omega, by omega⟩
theorem powO_ok {i : Int} {j : Nat} (hj : j ≤ 1000) (hi : i.natAbs < 2 ^ 64) : powO i j = some (i ^ j) := by
  unfold powO
  rw [if_pos (by rw [Bool.and_eq_true, Bool.and_eq_true, inRg_iff, inRg_iff, posB_iff]; omega)]
  rfl
theorem o_neg : Op1T negF fun (a : Int) => some (-a) := fun a c h => by cases h; rfl
theorem o_lt : Op2T ltF fun (a b : Int) => some (decide (a < b)) := fun a b c h => by cases h; rfl
theorem o_le : Op2T leF fun (a b : Int) => some (decide (a ≤ b)) := fun a b c h => by cases h; rfl
theorem o_gt : Op2T gtF fun (a b : Int) => some (decide (b < a)) := fun a b c h => by cases h; rfl
theorem o_ge : Op2T geF fun (a b : Int) => some (decide (b ≤ a)) := fun a b c h => by cases h; rfl
theorem o_max2 : Op2T max2F fun (a b : Int) => some (if b > a then b else a) := fun a b c h => by cases h; rfl
theorem o_min2 : Op2T min2F fun (a b : Int) => some (if b < a then b else a) := fun a b c h => by cases h; rfl
theorem o_abs : Op1T absF fun (a : Int) => some (if a < 0 then -a else a) := fun a c h => by cases h; rfl
theorem o_intI : Op1T intF fun (a : Int) => some a := fun a c h => by cases h; rfl
theorem o_intB : Op1T intF fun (a : Bool) => some (if a then (1 : Int) else 0) := fun a c h => by cases h; rfl
theorem o_boolB : Op1T boolF fun (a : Bool) => some a := fun a c h => by cases h; rfl
theorem o_boolI : Op1T boolF fun (a : Int) => some (a != 0) := fun a c h => by cases h; rfl
@[irreducible] def lenRg (a : Int) : Option Int := if Nat.ble a.toNat 4611686018427387903 = true then some ((a.toNat : Nat) : Int) else none
theorem o_lenRg : Op1T lenRgF lenRg := fun a c h => by
  unfold lenRg at h
  obtain ⟨hs, rfl⟩ := ifSome h
  rw [Nat.ble_eq] at hs
  exact if_pos (show a < 2 ^ 62 by omega)
theorem lenRg_ok {a : Int} (h : 0 ≤ a) (h' : a < 2 ^ 62) : lenRg a = some a := by
  unfold lenRg
  rw [if_pos (by rw [Nat.ble_eq]; omega)]
  congr 1
  omega
/-! ### texts and lists -/
@[irreducible] def addS (a b : List Nat) : Option (List Nat) := if small (a.length + b.length) = true then some (a ++ b) else none
theorem o_addS : Op2T addF addS := fun a b c h => by
  unfold addS at h
  obtain ⟨hs, rfl⟩ := ifSome h
  exact if_pos hs
theorem o_iaddS : Op2T addI addS := fun a b c h => by
  unfold addS at h
  obtain ⟨hs, rfl⟩ := ifSome h
  exact if_pos hs
@[irreducible] def addL (a b : List α) : Option (List α) := if small (a.length + b.length) = true then some (a ++ b) else none
theorem o_addL [En α] : Op2T addF (addL (α := α)) := fun a b c h => by
  unfold addL at h
  obtain ⟨hs, rfl⟩ := ifSome h
  show (if small ((a.map En.e).length + (b.map En.e).length) = true then some (F.lst (a.map En.e ++ b.map En.e)) else none) = _
  rw [if_pos (by rw [List.length_map, List.length_map]; exact hs), ← List.map_append]
  rfl
theorem o_addTu [En α] : Op2T addF (fun (a b : Tu α) => (addL a.l b.l).map Tu.mk) := fun a b c h => by
  obtain ⟨l, hl, rfl⟩ := opt_map_some h
  unfold addL at hl
  obtain ⟨hs, rfl⟩ := ifSome hl
  show (if small ((a.l.map En.e).length + (b.l.map En.e).length) = true then some (F.tup (a.l.map En.e ++ b.l.map En.e)) else none) = _
  rw [if_pos (by rw [List.length_map, List.length_map]; exact hs), ← List.map_append]
  rfl
@[irreducible] def mulS (a : List Nat) (k : Int) : Option (List Nat) := if decide (-1000000 ≤ k) = true ∧ decide (k ≤ 1000000) = true ∧ small (a.length * k.toNat) = true then some (repS k a) else none
theorem o_mulS : Op2T mulF mulS := fun a b c h => by
  unfold mulS at h
  obtain ⟨hs, rfl⟩ := ifSome h
  exact if_pos hs
@[irreducible] def mulL (a : List α) (k : Int) : Option (List α) := if decide (-1000000 ≤ k) = true ∧ decide (k ≤ 1000000) = true ∧ small (a.length * k.toNat) = true then some (List.replicate k.toNat a).flatten else none
theorem o_mulL [En α] : Op2T mulF (mulL (α := α)) := fun a b c h => by
  unfold mulL at h
  obtain ⟨hs, rfl⟩ := ifSome h
  show (if decide (-1000000 ≤ b) = true ∧ decide (b ≤ 1000000) = true ∧ small ((a.map En.e).length * b.toNat) = true then some (F.lst (List.replicate b.toNat (a.map En.e)).flatten) else none) = _
  rw [if_pos (by rw [List.length_map]; exact hs)]
  show some (F.lst _) = some (F.lst _)
  rw [List.map_flatten, List.map_replicate]
theorem o_lenL [En α] : Op1T lenF fun (l : List α) => some (l.length : Int) := fun a c h => by
  cases h
  show some (F.int ((a.map En.e).length : Nat)) = _
  rw [List.length_map]; rfl
theorem o_lenTu [En α] : Op1T lenF fun (l : Tu α) => some (l.l.length : Int) := fun a c h => by
  cases h
  show some (F.int ((a.l.map En.e).length : Nat)) = _
  rw [List.length_map]; rfl
theorem o_lenP [En α] [En β] : Op1T lenF fun (_ : α × β) => some (2 : Int) := fun a c h => by cases h; rfl
@[irreducible] def lenS (l : List Nat) : Option Int := if small l.length = true then some (l.length : Int) else none
theorem o_lenS : Op1T lenF lenS := fun a c h => by
  unfold lenS at h
  obtain ⟨hs, rfl⟩ := ifSome h
  exact if_pos hs
theorem lenS_ok {l : List Nat} (h : l.length ≤ 1000000) : lenS l = some (l.length : Int) := by
  unfold lenS
  exact if_pos (decide_eq_true h)
theorem o_lenD [En α] [En β] : Op1T lenF fun (d : Dc α β) => some (d.l.length : Int) := fun a c h => by
  cases h
  show some (F.int ((a.l.map _).length : Nat)) = _
  rw [List.length_map]; rfl
theorem intsOf_e (l : List Int) : intsOf (l.map En.e) = some l := intsOf_map l
theorem blsOf_e (l : List Bool) : blsOf (l.map En.e) = some l := blsOf_map l
theorem strsOf_e (l : List (List Nat)) : strsOf (l.map En.e) = some l := strsOf_map l
theorem strsOf_ch (l : List Ch) : strsOf (l.map En.e) = some (l.map fun c => [c.c]) := by
  have := strsOf_map (l.map fun c => [c.c])
  rw [List.map_map] at this
  exact this
def maxO : List Int → Option Int
  | [] => none
  | m :: r => some (maxL m r)
def minO : List Int → Option Int
  | [] => none
  | m :: r => some (minL m r)
theorem o_maxL : Op1T maxF maxO := fun a c h => by
  show (intsOf (a.map En.e)).bind _ = _
  rw [intsOf_e]
  cases a with
  | nil => cases h
  | cons m r => cases h; rfl
theorem o_minL : Op1T minF minO := fun a c h => by
  show (intsOf (a.map En.e)).bind _ = _
  rw [intsOf_e]
  cases a with
  | nil => cases h
  | cons m r => cases h; rfl
theorem o_sum : Op1T sumF fun (l : List Int) => some l.sum := fun a c h => by
  cases h
  show (intsOf (a.map En.e)).map _ = _
  rw [intsOf_e]; rfl
theorem o_any : Op1T anyF fun (l : List Bool) => some (l.any id) := fun a c h => by
  cases h
  show (blsOf (a.map En.e)).map _ = _
  rw [blsOf_e]; rfl
theorem o_all : Op1T allB fun (l : List Bool) => some (l.all id) := fun a c h => by
  cases h
  show (blsOf (a.map En.e)).map _ = _
  rw [blsOf_e]; rfl
theorem o_sorted : Op1T sortedF fun (l : List Int) => some (sortI l) := fun a c h => by
  cases h
  show (intsOf (a.map En.e)).map _ = _
  rw [intsOf_e]; rfl
theorem o_ss : Op1T sortSetF fun (l : List Int) => if l.length < 64 then some (ssI l) else none := fun a c h => by
  obtain ⟨hs, rfl⟩ := ifSome h
  show (match intsOf (a.map En.e) with
    | some ns => if ns.length < 64 then some (F.lst ((ssI ns).map .int)) else none
    | none => none) = _
  rw [intsOf_e]
  exact if_pos hs
theorem o_listL [En α] : Op1T listF fun (l : List α) => some l := fun a c h => by cases h; rfl
theorem o_listTu [En α] : Op1T listF fun (l : Tu α) => some l.l := fun a c h => by cases h; rfl
theorem o_listP [En α] : Op1T listF fun (p : α × α) => some [p.1, p.2] := fun a c h => by cases h; rfl
theorem o_listSc : Op1T listF fun (l : Sc) => some l.l := fun a c h => by cases h; rfl
theorem o_tupleL [En α] : Op1T tupleF fun (l : List α) => some (Tu.mk l) := fun a c h => by cases h; rfl
theorem o_tupleTu [En α] : Op1T tupleF fun (l : Tu α) => some l := fun a c h => by cases h; rfl
@[irreducible] def joinS (sep : List Nat) (ts : List (List Nat)) : Option (List Nat) := if small ((ts.map List.length).sum + ts.length * sep.length) = true then some (VS.joinL sep ts) else none
theorem o_joinS : OpMT "str" joinF joinS := ⟨fun _ => rfl, fun a b c h => by
  unfold joinS at h
  obtain ⟨hs, rfl⟩ := ifSome h
  show (strsOf (b.map En.e)).bind _ = _
  rw [strsOf_e, Option.bind_some]
  rw [if_pos hs]; rfl⟩
def joinCh (sep : List Nat) (ts : List Ch) : Option (List Nat) := joinS sep (ts.map fun c => [c.c])
theorem o_joinCh : OpMT "str" joinF joinCh := ⟨fun _ => rfl, fun a b c h => by
  unfold joinCh joinS at h
  obtain ⟨hs, rfl⟩ := ifSome h
  show (strsOf (b.map En.e)).bind _ = _
  rw [strsOf_ch, Option.bind_some]
  rw [if_pos hs]; rfl⟩
@[irreducible] def sidx (l : List Nat) (c : Ch) : Option Int := match sidxF (.str l) [.str [c.c]] with
  | some (.int i) => some i
  | _ => none
theorem o_sidx : OpMT "str" sidxF sidx := ⟨fun _ => rfl, fun a b c h => by
  unfold sidx at h
  show sidxF (.str a) [.str [b.c]] = _
  split at h
  · rename_i i e
    rw [e]; cases h; rfl
  · cases h⟩
/-! in -/
theorem o_inCh : Op2T inF fun (c : Ch) (z : List Nat) => some (decide (c.c ∈ z)) := fun a b c h => by cases h; rfl
theorem o_ninCh : Op2T ninF fun (c : Ch) (z : List Nat) => some (!decide (c.c ∈ z)) := fun a b c h => by cases h; rfl
theorem inFl_int (a : Int) (l : List Int) : inFl (F.int a) (l.map F.int) = some (decide (a ∈ l)) := by
  have h1 : (l.map F.int).all flatF = true := by
    rw [List.all_map]; exact List.all_eq_true.mpr fun _ _ => rfl
  unfold inFl
  rw [h1, if_pos (show (flatF (F.int a) && true) = true from rfl), List.any_map]
  congr 1
  rw [Bool.eq_iff_iff, List.any_eq_true, decide_eq_true_iff]
  constructor
  · rintro ⟨x, hx, e⟩
    have e : (x == a) = true := e
    rw [beq_iff_eq] at e
    exact e ▸ hx
  · intro h
    exact ⟨a, h, beq_self_eq_true a⟩
theorem inL_int (a : Int) (l : List Int) : inL (F.int a) (l.map F.int) = some (decide (a ∈ l)) := by
  unfold inL
  rw [inFl_int]
theorem o_inIL : Op2T inF fun (a : Int) (l : List Int) => some (decide (a ∈ l)) := fun a b c h => by
  cases h
  show (inL (F.int a) (b.map F.int)).map F.bl = _
  rw [inL_int]; rfl
theorem o_ninIL : Op2T ninF fun (a : Int) (l : List Int) => some (!decide (a ∈ l)) := fun a b c h => by
  cases h
  show (inL (F.int a) (b.map F.int)).map (fun b => F.bl (!b)) = _
  rw [inL_int]; rfl
theorem o_inIT : Op2T inF fun (a : Int) (l : Tu Int) => some (decide (a ∈ l.l)) := fun a b c h => by
  cases h
  show (inFl (F.int a) (b.l.map F.int)).map F.bl = _
  rw [inFl_int]; rfl
theorem o_ninIT : Op2T ninF fun (a : Int) (l : Tu Int) => some (!decide (a ∈ l.l)) := fun a b c h => by
  cases h
  show (inFl (F.int a) (b.l.map F.int)).map (fun b => F.bl (!b)) = _
  rw [inFl_int]; rfl
/-! is None -/
class NN (α : Type) [En α] where
  nn : ∀ a : α, isNF (En.e a) .non = some (.bl false)
theorem isn_not {x : F} (h : isNF x .non = some (.bl false)) : notNF x .non = some (.bl true) := by
  cases x <;> first | rfl | cases h
instance : NN Int := ⟨fun _ => rfl⟩
instance : NN Bool := ⟨fun _ => rfl⟩
instance : NN Ch := ⟨fun _ => rfl⟩
instance : NN (List Nat) := ⟨fun _ => rfl⟩
instance {α : Type} [En α] : NN (List α) := ⟨fun _ => rfl⟩
instance {α : Type} [En α] : NN (Tu α) := ⟨fun _ => rfl⟩
instance {α β : Type} [En α] [En β] : NN (α × β) := ⟨fun _ => rfl⟩
instance {α β γ : Type} [En α] [En β] [En γ] : NN (T3 α β γ) := ⟨fun _ => rfl⟩
instance {α β γ δ : Type} [En α] [En β] [En γ] [En δ] : NN (T4 α β γ δ) := ⟨fun _ => rfl⟩
theorem o_isO [En α] [NN α] : Op2T isNF fun (o : Option α) (_ : Unit) => some o.isNone := fun a b c h => by
  cases h
  cases a with
  | none => rfl
  | some a => exact NN.nn a
theorem o_notO [En α] [NN α] : Op2T notNF fun (o : Option α) (_ : Unit) => some o.isSome := fun a b c h => by
  cases h
  cases a with
  | none => rfl
  | some a => exact isn_not (NN.nn a)
theorem o_isF [En α] [NN α] : Op2T isNF fun (_ : α) (_ : Unit) => some false := fun a b c h => by cases h; exact NN.nn a
theorem o_notF [En α] [NN α] : Op2T notNF fun (_ : α) (_ : Unit) => some true := fun a b c h => by cases h; exact isn_not (NN.nn a)
theorem o_isB : Op2T isNF fun (a b : Bool) => some (decide (a = b)) := fun a b c h => by cases h; rfl
theorem o_notB : Op2T notNF fun (a b : Bool) => some (!decide (a = b)) := fun a b c h => by cases h; rfl
theorem o_isU : Op2T isNF fun (_ _ : Unit) => some true := fun a b c h => by cases h; rfl
theorem o_notU : Op2T notNF fun (_ _ : Unit) => some false := fun a b c h => by cases h; rfl
/-! equality -/
theorem o_eqI : Op2T eqF fun (a b : Int) => some (decide (a = b)) := fun a b c h => by cases h; rfl
theorem o_eqB : Op2T eqF fun (a b : Bool) => some (decide (a = b)) := fun a b c h => by cases h; rfl
theorem o_eqS : Op2T eqF fun (a b : List Nat) => some (decide (a = b)) := fun a b c h => by cases h; rfl
theorem dec_ch (a b : Ch) : decide ([a.c] = [b.c]) = decide (a = b) := by
  obtain ⟨a⟩ := a; obtain ⟨b⟩ := b
  simp
theorem o_eqC : Op2T eqF fun (a b : Ch) => some (decide (a = b)) := fun a b c h => by
  cases h
  show some (F.bl (decide ([a.c] = [b.c]))) = _
  rw [dec_ch]; rfl
theorem ne_of {op : α → β → Option Bool} [En α] [En β] (h : Op2T eqF op) : Op2T neF fun a b => (op a b).map fun c => !c := fun a b c q => by
  obtain ⟨d, e, rfl⟩ := opt_map_some q
  have z := h a b d e
  obtain ⟨b', e1, e2⟩ := opt_map_some (show (eqB (En.e a) (En.e b)).map F.bl = some (F.bl d) from z)
  cases e2
  show (eqB (En.e a) (En.e b)).map _ = _
  rw [e1]; rfl
theorem S_beq (a b : List Nat) : (VS.S a == VS.S b) = decide (a = b) := by
  by_cases e : a = b
  · subst e; simp
  · rw [beq_eq_false_iff_ne.mpr (fun q => e (S_inj.mp q)), decide_eq_false e]
/-- data whose == is equality -/
class EqT (α : Type) [En α] [DecidableEq α] where
  d : α → PySem.PyData
  ok : α → Bool
  dep : Nat
  toD : ∀ a, VS.toD (En.e a) = some (d a)
  lay : ∀ a, ok a = true → (d a).canLay0 = true
  depth : ∀ a, (d a).depth ≤ dep
  eqv : ∀ a b, PySem.PyData.eqv (d a) (d b) = decide (a = b)
instance : EqT Int := ⟨.int, fun _ => true, 0, fun _ => rfl, fun _ _ => by simp [PySem.PyData.canLay0], fun _ => by simp [PySem.PyData.depth], fun a b => by simp [PySem.PyData.eqv]; rfl⟩
instance : EqT Bool := ⟨.bool, fun _ => true, 0, fun _ => rfl, fun _ _ => by simp [PySem.PyData.canLay0], fun _ => by simp [PySem.PyData.depth], fun a b => by simp [PySem.PyData.eqv]; rfl⟩
instance : EqT (List Nat) := ⟨fun s => .str (S s), fun s => s.all (· < 0x110000), 0, fun _ => rfl, fun s h => by simp only [PySem.PyData.canLay0, PySem.PyData.strOk, S]; simpa using h, fun _ => by simp [PySem.PyData.depth], fun a b => by simp only [PySem.PyData.eqv]; exact S_beq a b⟩
instance : EqT Ch := ⟨fun s => .str (S [s.c]), fun s => decide (s.c < 0x110000), 0, fun _ => rfl, fun s h => by simp only [PySem.PyData.canLay0, PySem.PyData.strOk, S]; simpa using h, fun _ => by simp [PySem.PyData.depth], fun a b => by rw [← dec_ch]; simp only [PySem.PyData.eqv]; exact S_beq _ _⟩
end
section
variable {α β γ δ : Type} [En α] [DecidableEq α] [EqT α] [En β] [DecidableEq β] [EqT β] [En γ] [DecidableEq γ] [EqT γ] [En δ] [DecidableEq δ] [EqT δ]
theorem toDs_e : ∀ l : List α, toDs (l.map En.e) = some (l.map EqT.d)
  | [] => rfl
  | x :: l => by
    show (VS.toD (En.e x)).bind _ = _
    rw [EqT.toD x]
    show (toDs (l.map En.e)).map _ = _
    rw [toDs_e l]; rfl
theorem lay_all : ∀ l : List α, l.all EqT.ok = true → PySem.PyData.canLayAll0 (l.map EqT.d) = true
  | [], _ => by simp [PySem.PyData.canLayAll0]
  | x :: l, h => by
    rw [List.all_cons, Bool.and_eq_true] at h
    simp [PySem.PyData.canLayAll0, EqT.lay x h.1, lay_all l h.2]
theorem depth_all : ∀ l : List α, PySem.PyData.depthAll (l.map EqT.d) ≤ EqT.dep α
  | [] => by simp [PySem.PyData.depthAll]
  | x :: l => by
    simp only [List.map_cons, PySem.PyData.depthAll]
    have := EqT.depth x
    have := depth_all l
    omega
theorem eqv_all : ∀ l m : List α, PySem.PyData.eqvAll (l.map EqT.d) (m.map EqT.d) = decide (l = m)
  | [], [] => by simp [PySem.PyData.eqvAll]
  | [], _ :: _ => by simp [PySem.PyData.eqvAll]
  | _ :: _, [] => by simp [PySem.PyData.eqvAll]
  | x :: l, y :: m => by
    simp only [List.map_cons, PySem.PyData.eqvAll, EqT.eqv x y, eqv_all l m, List.cons.injEq, Bool.decide_and]
instance : EqT (List α) := ⟨fun l => .list (l.map EqT.d), fun l => l.all EqT.ok, EqT.dep α + 1, fun l => by
    show (toDs (l.map En.e)).map _ = _
    rw [toDs_e]; rfl, fun l h => by simpa [PySem.PyData.canLay0] using lay_all l h, fun l => by
    have := depth_all l
    simp only [PySem.PyData.depth]; omega, fun a b => by simp only [PySem.PyData.eqv]; exact eqv_all a b⟩
instance : EqT (Tu α) := ⟨fun l => .tuple (l.l.map EqT.d), fun l => l.l.all EqT.ok, EqT.dep α + 1, fun l => by
    show (toDs (l.l.map En.e)).map _ = _
    rw [toDs_e]; rfl, fun l h => by simpa [PySem.PyData.canLay0] using lay_all l.l h, fun l => by
    have := depth_all l.l
    simp only [PySem.PyData.depth]; omega, fun a b => by
      simp only [PySem.PyData.eqv]; rw [eqv_all a.l b.l]
      cases a; cases b; simp⟩
instance : EqT (α × β) := ⟨fun p => .tuple [EqT.d p.1, EqT.d p.2], fun p => EqT.ok p.1 && EqT.ok p.2, max (EqT.dep α) (EqT.dep β) + 1, fun p => by
    show (toDs [En.e p.1, En.e p.2]).map _ = _
    simp [toDs, EqT.toD p.1, EqT.toD p.2], fun p h => by
    rw [Bool.and_eq_true] at h
    simp [PySem.PyData.canLay0, PySem.PyData.canLayAll0, EqT.lay _ h.1, EqT.lay _ h.2], fun p => by
    have := EqT.depth p.1; have := EqT.depth p.2
    simp only [PySem.PyData.depth, PySem.PyData.depthAll]; omega, fun a b => by
      obtain ⟨a1, a2⟩ := a; obtain ⟨b1, b2⟩ := b
      simp [PySem.PyData.eqv, PySem.PyData.eqvAll, EqT.eqv]⟩
instance : EqT (T3 α β γ) := ⟨fun p => .tuple [EqT.d p.a, EqT.d p.b, EqT.d p.c], fun p => EqT.ok p.a && (EqT.ok p.b && EqT.ok p.c), max (EqT.dep α) (max (EqT.dep β) (EqT.dep γ)) + 1, fun p => by
    show (toDs [En.e p.a, En.e p.b, En.e p.c]).map _ = _
    simp [toDs, EqT.toD p.a, EqT.toD p.b, EqT.toD p.c], fun p h => by
    rw [Bool.and_eq_true, Bool.and_eq_true] at h
    simp [PySem.PyData.canLay0, PySem.PyData.canLayAll0, EqT.lay _ h.1, EqT.lay _ h.2.1, EqT.lay _ h.2.2], fun p => by
    have := EqT.depth p.a; have := EqT.depth p.b; have := EqT.depth p.c
    simp only [PySem.PyData.depth, PySem.PyData.depthAll]; omega, fun a b => by
      obtain ⟨a1, a2, a3⟩ := a; obtain ⟨b1, b2, b3⟩ := b
      simp [PySem.PyData.eqv, PySem.PyData.eqvAll, EqT.eqv]⟩
@[irreducible] def eqO (a b : α) : Option Bool := if EqT.ok a = true ∧ EqT.ok b = true then some (decide (a = b)) else none
theorem o_eq (hd : EqT.dep α ≤ 64) : Op2T eqF (eqO (α := α)) := fun a b c h => by
  unfold eqO at h
  obtain ⟨⟨h1, h2⟩, rfl⟩ := ifSome h
  have e1 := EqT.toD a
  have e2 := EqT.toD b
  have key : eqD (En.e a) (En.e b) = some (decide (a = b)) := by
    unfold eqD
    rw [e1, e2]
    have s1 : PySem.SeqAt.shaped (EqT.d a) = true := by unfold PySem.SeqAt.shaped; rw [EqT.lay a h1]; simpa using Nat.le_trans (EqT.depth a) hd
    have s2 : PySem.SeqAt.shaped (EqT.d b) = true := by unfold PySem.SeqAt.shaped; rw [EqT.lay b h2]; simpa using Nat.le_trans (EqT.depth b) hd
    simp [s1, s2, EqT.eqv]
  show (eqB (En.e a) (En.e b)).map F.bl = _
  have : eqB (En.e a) (En.e b) = some (decide (a = b)) := by
    have ev := EqT.eqv a b
    generalize (En.e a : F) = x at e1 key
    generalize (En.e b : F) = y at e2 key
    unfold eqB
    split
    · rename_i i j
      have h1 : PySem.PyData.int i = EqT.d a := Option.some.inj e1
      have h2 : PySem.PyData.int j = EqT.d b := Option.some.inj e2
      rw [← ev, ← h1, ← h2]; simp only [PySem.PyData.eqv]; rfl
    · rename_i i j
      have h1 : PySem.PyData.str (S i) = EqT.d a := Option.some.inj e1
      have h2 : PySem.PyData.str (S j) = EqT.d b := Option.some.inj e2
      rw [← ev, ← h1, ← h2]; simp only [PySem.PyData.eqv]; rw [S_beq]
    · rename_i i j
      have h1 : PySem.PyData.bool i = EqT.d a := Option.some.inj e1
      have h2 : PySem.PyData.bool j = EqT.d b := Option.some.inj e2
      rw [← ev, ← h1, ← h2]; simp only [PySem.PyData.eqv]; rfl
    · exact key
  rw [this]; rfl
end
/-! slices -/
section
variable {σ α : Type} {wr : Wr σ} {B : Bs wr} {n : Nat} {G : List (Nat × W)} {cs cs1 cs2 cs3 : List (Nat × Cell)} {s : σ} {ta te : TEv} {tl th : TOv}
def EO (B : Bs wr) (n : Nat) (G : List (Nat × W)) (cs cs' : List (Nat × Cell)) (t : TOv) (s : σ) (o : O σ (Option Int)) : Prop :=
  ∀ env r, Ok B.b n G cs env r → Rl B n G cs' env r (fun a => a) (t env (B.st s ++ r)) o
theorem o_no : EO B n G cs cs oNone s (.ok none s) := fun env r k => Rl.mk rfl k .refl
theorem o_so {o : O σ Int} (h : E B n G cs cs1 te s o) : EO B n G cs cs1 (oSome te) s (o.bind fun i s1 => .ok (some i) s1) := fun env r k => by
  refine (h env r k).bind fun i s1 r1 _ k1 hl => ?_
  exact Rl.mk rfl k1 hl
def SlT [En α] (op : Option Int → Option Int → α → Option α) : Prop := ∀ lo hi a c, op lo hi a = some c → slF lo hi (En.e a) = some (En.e c)
theorem e_sl [En α] {op : Option Int → Option Int → α → Option α} {o1 : O σ α} {o2 o3 : σ → O σ (Option Int)} (hs : SlT op) (h1 : EL B n G cs cs1 ta s o1) (h2 : ∀ s1, EO B n G cs1 cs1 tl s1 (o2 s1)) (h3 : ∀ s1, EO B n G cs1 cs1 th s1 (o3 s1)) :
    E B n G cs cs1 (eSl ta tl th) s (o1.bind fun a s1 => (o2 s1).bind fun lo s2 => (o3 s2).bind fun hi s3 => ofO (op lo hi a) s3) := fun env r k => by
  refine h1.bind k fun a s1 w r1 k1 hl1 hw => ?_
  refine Rl.up hl1 ?_
  refine (h2 s1 env r1 k1).bind fun lo s2 r2 _ k2 hl2 => ?_
  refine Rl.up hl2 ?_
  refine (h3 s2 env r2 k2).bind fun hi s3 r3 _ k3 hl3 => ?_
  refine Rl.opt (fun c hc => ?_) k3 hl3
  show lk1 (slF lo hi) w _ = _
  unfold lk1
  rw [hw s3 r3 env k3]
  show ofOpt (slF lo hi (En.e a)) _ = _
  rw [hs lo hi a c hc]; rfl
theorem cutL_map {α β : Type} (f : α → β) (l : List α) (lo hi : Option Int) : cutL (l.map f) lo hi = (cutL l lo hi).map f := by
  unfold cutL
  rw [List.length_map, ← List.map_drop, ← List.map_take]
theorem sl_lst [En α] : SlT fun lo hi (l : List α) => some (cutL l lo hi) := fun lo hi a c h => by
  cases h
  show some (F.lst (cutL (a.map En.e) lo hi)) = _
  rw [cutL_map]; rfl
theorem sl_tu [En α] : SlT fun lo hi (l : Tu α) => some (Tu.mk (cutL l.l lo hi)) := fun lo hi a c h => by
  cases h
  show some (F.tup (cutL (a.l.map En.e) lo hi)) = _
  rw [cutL_map]; rfl
@[irreducible] def slS (lo hi : Option Int) (l : List Nat) : Option (List Nat) := if small l.length = true then some (cutL l lo hi) else none
theorem sl_str : SlT slS := fun lo hi a c h => by
  unfold slS at h
  obtain ⟨hs, rfl⟩ := ifSome h
  exact if_pos hs
end
end TL

set_option Elab.async false
set_option linter.all false
set_option maxRecDepth 100000
set_option maxHeartbeats 4000000
set_option autoImplicit false
/-! T7: further rules; the spring of draws as a state. -/
namespace TL
open VS
open L2 (atI ixN)
section
variable {σ α β γ δ R X S A : Type} {wr : Wr σ} {B : Bs wr} {n : Nat} {G G' : List (Nat × W)} {cs cs1 cs2 cs3 : List (Nat × Cell)} {s : σ} {K : X → σ → SR → Prop} {rest t t1 t2 : TSv} {ta tb te : TEv} {wa : TTv} {tr : TAv} {T : Tab}
theorem e_ss {o : O σ (List Int)} (h : EL B n G cs cs1 te s o) : E B n G cs cs1 (eSS te) s (o.bind fun a s1 => ofO (if a.length < 64 then some (ssI a) else none) s1) := e_op1 o_ss h
theorem j_retI [En R] {K : R → σ → SR → Prop} {o : O σ R} (hK : RetK B K fun a : R => a) (h : E B n G cs cs1 te s o) : J B n K G cs (bCons (sRet te) rest) s o := by
  have q := j_ret (rest := rest) hK h
  rw [bind_pure] at q
  exact q
theorem j_unp2 [En α] [En β] {i j : Nat} {q : (β' : Type) → (α × β × Unit → σ → O σ β') → O σ β'} {k : α × β × Unit → σ → O σ X} (hi : i < n) (hj : j < n) (h : EA B n G cs cs1 tr s q) (hr : ∀ a s1, J B n K ((j, w_ a.2.1) :: (i, w_ a.1) :: G) cs1 rest s1 (k a s1)) : J B n K G cs (bCons (sUnp (mNm i :: mNm j :: []) tr) rest) s (q _ fun a s1 => k a s1) := fun env r qq => by
  obtain ⟨oa, h, hq⟩ := h
  rw [hq]
  have e : bCons (sUnp (mNm i :: mNm j :: []) tr) rest env (B.st s ++ r) = (tr env (B.st s ++ r)).thenS fun ws st1 => bCons (fun _ _ => if small ws.length = true then (match msRun (mNm i :: mNm j :: []) ws env st1 with
      | some r => SR.nx r.1 r.2
      | none => .stuck) else .stuck) rest env st1 := by
    unfold bCons sUnp
    cases tr env (B.st s ++ r) <;> rfl
  rw [e]
  refine (h env r qq).thenS fun a s1 r1 _ k1 p1 => ?_
  exact hr a s1 _ _ ((k1.set hi _).set hj _)
theorem j_unp3 [En α] [En β] [En γ] {i j l : Nat} {q : (β' : Type) → (α × β × γ × Unit → σ → O σ β') → O σ β'} {k : α × β × γ × Unit → σ → O σ X} (hi : i < n) (hj : j < n) (hl : l < n) (h : EA B n G cs cs1 tr s q) (hr : ∀ a s1, J B n K ((l, w_ a.2.2.1) :: (j, w_ a.2.1) :: (i, w_ a.1) :: G) cs1 rest s1 (k a s1)) : J B n K G cs (bCons (sUnp (mNm i :: mNm j :: mNm l :: []) tr) rest) s (q _ fun a s1 => k a s1) := fun env r qq => by
  obtain ⟨oa, h, hq⟩ := h
  rw [hq]
  have e : bCons (sUnp (mNm i :: mNm j :: mNm l :: []) tr) rest env (B.st s ++ r) = (tr env (B.st s ++ r)).thenS fun ws st1 => bCons (fun _ _ => if small ws.length = true then (match msRun (mNm i :: mNm j :: mNm l :: []) ws env st1 with
      | some r => SR.nx r.1 r.2
      | none => .stuck) else .stuck) rest env st1 := by
    unfold bCons sUnp
    cases tr env (B.st s ++ r) <;> rfl
  rw [e]
  refine (h env r qq).thenS fun a s1 r1 _ k1 p1 => ?_
  exact hr a s1 _ _ (((k1.set hi _).set hj _).set hl _)
/-- *pair among arguments -/
theorem a_star2 [En α] [En β] [Ar A] {o1 : O σ (α × β)} {q : σ → (β' : Type) → (A → σ → O σ β') → O σ β'} (h1 : E B n G cs cs1 ta s o1) (h2 : ∀ s1, EA B n G cs1 cs2 tr s1 (q s1)) : EA B n G cs cs2 (aStar ta tr) s (fun β' k => o1.bind fun p s1 => q s1 β' fun x s2 => k (p.1, p.2, x) s2) := by
  obtain ⟨oa, h3⟩ := Classical.axiomOfChoice h2
  refine ⟨o1.bind fun p s1 => (oa s1).bind fun x s2 => .ok (p.1, p.2, x) s2, fun env r k => ?_, fun β k => ?_⟩
  · refine (h1 env r k).bind fun a s1 r1 _ k1 hl1 => ?_
    refine Rl.up hl1 ?_
    refine ((h3 s1).1 env r1 k1).bind fun x s2 r2 _ k2 hl2 => ?_
    exact Rl.mk rfl k2 hl2
  · simp only [(h3 _).2, bind_assoc, bind_ok]
/-- the right side's class answers -/
theorem e_ownR {c : Nat} {ok : Store → W → Bool} [En α] [En β] [En R] {m : FnM} {o1 : O σ α} {o2 : σ → O σ β} {d : β × α × Unit → P R} (hc : ∀ (b : β) st, clsW st (w_ b) = some c) (hok : ∀ (a : α) st, ok st (w_ a) = true) (F : FnP m d) (h1 : E B n G cs cs1 ta s o1) (h2 : ∀ s1, E B n G cs1 cs1 tb s1 (o2 s1)) :
    E B n G cs cs1 (eOwnR c ok m ta tb) s (o1.bind fun a s1 => (o2 s1).bind fun b s2 => (d (b, a, ())).up s2) := fun env r k => by
  refine (h1 env r k).bind fun a s1 r1 _ k1 hl => ?_
  refine Rl.up hl ?_
  refine (h2 s1 env r1 k1).bind fun b s2 r2 _ k2 hl2 => ?_
  unfold own2
  rw [if_pos (hok a _), if_pos (hc b _)]
  refine Rl.up hl2 ?_
  exact callP F k2 (b, a, ())
theorem e_ownRU {B : Bs wU} {s : Unit} {c : Nat} {ok : Store → W → Bool} [En α] [En β] [En R] {m : FnM} {o1 : P α} {o2 : Unit → P β} {d : β × α × Unit → P R} (hc : ∀ (b : β) st, clsW st (w_ b) = some c) (hok : ∀ (a : α) st, ok st (w_ a) = true) (F : FnP m d) (h1 : E B n G cs cs1 ta s o1) (h2 : ∀ s1, E B n G cs1 cs1 tb s1 (o2 s1)) :
    E B n G cs cs1 (eOwnR c ok m ta tb) s (o1.bind fun a s1 => (o2 s1).bind fun b s2 => d (b, a, ())) := fun env r k => by
  have q := e_ownR hc hok F h1 h2 env r k
  simp only [up_unit] at q
  exact q
theorem e_dead [En α] : E B n G cs cs1 te s (.no : O σ α) := fun _ _ _ => trivial
theorem t_dead : ET B n G cs cs1 wa s .no := fun _ _ _ => trivial
theorem co_none [En α] : ∀ a : Unit, (En.e (none : Option α) : F) = En.e a := fun _ => rfl
theorem co_lst [En α] : ∀ l : List α, (En.e (l.map En.e : List F) : F) = En.e l := fun l => by
  show F.lst ((l.map En.e).map id) = F.lst (l.map En.e)
  rw [List.map_id]
theorem co_lstS : ∀ l : List Ch, (En.e (l.map fun c => [c.c] : List (List Nat)) : F) = En.e l := fun l => by
  show F.lst ((l.map fun c => [c.c]).map F.str) = F.lst (l.map fun c => F.str [c.c])
  rw [List.map_map]; rfl
end
/-! ### the spring -/
structure Sp where
  cells : List Int
  big : Int
  cnt : Int
  mix : Int
def spS (s : Sp) : Store := [.lstF (s.cells.map F.int), .lstW [.loc 0, .f (.int s.big), .f (.int s.cnt), .f (.int s.mix)]]
def wS : Wr Sp := ⟨fun s r => spS s ++ r, fun _ _ _ => by simp [spS], fun s s' r h => by
    unfold Cl clean at h ⊢
    rw [List.all_append, Bool.and_eq_true] at h ⊢
    refine ⟨?_, ?_⟩
    · simp [spS, Cell.below, W.below]
    · have := h.2
      simpa [spS] using this, fun s r t => by simp [List.append_assoc]⟩
/-- the spring as an argument -/
structure Rs where
instance {A : Type} [Ar A] : Ar (Rs × A) := ⟨fun p => W.loc 1 :: Ar.ws p.2⟩
section
variable {α β X A : Type} {B : Bs wS} {n : Nat} {G : List (Nat × W)} {cs cs1 cs2 : List (Nat × Cell)} {s : Sp} {K : X → Sp → SR → Prop} {rest t : TSv} {ta tb te : TEv} {tr : TAv}
theorem a_sp [Ar A] {i : Nat} {q : (β : Type) → (A → Sp → O Sp β) → O Sp β} (h : lk G i = some (.loc 1)) (h2 : EA B n G cs cs2 tr s q) : EA B n G cs cs2 (aCons (eVar i) tr) s (fun β k => q β fun x s2 => k (Rs.mk, x) s2) := by
  obtain ⟨oa, h3, h4⟩ := h2
  refine ⟨oa.bind fun x s2 => .ok (Rs.mk, x) s2, fun env r q => ?_, fun β k => ?_⟩
  · have e : eVar i env (B.st s ++ r) = .ok (.loc 1) (B.st s ++ r) := by
      unfold eVar
      rw [q.var i _ h]
    unfold aCons
    rw [e]
    refine (h3 env r q).bind fun x s2 r2 _ k2 hl2 => ?_
    exact Rl.mk rfl k2 hl2
  · simp only [h4, bind_assoc, bind_ok]
theorem sp_at1 (B : Bs wS) (s : Sp) (r : Store) : (B.st s ++ r)[1]? = some (.lstW [.loc 0, .f (.int s.big), .f (.int s.cnt), .f (.int s.mix)]) := rfl
theorem sp_at0 (B : Bs wS) (s : Sp) (r : Store) : (B.st s ++ r)[0]? = some (.lstF (s.cells.map F.int)) := rfl
theorem sp_ev {i : Nat} (h : lk G i = some (.loc 1)) {env : Env} {r : Store} (q : Ok B.b n G cs env r) : eVar i env (B.st s ++ r) = .ok (.loc 1) (B.st s ++ r) := by
  unfold eVar
  rw [q.var i _ h]
theorem e_sp1 {i : Nat} (h : lk G i = some (.loc 1)) : E B n G cs cs (eIx (eVar i) (eC (.int 1))) s (.ok s.big s) := fun env r q => by
  refine Rl.mk ?_ q .refl
  unfold eIx
  rw [sp_ev h q]
  rfl
theorem e_sp2 {i : Nat} (h : lk G i = some (.loc 1)) : E B n G cs cs (eIx (eVar i) (eC (.int 2))) s (.ok s.cnt s) := fun env r q => by
  refine Rl.mk ?_ q .refl
  unfold eIx
  rw [sp_ev h q]
  rfl
theorem e_sp3 {i : Nat} (h : lk G i = some (.loc 1)) : E B n G cs cs (eIx (eVar i) (eC (.int 3))) s (.ok s.mix s) := fun env r q => by
  refine Rl.mk ?_ q .refl
  unfold eIx
  rw [sp_ev h q]
  rfl
theorem okEs_int : ∀ l : List Int, okEs 0 (l.map F.int) = true
  | [] => by simp [okEs]
  | x :: l => by simp [okEs, okE, okEs_int l]
theorem ne_nil (l : List Int) : neF (.lst (l.map F.int)) (.lst []) = some (.bl (!l.isEmpty)) := by
  unfold neF
  cases l with
  | nil => rw [show List.map F.int [] = [] from rfl, eqB_yes (n := 1) (by decide) (by simp [okE, okEs])]; rfl
  | cons x r => rw [eqB_no (n := 1) (m := 1) (by decide) (by decide) (by simpa [okE] using okEs_int (x :: r)) (by simp [okE, okEs]) (by simp)]; rfl
theorem t_sp0 {i : Nat} (h : lk G i = some (.loc 1)) : ET B n G cs cs (tVal (eOp2 neF (eIx (eVar i) (eC (.int 0))) (eLst aNil))) s (.ok (!s.cells.isEmpty) s) := fun env r q => by
  refine Rl.mk ?_ q .refl
  unfold tVal eOp2 eIx
  rw [sp_ev h q]
  show (lk2 neF (.loc 0) (.f (.lst [])) (B.st s ++ r)).bind _ = _
  have e : lk2 neF (.loc 0) (.f (.lst [])) (B.st s ++ r) = .ok (.f (.bl (!s.cells.isEmpty))) (B.st s ++ r) := by
    unfold lk2
    show ofOpt ((lookC (some (Cell.lstF (s.cells.map F.int)))).bind fun x => (some (F.lst [])).bind fun y => neF x y) _ = _
    show ofOpt (neF (.lst (s.cells.map F.int)) (.lst [])) _ = _
    rw [ne_nil]; rfl
  rw [e]; rfl
theorem j_sp {i j : Nat} {o : O Sp Int} {up : Sp → Int → Sp} {k : Sp → O Sp X} {ti : Int} (h : lk G i = some (.loc 1)) (he : E B n G cs cs1 te s o)
    (hu : ∀ (s1 : Sp) (a : Int) (r : Store), setI (.f (.int a)) (wS.put s1 r) (.loc 1) (.f (.int ti)) = some (wS.put (up s1 a) r)) (hr : ∀ s1, J B n K G cs1 rest s1 (k s1)) :
    J B n K G cs (bCons (sSub (eVar i) (eC (.int ti)) te) rest) s (o.bind fun a s1 => k (up s1 a)) := fun env r q => by
  have e : bCons (sSub (eVar i) (eC (.int ti)) te) rest env (B.st s ++ r) = (te env (B.st s ++ r)).thenS fun w st1 => (eVar i env st1).thenS fun o st2 => match setI w st2 o (.f (.int ti)) with
      | some st4 => rest env st4
      | none => .stuck := by
    unfold bCons sSub
    cases te env (B.st s ++ r) with
    | ok w st1 =>
      simp only [Res.thenS]
      cases eVar i env st1 with
      | ok o st2 => simp only [eC]; cases setI w st2 o (.f (.int ti)) <;> rfl
      | _ => rfl
    | _ => rfl
  rw [e]
  refine (he env r q).thenS fun a s1 r1 _ k1 p1 => ?_
  rw [sp_ev h k1]
  have e2 : setI (w_ a) (B.st s1 ++ r1) (.loc 1) (.f (.int ti)) = some (B.st (up s1 a) ++ r1) := by
    have := hu s1 a (B.rest ++ r1)
    rw [wS.app, wS.app] at this
    exact this
  simp only [Res.thenS]
  rw [e2]
  exact hr (up s1 a) _ _ k1
theorem j_spPop {i j : Nat} {k : Int → Sp → O Sp X} (hj : j < n) (h : lk G i = some (.loc 1)) (hr : ∀ a s1, J B n K ((j, w_ a) :: G) cs rest s1 (k a s1)) :
    J B n K G cs (bCons (sSet j (eMut false cPopAt (eIx (eVar i) (eC (.int 0))) (aCons (eC (.int 0)) aNil))) rest) s (match s.cells with
      | [] => .no
      | a :: l => k a { s with cells := l }) := fun env r q => by
  cases hs : s.cells with
  | nil => trivial
  | cons a l =>
    have hd : doCell cPopAt 0 [.f (.int 0)] (B.st s ++ r) = .ok (.f (.int a)) (B.st { s with cells := l } ++ r) := by
      have e0 : cPopAt (Cell.lstF ((a :: l).map F.int)) [.f (.int 0)] = some (.f (.int a), .lstF (l.map F.int)) := by
        have e1 : PySem.seqIndex? 0 ((a :: l).map F.int).length = some 0 := by
          unfold PySem.seqIndex?
          simp
        show (if smallI 0 = true then (PySem.seqIndex? 0 ((a :: l).map F.int).length).bind fun k => (((a :: l).map F.int)[k]?).map fun x => (W.f x, Cell.lstF (((a :: l).map F.int).eraseIdx k)) else none) = _
        rw [e1]
        rfl
      unfold doCell
      rw [sp_at0, hs]
      show (match cPopAt (Cell.lstF ((a :: l).map F.int)) [.f (.int 0)] with
        | some (w, c') => Res.ok w ((B.st s ++ r).set 0 c')
        | none => .stuck) = _
      rw [e0]
      rfl
    have e : bCons (sSet j (eMut false cPopAt (eIx (eVar i) (eC (.int 0))) (aCons (eC (.int 0)) aNil))) rest env (B.st s ++ r) = rest (env.set j (some (w_ a))) (B.st { s with cells := l } ++ r) := by
      unfold bCons sSet eMut eIx
      rw [sp_ev h q]
      show (match Res.thenS (if isCell false (B.st s ++ r)[0]? = true then Res.bind (.ok [.f (.int 0)] (B.st s ++ r)) fun ws st2 => doCell cPopAt 0 ws st2 else .stuck) fun w st1 => SR.nx (env.set j (some w)) st1 with
        | .nx env1 st1 => rest env1 st1
        | x => x) = _
      rw [sp_at0]
      show (match Res.thenS (doCell cPopAt 0 [.f (.int 0)] (B.st s ++ r)) fun w st1 => SR.nx (env.set j (some w)) st1 with
        | .nx env1 st1 => rest env1 st1
        | x => x) = _
      rw [hd]
      rfl
    show RlS B K _ _
    rw [e]
    exact hr a { s with cells := l } _ _ (q.set hj _)
end
end TL

set_option Elab.async false
set_option linter.all false
set_option maxRecDepth 100000
set_option maxHeartbeats 4000000
set_option autoImplicit false
/-! T8: the law's own sameness; the law itself. -/
namespace TL
open VS
open L2 (atI ixN)
/-! ### equality of plain data -/
mutual
def eqS : F → F → Bool
  | .non, .non => true
  | .bl a, .bl b => a == b
  | .int a, .int b => decide (a = b)
  | .str a, .str b => decide (a = b)
  | .lst xs, .lst ys => eqSs xs ys
  | .tup xs, .tup ys => eqSs xs ys
  | _, _ => false
def eqSs : List F → List F → Bool
  | [], [] => true
  | x :: xs, y :: ys => eqS x y && eqSs xs ys
  | _, _ => false
end
mutual
def okP : Nat → F → Bool
  | _, .non => true
  | _, .bl _ => true
  | _, .int _ => true
  | _, .str s => s.all (· < 0x110000)
  | n + 1, .lst xs => small xs.length && okPs n xs
  | n + 1, .tup xs => small xs.length && okPs n xs
  | _, _ => false
def okPs : Nat → List F → Bool
  | _, [] => true
  | n, x :: xs => okP n x && okPs n xs
end
mutual
theorem eqS_refl : ∀ (n : Nat) (x : F), okP n x = true → eqS x x = true
  | _, .non, _ => by simp [eqS]
  | _, .bl _, _ => by simp [eqS]
  | _, .int _, _ => by simp [eqS]
  | _, .str _, _ => by simp [eqS]
  | n + 1, .lst xs, h => by simp only [eqS]; exact eqSs_refl n xs (by rw [okP, Bool.and_eq_true] at h; exact h.2)
  | n + 1, .tup xs, h => by simp only [eqS]; exact eqSs_refl n xs (by rw [okP, Bool.and_eq_true] at h; exact h.2)
  | 0, .lst xs, h => by simp [okP] at h
  | 0, .tup xs, h => by simp [okP] at h
  | 0, .dct _, h => by simp [okP] at h
  | 0, .obj _ _, h => by simp [okP] at h
  | 0, .scr _, h => by simp [okP] at h
  | _ + 1, .dct _, h => by simp [okP] at h
  | _ + 1, .obj _ _, h => by simp [okP] at h
  | _ + 1, .scr _, h => by simp [okP] at h
theorem eqSs_refl : ∀ (n : Nat) (x : List F), okPs n x = true → eqSs x x = true
  | _, [], _ => by simp [eqSs]
  | n, x :: xs, h => by
    have h : okP n x = true ∧ okPs n xs = true := by simpa [okPs] using h
    simp [eqSs, eqS_refl n x h.1, eqSs_refl n xs h.2]
end
def d_same (x y : F) : P Bool := if okP 7 x = true ∧ okP 7 y = true then .ok (eqS x y) () else .no
theorem same_refl {x : F} (h : okP 7 x = true) : d_same x x = .ok true () := by
  unfold d_same
  rw [if_pos ⟨h, h⟩, eqS_refl 7 x h]
def tSame (r : FnM) : TSv :=
  (bCons (sIf (tVal (eIsi [.lst, .tup] (eVar 1))) (bCons (sIf (tOrV (tVal (eOp2 neF (eIsi [.lst] (eVar 0)) (eIsi [.lst] (eVar 1)))) (tVal (eOp2 neF (eIsi [.tup] (eVar 0)) (eIsi [.tup] (eVar 1))))) (sRet (eC (.bl false))) bNil)
    (sRet (eAnd (eOp2 eqF (eCB (g1 lenF) (aCons (eVar 0) aNil)) (eCB (g1 lenF) (aCons (eVar 1) aNil))) (eCB (g1 allB) (aCons (eFrz (eLc (iZip (aCons (eVar 0) (aCons (eVar 1) aNil))) (gTp (gsCons (gNm 2) (gsCons (gNm 3) gsNil))) tYesV (eCall r (aCons (eVar 2) (aCons (eVar 3) aNil))) [2, 3])) aNil))))) bNil)
    (bCons (sIf (tVal (eIsi [.int] (eVar 1))) (sRet (eAnd (eIsi [.int] (eVar 0)) (eAnd (eOp2 eqF (eIsi [.bl] (eVar 0)) (eIsi [.bl] (eVar 1))) (eOp2 eqF (eVar 0) (eVar 1))))) bNil)
    (sRet (eAnd (eOp2 isNF (eIsi [.int, .lst, .tup] (eVar 0)) (eC (.bl false))) (eOp2 eqF (eVar 0) (eVar 1))))))
def mSame : Nat → FnM
  | 0 => fnM 2 4 bStuck
  | n + 1 => fnM 2 4 (tSame (mSame n))
mutual
theorem okP_toD : ∀ (n : Nat) (x : F), okP n x = true → ∃ d, toD x = some d ∧ d.canLay0 = true ∧ d.depth ≤ n
  | _, .non, _ => ⟨.none, rfl, by simp [PySem.PyData.canLay0], by simp [PySem.PyData.depth]⟩
  | _, .bl b, _ => ⟨.bool b, rfl, by simp [PySem.PyData.canLay0], by simp [PySem.PyData.depth]⟩
  | _, .int i, _ => ⟨.int i, rfl, by simp [PySem.PyData.canLay0], by simp [PySem.PyData.depth]⟩
  | _, .str s, h => ⟨.str (S s), rfl, by
      have h : s.all (· < 0x110000) = true := by simpa [okP] using h
      simp only [PySem.PyData.canLay0, PySem.PyData.strOk, S]
      simpa using h, by simp [PySem.PyData.depth]⟩
  | n + 1, .lst xs, h => by
    obtain ⟨ds, e, c, dp⟩ := okPs_toD n xs (by rw [okP, Bool.and_eq_true] at h; exact h.2)
    exact ⟨.list ds, by simp [toD, e], by simpa [PySem.PyData.canLay0] using c, by simp only [PySem.PyData.depth]; omega⟩
  | n + 1, .tup xs, h => by
    obtain ⟨ds, e, c, dp⟩ := okPs_toD n xs (by rw [okP, Bool.and_eq_true] at h; exact h.2)
    exact ⟨.tuple ds, by simp [toD, e], by simpa [PySem.PyData.canLay0] using c, by simp only [PySem.PyData.depth]; omega⟩
  | 0, .lst xs, h => by simp [okP] at h
  | 0, .tup xs, h => by simp [okP] at h
  | 0, .dct _, h => by simp [okP] at h
  | 0, .obj _ _, h => by simp [okP] at h
  | 0, .scr _, h => by simp [okP] at h
  | _ + 1, .dct _, h => by simp [okP] at h
  | _ + 1, .obj _ _, h => by simp [okP] at h
  | _ + 1, .scr _, h => by simp [okP] at h
theorem okPs_toD : ∀ (n : Nat) (xs : List F), okPs n xs = true → ∃ ds, toDs xs = some ds ∧ PySem.PyData.canLayAll0 ds = true ∧ PySem.PyData.depthAll ds ≤ n
  | _, [], _ => ⟨[], rfl, by simp [PySem.PyData.canLayAll0], by simp [PySem.PyData.depthAll]⟩
  | n, x :: xs, h => by
    have h : okP n x = true ∧ okPs n xs = true := by simpa [okPs] using h
    obtain ⟨d, e, c, dp⟩ := okP_toD n x h.1
    obtain ⟨ds, e', c', dp'⟩ := okPs_toD n xs h.2
    exact ⟨d :: ds, by simp [toDs, e, e'], by simp [PySem.PyData.canLayAll0, c, c'], by simp only [PySem.PyData.depthAll]; omega⟩
end
theorem okP_shaped {n : Nat} (hn : n ≤ 64) {x : F} (h : okP n x = true) : ∃ d, toD x = some d ∧ PySem.SeqAt.shaped d = true := by
  obtain ⟨d, e, c, dp⟩ := okP_toD n x h
  exact ⟨d, e, by unfold PySem.SeqAt.shaped; rw [c]; simp; omega⟩
/-- == of other kinds than the text's or None's -/
theorem eqB_other {n : Nat} (hn : n ≤ 64) {x y : F} (hx : okP n x = true) (hy : okP n y = true) (h1 : kyF x = .non ∨ kyF x = .str) (h2 : kyF y = .non ∨ kyF y = .str) : eqB x y = some (eqS x y) := by
  obtain ⟨d, e, s⟩ := okP_shaped hn hx
  obtain ⟨d', e', s'⟩ := okP_shaped hn hy
  cases x <;> simp [kyF] at h1 <;> cases y <;> simp [kyF] at h2
  · simp only [eqB, eqD, toD, eqS]; rfl
  · have e' : some (PySem.PyData.str (S _)) = some d' := e'
    have := Option.some.inj e'
    subst this
    simp only [eqB, eqD, toD, eqS, Option.bind_some, s']
    rfl
  · have e : some (PySem.PyData.str (S _)) = some d := e
    have := Option.some.inj e
    subst this
    simp only [eqB, eqD, toD, eqS, Option.bind_some, s]
    rfl
  · simp [eqB, eqS]
theorem same_rt {r : FnM} {x y : F} {st : Store} {b : Bool} (h : tSame r [some (.f x), some (.f y), none, none] st = .rt (.f (.bl b)) st) : fnM 2 4 (tSame r) [.f x, .f y] st = .ok (.f (.bl b)) st := by
  show (match tSame r [some (.f x), some (.f y), none, none] st with
    | .rt w st1 => retW st.length w st1
    | .nx _ st1 => retW st.length (.f .non) st1
    | .exc c fs st1 => .exc c fs st1
    | _ => .stuck) = _
  rw [h]
  exact retW_same st _
theorem same_oth {r : FnM} {n : Nat} (hn : n ≤ 64) {x y : F} {st : Store} (hx : okP n x = true) (hy : okP n y = true) (h1 : kyF x = .non ∨ kyF x = .str) (h2 : kyF y = .non ∨ kyF y = .str) : fnM 2 4 (tSame r) [.f x, .f y] st = .ok (.f (.bl (eqS x y))) st := by
  apply same_rt
  have e : tSame r [some (.f x), some (.f y), none, none] st = (ofOpt ((eqB x y).map F.bl) st).thenS fun w st1 => .rt w st1 := by
    cases x <;> simp [kyF] at h1 <;> cases y <;> simp [kyF] at h2 <;> rfl
  rw [e, eqB_other hn hx hy h1 h2]
  rfl
def sameZ (w : W) : F := match w with
  | .f (.tup [a, b]) => .bl (eqS a b)
  | _ => .non
theorem sameZ_all : ∀ (xs ys : List F), xs.length = ys.length → blsOf (((xs.zip ys).map fun q => W.f (.tup [q.1, q.2])).map sameZ) = some ((xs.zip ys).map fun q => eqS q.1 q.2) ∧ ((xs.zip ys).map fun q => eqS q.1 q.2).all id = eqSs xs ys
  | [], [], _ => ⟨rfl, by simp [eqSs]⟩
  | [], _ :: _, h => by simp at h
  | _ :: _, [], h => by simp at h
  | x :: xs, y :: ys, h => by
    obtain ⟨h1, h2⟩ := sameZ_all xs ys (by simpa using h)
    refine ⟨?_, ?_⟩
    · show (blsOf (((xs.zip ys).map fun q => W.f (.tup [q.1, q.2])).map sameZ)).map (eqS x y :: ·) = _
      rw [h1]; rfl
    · show (eqS x y && ((xs.zip ys).map fun q => eqS q.1 q.2).all id) = _
      rw [h2]
      simp [eqSs]
theorem eqSs_len : ∀ (xs ys : List F), xs.length ≠ ys.length → eqSs xs ys = false
  | [], [], h => by simp at h
  | [], _ :: _, _ => by simp [eqSs]
  | _ :: _, [], _ => by simp [eqSs]
  | x :: xs, y :: ys, h => by simp [eqSs, eqSs_len xs ys (by simpa using h)]
theorem okPs_mem {n : Nat} : ∀ {xs : List F} {x : F}, okPs n xs = true → x ∈ xs → okP n x = true
  | y :: ys, x, h, hm => by
    have h : okP n y = true ∧ okPs n ys = true := by simpa [okPs] using h
    rcases List.mem_cons.mp hm with q | q
    · subst q; exact h.1
    · exact okPs_mem h.2 q
abbrev sameC (r : FnM) : TEv := eFrz (eLc (iZip (aCons (eVar 0) (aCons (eVar 1) aNil))) (gTp (gsCons (gNm 2) (gsCons (gNm 3) gsNil))) tYesV (eCall r (aCons (eVar 2) (aCons (eVar 3) aNil))) [2, 3])
theorem same_seq {r : FnM} {n : Nat} {x y : F} {xs ys : List F} {st : Store} (hc : Cl st) (hx : okPs n xs = true) (hy : okPs n ys = true) (dx : itemsD x = some xs) (dy : itemsD y = some ys) (hl : xs.length ≤ 1000000)
    (ih : ∀ a b, okP n a = true → okP n b = true → ∀ st, Cl st → r [.f a, .f b] st = .ok (.f (.bl (eqS a b))) st) (he : xs.length = ys.length) :
    (eCB (g1 allB) (aCons (sameC r) aNil)) [some (.f x), some (.f y), none, none] st = .ok (.f (.bl (eqSs xs ys))) st := by
  obtain ⟨z1, z2⟩ := sameZ_all xs ys he
  have hz : iZip (aCons (eVar 0) (aCons (eVar 1) aNil)) [some (.f x), some (.f y), none, none] st = .ok ((xs.zip ys).map fun q => W.f (.tup [q.1, q.2])) st := by
    show zipW [.f x, .f y] st = _
    unfold zipW
    simp only [dx, dy]
  have e : sameC r [some (.f x), some (.f y), none, none] st = .ok (.f (.lst (((xs.zip ys).map fun q => W.f (.tup [q.1, q.2])).map sameZ))) st := by
    refine lcf_map hc sameZ hz (by simp; omega) fun w hw acc => ?_
    obtain ⟨⟨a, b⟩, hab, rfl⟩ := List.mem_map.mp hw
    have h1 := List.of_mem_zip hab
    refine ⟨_, rfl, ?_⟩
    show r [.f a, .f b] (st ++ [.lstF acc]) = _
    rw [ih a b (okPs_mem hx h1.1) (okPs_mem hy h1.2) _ (hc.push acc)]
    rfl
  have e2 : (eCB (g1 allB) (aCons (sameC r) aNil)) [some (.f x), some (.f y), none, none] st = ((sameC r [some (.f x), some (.f y), none, none] st).bind fun w st1 => lkN (g1 allB) [w] st1) := by
    unfold eCB aCons
    cases sameC r [some (.f x), some (.f y), none, none] st <;> rfl
  rw [e2, e]
  show ofOpt ((blsOf _).map fun ns => F.bl (ns.all id)) st = _
  rw [z1]
  show Res.ok (W.f (F.bl _)) st = _
  rw [z2]
theorem bCons_rt {t rest : TSv} {env : Env} {st : Store} {R : Res W} (h : t env st = R.thenS fun w s => .rt w s) : bCons t rest env st = R.thenS fun w s => .rt w s := by
  unfold bCons
  rw [h]
  cases R <;> rfl
theorem same_ok : ∀ (n : Nat), n ≤ 60 → ∀ (x y : F), okP n x = true → okP n y = true → ∀ st, Cl st → mSame (n + 1) [.f x, .f y] st = .ok (.f (.bl (eqS x y))) st
  | n, hn, x, y, hx, hy, st, hc => by
    show fnM 2 4 (tSame (mSame n)) [.f x, .f y] st = _
    have other : (kyF x = .non ∨ kyF x = .str) → (kyF y = .non ∨ kyF y = .str) → fnM 2 4 (tSame (mSame n)) [.f x, .f y] st = .ok (.f (.bl (eqS x y))) st := fun h1 h2 => same_oth (by omega) hx hy h1 h2
    have seq : ∀ (xs ys : List F), itemsD x = some xs → itemsD y = some ys → (∃ m, n = m + 1 ∧ okPs m xs = true ∧ okPs m ys = true) → xs.length ≤ 1000000 → eqS x y = eqSs xs ys →
        (tSame (mSame n) [some (.f x), some (.f y), none, none] st = ((if decide ((xs.length : Int) = ys.length) = true then (eCB (g1 allB) (aCons (sameC (mSame n)) aNil)) [some (.f x), some (.f y), none, none] st else .ok (.f (.bl false)) st)).thenS fun w st1 => .rt w st1) →
        fnM 2 4 (tSame (mSame n)) [.f x, .f y] st = .ok (.f (.bl (eqS x y))) st := by
      intro xs ys dx dy hm hl he e
      obtain ⟨m, rfl, h1, h2⟩ := hm
      apply same_rt
      rw [e]
      by_cases hq : xs.length = ys.length
      · rw [if_pos (decide_eq_true (by omega)), same_seq hc h1 h2 dx dy hl (fun a b ha hb st' hc' => same_ok m (by omega) a b ha hb st' hc') hq, he]
        rfl
      · rw [if_neg (by simp; omega), he, eqSs_len xs ys hq]
        rfl
    cases y with
    | non =>
      cases x with
      | non => exact other (.inl rfl) (.inl rfl)
      | str a => exact other (.inr rfl) (.inl rfl)
      | bl a => exact same_rt rfl
      | int a => exact same_rt rfl
      | lst a => exact same_rt rfl
      | tup a => exact same_rt rfl
      | _ => cases n <;> simp [okP] at hx
    | str b =>
      cases x with
      | non => exact other (.inl rfl) (.inr rfl)
      | str a => exact other (.inr rfl) (.inr rfl)
      | bl a => exact same_rt rfl
      | int a => exact same_rt rfl
      | lst a => exact same_rt rfl
      | tup a => exact same_rt rfl
      | _ => cases n <;> simp [okP] at hx
    | bl b =>
      cases x with
      | non => exact same_rt rfl
      | str a => exact same_rt rfl
      | bl a => refine same_rt ?_; cases a <;> cases b <;> rfl
      | int a => exact same_rt rfl
      | lst a => exact same_rt rfl
      | tup a => exact same_rt rfl
      | _ => cases n <;> simp [okP] at hx
    | int b =>
      cases x with
      | non => exact same_rt rfl
      | str a => exact same_rt rfl
      | bl a => exact same_rt rfl
      | int a => exact same_rt rfl
      | lst a => exact same_rt rfl
      | tup a => exact same_rt rfl
      | _ => cases n <;> simp [okP] at hx
    | lst ys =>
      cases x with
      | non => exact same_rt rfl
      | str a => exact same_rt rfl
      | bl a => exact same_rt rfl
      | int a => exact same_rt rfl
      | tup a => exact same_rt rfl
      | lst xs =>
        cases n with
        | zero => simp [okP] at hx
        | succ m =>
          rw [okP, Bool.and_eq_true] at hx hy
          exact seq xs ys rfl rfl ⟨m, rfl, hx.2, hy.2⟩ (of_decide_eq_true hx.1) rfl (bCons_rt rfl)
      | _ => cases n <;> simp [okP] at hx
    | tup ys =>
      cases x with
      | non => exact same_rt rfl
      | str a => exact same_rt rfl
      | bl a => exact same_rt rfl
      | int a => exact same_rt rfl
      | lst a => exact same_rt rfl
      | tup xs =>
        cases n with
        | zero => simp [okP] at hx
        | succ m =>
          rw [okP, Bool.and_eq_true] at hx hy
          exact seq xs ys rfl rfl ⟨m, rfl, hx.2, hy.2⟩ (of_decide_eq_true hx.1) rfl (bCons_rt rfl)
      | _ => cases n <;> simp [okP] at hx
    | _ => cases n <;> simp [okP] at hy
theorem r_same : FnP (A := F × F × Unit) (R := Bool) (mSame 8) (fun a => d_same a.1 a.2.1) := fun rest s a hcl => by
  dsimp only
  unfold d_same
  by_cases h : okP 7 a.1 = true ∧ okP 7 a.2.1 = true
  · rw [if_pos h]
    exact same_ok 7 (by decide) a.1 a.2.1 h.1 h.2 rest hcl
  · rw [if_neg h]
    trivial
theorem J.cast {σ X : Type} {wr : Wr σ} {B : Bs wr} {n : Nat} {K : X → σ → SR → Prop} {G : List (Nat × W)} {cs : List (Nat × Cell)} {t : TSv} {s : σ} {o o' : O σ X} (h : J B n K G cs t s o) (e : o = o') : J B n K G cs t s o' := e ▸ h
/-! ### the law -/
theorem law_run {n i : Nat} {ms : FnM} {rest : TSv} {ns : List Int} {o : O Sp Bool} (hn : 1 ≤ n) (hi : i < n) (hs : ms [.f (.scr ns)] [] = .ok (.loc 1) (spS ⟨ns, 0, 0, 11⟩))
    (h : ∀ B : Bs wS, J B n (Kfn B) [(i, .loc 1)] [] rest ⟨ns, 0, 0, 11⟩ o) (ho : ∃ s', o = .ok true s') : ∃ st, fnM 1 n (bCons (sSet i (eCall ms (aCons (eVar 0) aNil))) rest) [.f (.scr ns)] [] = .ok (.f (.bl true)) st := by
  obtain ⟨s', rfl⟩ := ho
  have hcl : Cl (wS.put ⟨ns, 0, 0, 11⟩ []) := by
    show clean _ _ = true
    simp [wS, spS, clean, Cell.below, W.below]
  have ok0 : Ok (mkB wS [] ⟨ns, 0, 0, 11⟩ hcl).b n [(i, W.loc 1)] [] ((some (W.f (F.scr ns)) :: List.replicate (n - 1) none).set i (some (.loc 1))) [] := by
    refine ⟨by simp; omega, by simp [clean], by simp, (fun _ _ q => nomatch q), fun j w q => ?_⟩
    rw [lk_cons] at q
    cases e : Nat.beq i j with
    | true =>
      rw [e] at q; cases q
      cases Nat.eq_of_beq_eq_true e
      exact List.getElem?_set_self (by simp; omega)
    | false => rw [e] at q; cases q
  have z := h (mkB wS [] ⟨ns, 0, 0, 11⟩ hcl) _ _ ok0
  have e : bCons (sSet i (eCall ms (aCons (eVar 0) aNil))) rest (some (W.f (F.scr ns)) :: List.replicate (n - 1) none) [] = rest ((some (W.f (F.scr ns)) :: List.replicate (n - 1) none).set i (some (.loc 1))) (spS ⟨ns, 0, 0, 11⟩) := by
    unfold bCons sSet eCall
    show (match Res.thenS (Res.bind (.ok [W.f (F.scr ns)] []) fun ws st1 => ms ws st1) fun w st1 => SR.nx ((some (W.f (F.scr ns)) :: List.replicate (n - 1) none).set i (some w)) st1 with
      | .nx env1 st1 => rest env1 st1
      | x => x) = _
    show (match Res.thenS (ms [W.f (F.scr ns)] []) fun w st1 => SR.nx ((some (W.f (F.scr ns)) :: List.replicate (n - 1) none).set i (some w)) st1 with
      | .nx env1 st1 => rest env1 st1
      | x => x) = _
    rw [hs]; rfl
  have e0 : fnM 1 n (bCons (sSet i (eCall ms (aCons (eVar 0) aNil))) rest) [.f (.scr ns)] [] = (match rest ((some (W.f (F.scr ns)) :: List.replicate (n - 1) none).set i (some (.loc 1))) (spS ⟨ns, 0, 0, 11⟩) with
      | .rt w st1 => retW 0 w st1
      | .nx _ st1 => retW 0 (.f .non) st1
      | .exc c fs st1 => .exc c fs st1
      | _ => .stuck) := by
    rw [← e]
    show (match bCons (sSet i (eCall ms (aCons (eVar 0) aNil))) rest (some (W.f (F.scr ns)) :: List.replicate (n - 1) none) [] with
      | .rt w st1 => retW 0 w st1
      | .nx _ st1 => retW 0 (.f .non) st1
      | .exc c fs st1 => .exc c fs st1
      | _ => .stuck) = _
    cases bCons (sSet i (eCall ms (aCons (eVar 0) aNil))) rest (some (W.f (F.scr ns)) :: List.replicate (n - 1) none) [] <;> rfl
  have hz : rest ((some (W.f (F.scr ns)) :: List.replicate (n - 1) none).set i (some (.loc 1))) (spS ⟨ns, 0, 0, 11⟩) = rest ((some (W.f (F.scr ns)) :: List.replicate (n - 1) none).set i (some (.loc 1))) ((mkB wS [] ⟨ns, 0, 0, 11⟩ hcl).st ⟨ns, 0, 0, 11⟩ ++ []) := by
    show _ = rest _ ((spS ⟨ns, 0, 0, 11⟩ ++ []) ++ [])
    rw [List.append_nil, List.append_nil]
  rw [e0, hz]
  rcases z with ⟨r', e1⟩ | ⟨e1, _⟩
  · rw [e1]
    exact ⟨[], rfl⟩
  · cases e1
end TL

set_option Elab.async false
set_option linter.all false
set_option maxRecDepth 100000
set_option maxHeartbeats 4000000
set_option autoImplicit false
/-! T9: parallel assignments, of data and of cells. -/
namespace TL
open VS
open L2 (atI ixN)
section
variable {σ α β γ δ R X S A : Type} {wr : Wr σ} {B : Bs wr} {n : Nat} {G G' : List (Nat × W)} {cs cs1 cs2 cs3 : List (Nat × Cell)} {s : σ} {K : X → σ → SR → Prop} {rest t t1 t2 : TSv} {ta tb te : TEv} {wa : TTv} {tr : TAv} {T : Tab} {fin : List W → TSv} {acc : List W}
def JA (B : Bs wr) (n : Nat) (K : X → σ → SR → Prop) (G : List (Nat × W)) (cs : List (Nat × Cell)) (fin : List W → TSv) (acc : List W) (tr : TAv) (s : σ) (o : O σ X) : Prop :=
  ∀ env r, Ok B.b n G cs env r → RlS B K ((tr env (B.st s ++ r)).thenS fun ws st => fin (acc ++ ws) env st) o
def bindG : List Nat → List W → List (Nat × W) → List (Nat × W)
  | i :: is, w :: ws, G => bindG is ws ((i, w) :: G)
  | _, _, G => G
def setAll (env : Env) : List Nat → List W → Env
  | i :: is, w :: ws => setAll (env.set i (some w)) is ws
  | _, _ => env
theorem setAll_ok {b : Nat} {r : Store} : ∀ {is : List Nat} {ws : List W} {G : List (Nat × W)} {env : Env}, (is.all fun i => decide (i < n)) = true → Ok b n G cs env r → Ok b n (bindG is ws G) cs (setAll env is ws) r
  | [], _, _, _, _, k => k
  | _ :: _, [], _, _, _, k => k
  | i :: is, w :: ws, G, env, h, k => by
    rw [List.all_cons, Bool.and_eq_true] at h
    exact setAll_ok (is := is) (ws := ws) h.2 (k.set (of_decide_eq_true h.1) w)
theorem ja_end {is : List Nat} {o : O σ X} (hi : (is.all fun i => decide (i < n)) = true) (hf : ∀ env st, fin (acc ++ []) env st = rest (setAll env is acc) st) (h : J B n K (bindG is acc G) cs rest s o) : JA B n K G cs fin acc aNil s o := fun env r k => by
  show RlS B K (fin (acc ++ []) env (B.st s ++ r)) o
  rw [hf]
  exact h _ _ (setAll_ok hi k)
theorem ja_v [En α] {o : O σ α} {k : α → σ → O σ X} (h : E B n G cs cs1 ta s o) (hr : ∀ a s1, JA B n K G cs1 fin (acc ++ [w_ a]) tr s1 (k a s1)) : JA B n K G cs fin acc (aCons ta tr) s (o.bind k) := fun env r q => by
  have e : ((aCons ta tr) env (B.st s ++ r)).thenS (fun ws st => fin (acc ++ ws) env st) = (ta env (B.st s ++ r)).thenS fun w st1 => (tr env st1).thenS fun ws st2 => fin ((acc ++ [w]) ++ ws) env st2 := by
    unfold aCons
    cases ta env (B.st s ++ r) with
    | ok w st1 =>
      simp only [Res.bind, Res.thenS]
      cases tr env st1 with
      | ok ws st2 => simp
      | _ => rfl
    | _ => rfl
  rw [e]
  exact (h env r q).thenS fun a s1 r1 _ k1 p1 => hr a s1 env r1 k1
theorem ja_c [En α] {o : O σ (List α)} {k : List α → σ → O σ X} (h : EC B n G cs cs1 ta s o) (hr : ∀ c a s1, JA B n K G ((c, cl_ a) :: cs1) fin (acc ++ [.loc (B.b + c)]) tr s1 (k a s1)) : JA B n K G cs fin acc (aCons ta tr) s (o.bind k) := fun env r q => by
  have e : ((aCons ta tr) env (B.st s ++ r)).thenS (fun ws st => fin (acc ++ ws) env st) = (ta env (B.st s ++ r)).thenS fun w st1 => (tr env st1).thenS fun ws st2 => fin ((acc ++ [w]) ++ ws) env st2 := by
    unfold aCons
    cases ta env (B.st s ++ r) with
    | ok w st1 =>
      simp only [Res.bind, Res.thenS]
      cases tr env st1 with
      | ok ws st2 => simp
      | _ => rfl
    | _ => rfl
  rw [e]
  have z := h env r q
  cases o with
  | no => trivial
  | ex c fs s' => obtain ⟨r', e, k'⟩ := z; rw [e]; exact ⟨r', rfl, k'.cl⟩
  | ok l s1 =>
    obtain ⟨r1, e, k1, p1⟩ := z
    rw [e]
    exact hr r1.length l s1 env _ (k1.new rfl)
def fin2 (i j : Nat) (rest : TSv) : List W → TSv := fun ws env st => match ws with
  | [w1, w2] => rest ((env.set i (some w1)).set j (some w2)) st
  | _ => .stuck
def fin3 (i j l : Nat) (rest : TSv) : List W → TSv := fun ws env st => match ws with
  | [w1, w2, w3] => rest (((env.set i (some w1)).set j (some w2)).set l (some w3)) st
  | _ => .stuck
def finU (gs : List TM) (rest : TSv) : List W → TSv := fun ws env st => if small ws.length = true then (match msRun gs ws env st with
  | some r => rest r.1 r.2
  | none => .stuck) else .stuck
theorem j_a2 {i j : Nat} {o : O σ X} (h : JA B n K G cs (fin2 i j rest) [] tr s o) : J B n K G cs (bCons (sPar2 i j tr) rest) s o := fun env r q => by
  have z := h env r q
  have e : bCons (sPar2 i j tr) rest env (B.st s ++ r) = (tr env (B.st s ++ r)).thenS fun ws st => fin2 i j rest ([] ++ ws) env st := by
    unfold bCons sPar2
    cases tr env (B.st s ++ r) with
    | ok w st1 => simp only [Res.thenS]; rcases w with _ | ⟨a, _ | ⟨b, _ | ⟨c, d⟩⟩⟩ <;> rfl
    | _ => rfl
  rw [e]
  exact z
theorem j_a3 {i j l : Nat} {o : O σ X} (h : JA B n K G cs (fin3 i j l rest) [] tr s o) : J B n K G cs (bCons (sPar3 i j l tr) rest) s o := fun env r q => by
  have z := h env r q
  have e : bCons (sPar3 i j l tr) rest env (B.st s ++ r) = (tr env (B.st s ++ r)).thenS fun ws st => fin3 i j l rest ([] ++ ws) env st := by
    unfold bCons sPar3
    cases tr env (B.st s ++ r) with
    | ok w st1 => simp only [Res.thenS]; rcases w with _ | ⟨a, _ | ⟨b, _ | ⟨c, _ | ⟨d, f⟩⟩⟩⟩ <;> rfl
    | _ => rfl
  rw [e]
  exact z
theorem j_aU {gs : List TM} {o : O σ X} (h : JA B n K G cs (finU gs rest) [] tr s o) : J B n K G cs (bCons (sUnp gs tr) rest) s o := fun env r q => by
  have z := h env r q
  have e : bCons (sUnp gs tr) rest env (B.st s ++ r) = (tr env (B.st s ++ r)).thenS fun ws st => finU gs rest ([] ++ ws) env st := by
    unfold bCons sUnp
    cases tr env (B.st s ++ r) with
    | ok w st1 =>
      simp only [Res.thenS, finU, List.nil_append]
      cases hs : small w.length with
      | false => rfl
      | true => simp only [if_true]; cases msRun gs w env st1 <;> rfl
    | _ => rfl
  rw [e]
  exact z
end
end TL

set_option Elab.async false
set_option linter.all false
set_option maxRecDepth 100000
set_option maxHeartbeats 4000000
set_option autoImplicit false
/-! T10: dicts, typed. -/
namespace TL
open VS PySem PySem.Spec PyProof.Rows L2
/-- the one or the other -/
inductive Ei (α β : Type) where
  | a (x : α) | b (x : β)
instance {α β : Type} [En α] [En β] : En (Ei α β) := ⟨fun o => match o with
  | .a x => En.e x
  | .b x => En.e x⟩
class Ky (κ : Type) [En κ] where
  key : κ → Key
  ok : ∀ a, keyF (En.e a) = some (key a)
  inj : ∀ a b, key a = key b → a = b
theorem S_inj {a b : List Nat} (h : S a = S b) : a = b := by
  unfold S at h
  injection h with h
  simpa using h
instance : Ky Int := ⟨fun i => .inl i, fun _ => rfl, fun a b h => by injection h⟩
instance : Ky (List Nat) := ⟨fun i => .inr (S i), fun _ => rfl, fun a b h => by injection h with h; exact S_inj h⟩
instance : Ky Ch := ⟨fun i => .inr (S [i.c]), fun _ => rfl, fun a b h => by
  injection h with h
  have := S_inj h
  cases a; cases b
  simp at this
  rw [this]⟩
section
variable {κ ν : Type} [En κ] [En ν] [Ky κ] [DecidableEq κ]
theorem keyEq_ky (a b : κ) : keyEq (En.e a) (En.e b) = decide (a = b) := by
  rw [keyEq_of (Ky.ok a) (Ky.ok b)]
  exact decide_eq_decide.mpr ⟨Ky.inj a b, fun e => by rw [e]⟩
def eP (p : κ × ν) : F × F := (En.e p.1, En.e p.2)
def lookD (l : List (κ × ν)) (y : κ) : Option ν := (l.find? fun p => decide (p.1 = y)).map (·.2)
def putD (l : List (κ × ν)) (y : κ) (x : ν) : List (κ × ν) :=
  if (l.any fun p => decide (p.1 = y)) = true then l.map (fun p => if p.1 = y then (p.1, x) else p) else l ++ [(y, x)]
def mergeD (l more : List (κ × ν)) : List (κ × ν) := more.foldl (fun acc p => putD acc p.1 p.2) l
theorem lookF_ky (y : κ) : ∀ l : List (κ × ν), lookF (l.map eP) (En.e y) = (lookD l y).map En.e
  | [] => rfl
  | p :: l => by
    have e : keyEq (eP p).1 (En.e y) = decide (p.1 = y) := keyEq_ky p.1 y
    have ih := lookF_ky y l
    unfold lookF lookD at ih ⊢
    rw [List.map_cons]
    by_cases h : p.1 = y
    · rw [List.find?_cons_of_pos (by rw [e]; exact decide_eq_true h), List.find?_cons_of_pos (by exact decide_eq_true h)]
      rfl
    · rw [List.find?_cons_of_neg (by rw [e]; simp [h]), List.find?_cons_of_neg (by simp [h])]
      exact ih
theorem putDF_ky (y : κ) (x : ν) (l : List (κ × ν)) : putDF (l.map eP) (En.e y) (En.e x) = (putD l y x).map eP := by
  unfold putDF putD
  have e : ((l.map eP).any fun p => keyEq p.1 (En.e y)) = (l.any fun p => decide (p.1 = y)) := by
    rw [List.any_map]
    congr 1
    funext p
    exact keyEq_ky p.1 y
  rw [e]
  by_cases h : (l.any fun p => decide (p.1 = y)) = true
  · rw [if_pos h, if_pos h, List.map_map, List.map_map]
    refine List.map_congr_left fun p _ => ?_
    show (if keyEq (En.e p.1) (En.e y) = true then (En.e p.1, En.e x) else eP p) = eP (if p.1 = y then (p.1, x) else p)
    rw [keyEq_ky]
    by_cases q : p.1 = y
    · rw [if_pos (decide_eq_true q), if_pos q]; rfl
    · rw [if_neg (by simp [q]), if_neg q]
  · rw [if_neg h, if_neg h, List.map_append]
    rfl
theorem mergeF_ky : ∀ (m l : List (κ × ν)), mergeF (l.map eP) (m.map eP) = (mergeD l m).map eP
  | [], l => rfl
  | p :: m, l => by
    have ih := mergeF_ky m (putD l p.1 p.2)
    rw [← putDF_ky] at ih
    exact ih
theorem pairsF_ky : ∀ l : List (κ × ν), pairsF (l.map fun p => (w_ p.1, w_ p.2)) = some (l.map eP)
  | [] => rfl
  | p :: l => by
    show (if (keyF (En.e p.1)).isSome = true then (pairsF (l.map fun p => (w_ p.1, w_ p.2))).map ((En.e p.1, En.e p.2) :: ·) else none) = _
    rw [Ky.ok, pairsF_ky l]
    rfl
def dispO {σ : Type} (l : List (κ × ν)) (s : σ) : O σ (Dc κ ν) := if l.length ≤ 15 then .ok (Dc.mk (mergeD [] l)) s else .no
end
section
variable {σ κ ν : Type} {wr : Wr σ} {B : Bs wr} {n : Nat} {G : List (Nat × W)} {cs cs1 cs2 : List (Nat × Cell)} {s : σ} [En κ] [En ν] {ts : List (TEv × TEv)} {tk tv : TEv} {q : σ → O σ (List (κ × ν))}
/-- the pairs of a display -/
def EPs (B : Bs wr) (n : Nat) (G : List (Nat × W)) (cs : List (Nat × Cell)) (ts : List (TEv × TEv)) (q : σ → O σ (List (κ × ν))) : Prop :=
  ∀ s env r k, Ok B.b n G ((k, .dct []) :: cs) env r → Rl B n G ((k, .dct []) :: cs) env r (fun l => l.map fun p => (w_ p.1, w_ p.2)) (pairsV ts env (B.st s ++ r)) (q s)
theorem p_nil : EPs B n G cs [] (fun s => .ok ([] : List (κ × ν)) s) := fun s env r k ok => Rl.mk rfl ok .refl
theorem p_cons {o1 : σ → O σ κ} {o2 : σ → O σ ν} (h1 : ∀ k s, E B n G ((k, .dct []) :: cs) ((k, .dct []) :: cs) tk s (o1 s)) (h2 : ∀ k s, E B n G ((k, .dct []) :: cs) ((k, .dct []) :: cs) tv s (o2 s)) (h : EPs B n G cs ts q) :
    EPs B n G cs ((tk, tv) :: ts) (fun s => (o1 s).bind fun a s1 => (o2 s1).bind fun b s2 => (q s2).bind fun l s3 => .ok ((a, b) :: l) s3) := fun s env r k ok => by
  refine (h1 k s env r ok).bind fun a s1 r1 _ k1 p1 => ?_
  refine Rl.up p1 ((h2 k s1 env r1 k1).bind fun b s2 r2 _ k2 p2 => ?_)
  refine Rl.up p2 ((h s2 env r2 k k2).bind fun l s3 r3 _ k3 p3 => ?_)
  exact Rl.mk rfl k3 p3
theorem clean_take {b m : Nat} {r : Store} (h : clean b r = true) : clean b (r.take m) = true := List.all_eq_true.mpr fun x hx => List.all_eq_true.mp h x (List.mem_of_mem_take hx)
theorem e_disp [Ky κ] [DecidableEq κ] (h : EPs B n G cs ts q) : E B n G cs cs (eFrz (eDisp ts)) s ((q s).bind fun l s1 => dispO l s1) := fun env r k => by
  have hn := h s env (r ++ [.dct []]) r.length (k.new (c := .dct []) rfl)
  show Rl _ _ _ _ _ _ _ ((eDisp ts env (B.st s ++ r)).bind _) _
  unfold eDisp
  rw [List.append_assoc, st_len]
  generalize he : q s = o at hn ⊢
  cases o with
  | no => trivial
  | ex c fs s1 => obtain ⟨r1, z, k1⟩ := hn; rw [z]; exact ⟨r1, rfl, k1⟩
  | ok l s1 =>
    obtain ⟨r1, z, k1, p⟩ := hn
    rw [z]
    show Rl _ _ _ _ _ _ _ _ (dispO l s1)
    unfold dispO
    by_cases hl : l.length ≤ 15
    · rw [if_pos hl]
      have hc : r1[r.length]? = some (.dct []) := k1.cell _ _ (.head _)
      have hl1 : r1.length = r.length + 1 := by rw [p.len]; simp
      have hcl : ∀ b, clean b r = true → clean b r1 = true := fun b hb => p.cl b (by
        unfold clean at hb ⊢
        rw [List.all_append, hb]; rfl)
      have hk : clean (B.b + r.length) r1 = true := hcl _ k.cl
      refine Rl.mk (r := r1.take r.length) ?_ ⟨k.len, by rw [List.length_take, Nat.min_eq_left (by omega)]; exact clean_take hk, k.nd, fun j c hj => ?_, k.var⟩ ⟨by rw [List.length_take]; omega, fun b hb => clean_take (hcl b hb)⟩
      · simp only [Res.bind, pairsF_ky]
        rw [st_get, hc, if_pos (show isEmptyD (some (Cell.dct [])) = true from rfl), if_pos (by unfold fewP; rw [List.length_map]; exact decide_eq_true hl)]
        simp only [st_set]
        have e1 : (l.map eP) = l.map (eP (κ := κ) (ν := ν)) := rfl
        have e2 := mergeF_ky l ([] : List (κ × ν))
        rw [List.map_nil] at e2
        rw [e2]
        unfold frz
        have e3 : deepF (B.b + r.length) (B.st s1 ++ r1.set r.length (.dct ((mergeD [] l).map eP))) 3 (.loc (B.b + r.length)) = some (.dct ((mergeD [] l).map eP)) := by
          unfold deepF
          rw [if_pos (Nat.le_refl _), st_get, List.getElem?_set_self (by omega)]
        have e4 : (B.st s1 ++ r1.set r.length (.dct ((mergeD [] l).map eP))).take (B.b + r.length) = B.st s1 ++ r1.take r.length := by
          rw [List.take_append, B.len s1, List.take_of_length_le (by rw [B.len s1]; omega), show B.b + r.length - B.b = r.length by omega, List.take_set_of_le (Nat.le_refl _)]
        rw [e3, e4]
        have e5 : clean (B.b + r.length) (B.st s1 ++ r1.take r.length) = true := by
          unfold clean
          rw [List.all_append, Bool.and_eq_true]
          exact ⟨below_all (Nat.le_add_right _ _) (B.clean s1), clean_take hk⟩
        simp only [e5, if_true]
        rfl
      · have hj1 := k1.cell j c (.tail _ hj)
        rw [List.getElem?_take_of_lt (k.cell_lt hj)]
        exact hj1
    · rw [if_neg hl]; trivial
theorem e_dget2 [Ky κ] [DecidableEq κ] {td te tf : TEv} {od : O σ (Dc κ ν)} {oe : σ → O σ κ} {of : σ → O σ ν} (h1 : E B n G cs cs1 td s od) (h2 : ∀ s, E B n G cs1 cs1 te s (oe s)) (h3 : ∀ s, E B n G cs1 cs1 tf s (of s)) :
    E B n G cs cs1 (eDGet2 td te tf) s (od.bind fun d s1 => (oe s1).bind fun y s2 => (of s2).bind fun z s3 => .ok ((lookD d.l y).getD z) s3) := fun env r k => by
  refine (h1 env r k).bind fun d s1 r1 _ k1 p1 => ?_
  show Rl _ _ _ _ _ _ _ (if isDct (some (En.e d)) = true then _ else _) _
  rw [if_pos (show isDct (some (En.e d)) = true from rfl)]
  refine Rl.up p1 ((h2 s1 env r1 k1).bind fun y s2 r2 _ k2 p2 => ?_)
  refine Rl.up p2 ((h3 s2 env r2 k2).bind fun z s3 r3 _ k3 p3 => ?_)
  refine Rl.mk ?_ k3 p3
  show (if (keyF (En.e y)).isSome = true then (match lookF (d.l.map eP) (En.e y) with
    | some x => Res.ok (W.f x) _
    | none => Res.ok (w_ z) _) else .stuck) = _
  rw [Ky.ok, if_pos (show (some (Ky.key y)).isSome = true from rfl), lookF_ky]
  cases lookD d.l y <;> rfl
end
end TL

set_option Elab.async false
set_option linter.all false
set_option maxRecDepth 100000
set_option maxHeartbeats 4000000
set_option autoImplicit false
namespace LB
open PySem PySem.Spec PyProof.Rows L2 VS
/-! ### the text by places -/
def topS (i : Nat) : Stmt := PySem.Challenge.pw_longbough_k07_whole_needed_and_sure.main.body.getD i (.Pass ⟨0, 0, 0, 0⟩)
def T : Tab := ⟨[⟨"Pieces", [0]⟩, ⟨"Row", [1]⟩], ["pairs", "pieces"]⟩
/-! ### what the top has left -/
abbrev s__law_start : Stmt := (topS 43)
abbrev s__law_r_words : Stmt := (topS 39)
abbrev s__law_gain : Stmt := (topS 47)
abbrev s__law_draw : Stmt := (topS 44)
abbrev s__law_pick : Stmt := (topS 45)
abbrev s__law_t_row : Stmt := (topS 40)
abbrev s_check_kinds : Stmt := (topS 13)
abbrev s_Row___init__ : Stmt := (inClass (topS 21) 0)
abbrev s_row_of : Stmt := (topS 14)
abbrev s_is_integer : Stmt := (topS 7)
abbrev s_check_slot : Stmt := (topS 29)
abbrev s_Row___len__ : Stmt := (inClass (topS 21) 1)
abbrev s_stepped : Stmt := (topS 23)
abbrev s_states_of : Stmt := (topS 24)
abbrev s_rounds_alike : Stmt := (topS 25)
abbrev s_powered : Stmt := (topS 26)
abbrev s_through : Stmt := (topS 27)
abbrev s_reach : Stmt := (topS 28)
abbrev s_cut_piece : Stmt := (topS 15)
abbrev s_Pieces___init__ : Stmt := (inClass (topS 20) 0)
abbrev s_Row_part : Stmt := (inClass (topS 21) 10)
abbrev s_both : Stmt := (topS 30)
abbrev s_needed : Stmt := (topS 34)
abbrev s_Row___add__ : Stmt := (inClass (topS 21) 3)
abbrev s_Row___radd__ : Stmt := (inClass (topS 21) 4)
abbrev s__law_r_built : Stmt := (topS 37)
abbrev s__law_r_handed : Stmt := (topS 38)
abbrev s__law_t_step : Stmt := (topS 41)
abbrev s__law_t_both : Stmt := (topS 42)
abbrev s_margin : Stmt := (topS 31)
abbrev s__law_needed_right : Stmt := (topS 48)
abbrev s_last_below : Stmt := (topS 32)
abbrev s_sure : Stmt := (topS 35)
abbrev s__law_same : Stmt := (topS 46)
abbrev s_firm : Stmt := (topS 33)
abbrev s_law : Stmt := (topS 49)
structure Facts (K : PySem.W.Frag) (mg : Str → Option Value) : Prop where
  tab : TabOk K T
  isi : IsiOk K T
  sf0 : PySem.W.selfFirst K (He.ga K "Row") = true
  bt0 : BinT K (He.ga K "Row") "add" "str"
  br0 : BinR K (He.ga K "Row") "add" "str"
  g0 : mg "_law_start" = some (.ref (He.ga K "_law_start"))
  g1 : mg "_law_r_words" = some (.ref (He.ga K "_law_r_words"))
  g2 : mg "_law_gain" = some (.ref (He.ga K "_law_gain"))
  g3 : mg "_law_draw" = some (.ref (He.ga K "_law_draw"))
  g4 : mg "_law_pick" = some (.ref (He.ga K "_law_pick"))
  g5 : mg "_law_t_row" = some (.ref (He.ga K "_law_t_row"))
  g6 : mg "Row" = some (.ref (He.ga K "Row"))
  g7 : mg "Pieces" = some (.ref (He.ga K "Pieces"))
  g8 : mg "check_kinds" = some (.ref (He.ga K "check_kinds"))
  g9 : mg "row_of" = some (.ref (He.ga K "row_of"))
  g10 : mg "is_integer" = some (.ref (He.ga K "is_integer"))
  g11 : mg "check_slot" = some (.ref (He.ga K "check_slot"))
  g12 : mg "stepped" = some (.ref (He.ga K "stepped"))
  g13 : mg "states_of" = some (.ref (He.ga K "states_of"))
  g14 : mg "rounds_alike" = some (.ref (He.ga K "rounds_alike"))
  g15 : mg "powered" = some (.ref (He.ga K "powered"))
  g16 : mg "through" = some (.ref (He.ga K "through"))
  g17 : mg "reach" = some (.ref (He.ga K "reach"))
  g18 : mg "cut_piece" = some (.ref (He.ga K "cut_piece"))
  g19 : mg "both" = some (.ref (He.ga K "both"))
  g20 : mg "needed" = some (.ref (He.ga K "needed"))
  g21 : mg "_law_r_built" = some (.ref (He.ga K "_law_r_built"))
  g22 : mg "_law_r_handed" = some (.ref (He.ga K "_law_r_handed"))
  g23 : mg "_law_t_step" = some (.ref (He.ga K "_law_t_step"))
  g24 : mg "_law_t_both" = some (.ref (He.ga K "_law_t_both"))
  g25 : mg "margin" = some (.ref (He.ga K "margin"))
  g26 : mg "_law_needed_right" = some (.ref (He.ga K "_law_needed_right"))
  g27 : mg "last_below" = some (.ref (He.ga K "last_below"))
  g28 : mg "sure" = some (.ref (He.ga K "sure"))
  g29 : mg "_law_same" = some (.ref (He.ga K "_law_same"))
  g30 : mg "firm" = some (.ref (He.ga K "firm"))
  n0 : mg "list" = none
  n1 : mg "range" = none
  n2 : mg "max" = none
  n3 : mg "int" = none
  n4 : mg "len" = none
  n5 : mg "isinstance" = none
  n6 : mg "str" = none
  n7 : mg "enumerate" = none
  n8 : mg "bool" = none
  n9 : mg "sum" = none
  n10 : mg "zip" = none
  n11 : mg "min" = none
  n12 : mg "any" = none
  n13 : mg "tuple" = none
  n14 : mg "all" = none
  cs0 : ∃ t, mg "KINDS" = some (.str "hH.A" t)
  cs1 : ∃ t, mg "TRUE_KINDS" = some (.str "hH" t)
  me0 : Meth K (He.ga K "Row") "__len__" (He.ma K (He.ga K "Row") "__len__")
  me1 : Meth K (He.ga K "Row") "part" (He.ma K (He.ga K "Row") "part")
  me2 : Meth K (He.ga K "Row") "__add__" (He.ma K (He.ga K "Row") "__add__")
  me3 : Meth K (He.ga K "Row") "__radd__" (He.ma K (He.ga K "Row") "__radd__")
  mk0 : Mk K (He.ga K "Row") (He.ma K (He.ga K "Row") "__init__")
  mk1 : Mk K (He.ga K "Pieces") (He.ma K (He.ga K "Pieces") "__init__")
  d__law_start : ∃ fd, FunD K "_law_start" "_law_start" (defArgs s__law_start) (defBody s__law_start) (defScope s__law_start) [] [] (He.ga K "_law_start") fd
  d__law_r_words : ∃ fd, FunD K "_law_r_words" "_law_r_words" (defArgs s__law_r_words) (defBody s__law_r_words) (defScope s__law_r_words) [] [] (He.ga K "_law_r_words") fd
  d__law_gain : ∃ fd, FunD K "_law_gain" "_law_gain" (defArgs s__law_gain) (defBody s__law_gain) (defScope s__law_gain) [] [] (He.ga K "_law_gain") fd
  d__law_draw : ∃ fd, FunD K "_law_draw" "_law_draw" (defArgs s__law_draw) (defBody s__law_draw) (defScope s__law_draw) [] [] (He.ga K "_law_draw") fd
  d__law_pick : ∃ fd, FunD K "_law_pick" "_law_pick" (defArgs s__law_pick) (defBody s__law_pick) (defScope s__law_pick) [] [] (He.ga K "_law_pick") fd
  d__law_t_row : ∃ fd, FunD K "_law_t_row" "_law_t_row" (defArgs s__law_t_row) (defBody s__law_t_row) (defScope s__law_t_row) [] [] (He.ga K "_law_t_row") fd
  d_check_kinds : ∃ fd, FunD K "check_kinds" "check_kinds" (defArgs s_check_kinds) (defBody s_check_kinds) (defScope s_check_kinds) [] [] (He.ga K "check_kinds") fd
  d_Row___init__ : ∃ fd, FunD K "__init__" "Row.__init__" (defArgs s_Row___init__) (defBody s_Row___init__) (defScope s_Row___init__) [(.str "")] [] (He.ma K (He.ga K "Row") "__init__") fd
  d_row_of : ∃ fd, FunD K "row_of" "row_of" (defArgs s_row_of) (defBody s_row_of) (defScope s_row_of) [] [] (He.ga K "row_of") fd
  d_is_integer : ∃ fd, FunD K "is_integer" "is_integer" (defArgs s_is_integer) (defBody s_is_integer) (defScope s_is_integer) [] [] (He.ga K "is_integer") fd
  d_check_slot : ∃ fd, FunD K "check_slot" "check_slot" (defArgs s_check_slot) (defBody s_check_slot) (defScope s_check_slot) [] [] (He.ga K "check_slot") fd
  d_Row___len__ : ∃ fd, FunD K "__len__" "Row.__len__" (defArgs s_Row___len__) (defBody s_Row___len__) (defScope s_Row___len__) [] [] (He.ma K (He.ga K "Row") "__len__") fd
  d_stepped : ∃ fd, FunD K "stepped" "stepped" (defArgs s_stepped) (defBody s_stepped) (defScope s_stepped) [] [] (He.ga K "stepped") fd
  d_states_of : ∃ fd, FunD K "states_of" "states_of" (defArgs s_states_of) (defBody s_states_of) (defScope s_states_of) [] [] (He.ga K "states_of") fd
  d_rounds_alike : ∃ fd, FunD K "rounds_alike" "rounds_alike" (defArgs s_rounds_alike) (defBody s_rounds_alike) (defScope s_rounds_alike) [] [] (He.ga K "rounds_alike") fd
  d_powered : ∃ fd, FunD K "powered" "powered" (defArgs s_powered) (defBody s_powered) (defScope s_powered) [] [] (He.ga K "powered") fd
  d_through : ∃ fd, FunD K "through" "through" (defArgs s_through) (defBody s_through) (defScope s_through) [] [] (He.ga K "through") fd
  d_reach : ∃ fd, FunD K "reach" "reach" (defArgs s_reach) (defBody s_reach) (defScope s_reach) [] [] (He.ga K "reach") fd
  d_cut_piece : ∃ fd, FunD K "cut_piece" "cut_piece" (defArgs s_cut_piece) (defBody s_cut_piece) (defScope s_cut_piece) [] [] (He.ga K "cut_piece") fd
  d_Pieces___init__ : ∃ fd, FunD K "__init__" "Pieces.__init__" (defArgs s_Pieces___init__) (defBody s_Pieces___init__) (defScope s_Pieces___init__) [] [] (He.ma K (He.ga K "Pieces") "__init__") fd
  d_Row_part : ∃ fd, FunD K "part" "Row.part" (defArgs s_Row_part) (defBody s_Row_part) (defScope s_Row_part) [] [] (He.ma K (He.ga K "Row") "part") fd
  d_both : ∃ fd, FunD K "both" "both" (defArgs s_both) (defBody s_both) (defScope s_both) [] [] (He.ga K "both") fd
  d_needed : ∃ fd, FunD K "needed" "needed" (defArgs s_needed) (defBody s_needed) (defScope s_needed) [] [] (He.ga K "needed") fd
  d_Row___add__ : ∃ fd, FunD K "__add__" "Row.__add__" (defArgs s_Row___add__) (defBody s_Row___add__) (defScope s_Row___add__) [] [] (He.ma K (He.ga K "Row") "__add__") fd
  d_Row___radd__ : ∃ fd, FunD K "__radd__" "Row.__radd__" (defArgs s_Row___radd__) (defBody s_Row___radd__) (defScope s_Row___radd__) [] [] (He.ma K (He.ga K "Row") "__radd__") fd
  d__law_r_built : ∃ fd, FunD K "_law_r_built" "_law_r_built" (defArgs s__law_r_built) (defBody s__law_r_built) (defScope s__law_r_built) [] [] (He.ga K "_law_r_built") fd
  d__law_r_handed : ∃ fd, FunD K "_law_r_handed" "_law_r_handed" (defArgs s__law_r_handed) (defBody s__law_r_handed) (defScope s__law_r_handed) [] [] (He.ga K "_law_r_handed") fd
  d__law_t_step : ∃ fd, FunD K "_law_t_step" "_law_t_step" (defArgs s__law_t_step) (defBody s__law_t_step) (defScope s__law_t_step) [] [] (He.ga K "_law_t_step") fd
  d__law_t_both : ∃ fd, FunD K "_law_t_both" "_law_t_both" (defArgs s__law_t_both) (defBody s__law_t_both) (defScope s__law_t_both) [] [] (He.ga K "_law_t_both") fd
  d_margin : ∃ fd, FunD K "margin" "margin" (defArgs s_margin) (defBody s_margin) (defScope s_margin) [] [] (He.ga K "margin") fd
  d__law_needed_right : ∃ fd, FunD K "_law_needed_right" "_law_needed_right" (defArgs s__law_needed_right) (defBody s__law_needed_right) (defScope s__law_needed_right) [] [] (He.ga K "_law_needed_right") fd
  d_last_below : ∃ fd, FunD K "last_below" "last_below" (defArgs s_last_below) (defBody s_last_below) (defScope s_last_below) [] [] (He.ga K "last_below") fd
  d_sure : ∃ fd, FunD K "sure" "sure" (defArgs s_sure) (defBody s_sure) (defScope s_sure) [] [] (He.ga K "sure") fd
  d__law_same : ∃ fd, FunD K "_law_same" "_law_same" (defArgs s__law_same) (defBody s__law_same) (defScope s__law_same) [] [] (He.ga K "_law_same") fd
  d_firm : ∃ fd, FunD K "firm" "firm" (defArgs s_firm) (defBody s_firm) (defScope s_firm) [] [] (He.ga K "firm") fd
  d_law : ∃ fd, FunD K "law" "law" (defArgs s_law) (defBody s_law) (defScope s_law) [] [] (He.ga K "law") fd
/-! _law_start -/
theorem sc__law_start : FnScope ["_law_script"] ["_law_script"] (defScope s__law_start) := ⟨rfl, rfl, rfl, by decide +kernel, rfl, by decide +kernel, by decide +kernel⟩
def t__law_start : TSv :=
  (sRet (eLstM (aCons (eListM (aCons (eVar 0) aNil)) (aCons (eC (.int 0)) (aCons (eC (.int 0)) (aCons (eC (.int 11)) aNil))))))
def m__law_start : FnM := fnM 1 1 t__law_start
theorem fo__law_start {P : Program} {w : World} {K : PySem.W.Frag} {mg : Str → Option Value} {base : Heap} (D : Facts K mg) {fd : FuncData} (F : FunD K "_law_start" "_law_start" (defArgs s__law_start) (defBody s__law_start) (defScope s__law_start) [] [] (He.ga K "_law_start") fd) : FnOk P w K mg base CX0 1 (He.ga K "_law_start") fd ["_law_script"] (spM K T m__law_start) := fn_v0 F sc__law_start fun cdv A outer s H E E' hr =>
    (vb_one (vs_ret (ve_lstM (va_cons (ve_listM rfl (D.n0) (va_cons (ve_var (i := 0) rfl (Or.inl rfl)) va_nil)) (va_cons ve_int (va_cons ve_int (va_cons ve_int va_nil)))))))
theorem ok__law_start {P : Program} {w : World} {K : PySem.W.Frag} {mg : Str → Option Value} {base : Heap} (D : Facts K mg) : Fn P w K mg base T CX0 1 (He.ga K "_law_start") m__law_start := by
  obtain ⟨fd, F⟩ := D.d__law_start
  exact Fn.plain (fo__law_start D F) (F.bindsN fun _ _ _ _ _ _ us hl => match us, hl with | [_], _ => rfl) F.kp
/-! _law_r_words -/
theorem sc__law_r_words : FnScope ["_law_most", "_law_found", "_law_last", "_law_k", "_law_longer", "_law_word", "_law_sign"] ["_law_most"] (defScope s__law_r_words) := ⟨rfl, rfl, rfl, by decide +kernel, rfl, by decide +kernel, by decide +kernel⟩
def t__law_r_words : TSv :=
  (bCons (sPar2 1 2 (aCons (eLstM (aCons (eC (.str [])) aNil)) (aCons (eLst (aCons (eC (.str [])) aNil)) aNil)))
    (bCons (sFor (iRange1 (aCons (eVar 0) aNil)) (gNm 3) (bCons (sSet 4 (eLstM aNil))
    (bCons (sFor (iAny (eVar 2)) (gNm 5) (sExpr (eMut false cExtend (eVar 4) (aCons (eFrz (eLc (iAny (eC (.str [104, 72, 46, 65]))) (gNm 6) tYesV (eOp2 addF (eVar 5) (eVar 6)) [6])) aNil))))
    (bCons (sSet 2 (eCB (g1 listF) (aCons (eVar 4) aNil)))
    (sExpr (eMut false cExtend (eVar 1) (aCons (eVar 2) aNil)))))))
    (sRet (eFrzC (eVar 1)))))
def m__law_r_words : FnM := fnM 1 7 t__law_r_words
theorem fo__law_r_words {P : Program} {w : World} {K : PySem.W.Frag} {mg : Str → Option Value} {base : Heap} (D : Facts K mg) {fd : FuncData} (F : FunD K "_law_r_words" "_law_r_words" (defArgs s__law_r_words) (defBody s__law_r_words) (defScope s__law_r_words) [] [] (He.ga K "_law_r_words") fd) : FnOk P w K mg base CX0 1 (He.ga K "_law_r_words") fd ["_law_most"] (spM K T m__law_r_words) := fn_v0 F sc__law_r_words fun cdv A outer s H E E' hr =>
    (vb_cons (vs_par2 (i := 1) (j := 2) rfl sc__law_r_words.nd rfl rfl (by decide) rfl rfl (va_cons (ve_lstM (va_cons (ve_str (by decide +kernel)) va_nil)) (va_cons (ve_lst (va_cons (ve_str (by decide +kernel)) va_nil)) va_nil)) (by kernel_rfl))
    (vb_cons (vs_for PassesOwn.never rfl (vi_range1 rfl (D.n1) (va_cons (ve_var (i := 0) rfl (Or.inl rfl)) va_nil)) (vg_name (i := 3) sc__law_r_words.nd rfl (Or.inl rfl)) (vb_cons (vs_set (i := 4) sc__law_r_words.nd rfl (Or.inl rfl) (ve_lstM va_nil))
    (vb_cons (vs_for PassesOwn.never rfl (vi_any (ve_var (i := 2) rfl (Or.inl rfl))) (vg_name (i := 5) sc__law_r_words.nd rfl (Or.inr rfl)) (vb_one (vs_expr (ve_extend (ve_var (i := 4) rfl (Or.inl rfl)) (ve_frz (ve_lc (own := [("_law_sign", 6)]) rfl sc__law_r_words.nd (vi_any (ve_str (by decide +kernel))) (blkOk_by (by kernel_rfl)) (by decide) (fun _ _ _ _ _ => (vgw_name (i := 6) sc__law_r_words.nd rfl (Or.inl rfl))) (fun _ _ _ _ _ => vts_nil) (fun _ _ _ _ _ => (ve_op or_add o2_add (ve_var (i := 5) rfl (Or.inr (Or.inl rfl))) (ve_var (i := 6) rfl (Or.inl rfl))))))))))
    (vb_cons (vs_set (i := 2) sc__law_r_words.nd rfl (Or.inl rfl) (ve_callTy call_list_of on_list rfl (D.n0) (by decide +kernel) (va_cons (ve_var (i := 4) rfl (Or.inl rfl)) va_nil)))
    (vb_one (vs_expr (ve_extend (ve_var (i := 1) rfl (Or.inl rfl)) (ve_var (i := 2) rfl (Or.inl rfl)))))))))
    (vb_one (vs_ret (ve_frzC (ve_var (i := 1) rfl (Or.inl rfl)))))))
theorem ok__law_r_words {P : Program} {w : World} {K : PySem.W.Frag} {mg : Str → Option Value} {base : Heap} (D : Facts K mg) : Fn P w K mg base T CX0 1 (He.ga K "_law_r_words") m__law_r_words := by
  obtain ⟨fd, F⟩ := D.d__law_r_words
  exact Fn.plain (fo__law_r_words D F) (F.bindsN fun _ _ _ _ _ _ us hl => match us, hl with | [_], _ => rfl) F.kp
/-! _law_gain -/
theorem sc__law_gain : FnScope ["_law_text", "_law_found", "_law_here", "_law_sign"] ["_law_text"] (defScope s__law_gain) := ⟨rfl, rfl, rfl, by decide +kernel, rfl, by decide +kernel, by decide +kernel⟩
def t__law_gain : TSv :=
  (bCons (sUnp ((mNm 1) :: ((mNm 2) :: [])) (aCons (eC (.int 0)) (aCons (eC (.int 0)) aNil)))
    (bCons (sFor (iAny (eVar 0)) (gNm 3) (bCons (sSet 2 (eOp2 addF (eVar 2) (eDGet2 (eFrz (eDisp [((eC (.str [65])), (eC (.int 1))), ((eC (.str [46])), (eC (.int 0)))])) (eVar 3) (eOp1 negF (eC (.int 1))))))
    (sSet 1 (eCB (g2 max2F) (aCons (eVar 1) (aCons (eVar 2) aNil))))))
    (sRet (eVar 1))))
def m__law_gain : FnM := fnM 1 4 t__law_gain
theorem fo__law_gain {P : Program} {w : World} {K : PySem.W.Frag} {mg : Str → Option Value} {base : Heap} (D : Facts K mg) {fd : FuncData} (F : FunD K "_law_gain" "_law_gain" (defArgs s__law_gain) (defBody s__law_gain) (defScope s__law_gain) [] [] (He.ga K "_law_gain") fd) : FnOk P w K mg base CX0 1 (He.ga K "_law_gain") fd ["_law_text"] (spM K T m__law_gain) := fn_v0 F sc__law_gain fun cdv A outer s H E E' hr =>
    (vb_cons (vs_unp rfl (va_cons ve_int (va_cons ve_int va_nil)) (vms_cons (vm_name (i := 1) sc__law_gain.nd rfl (Or.inl rfl)) (vms_cons (vm_name (i := 2) sc__law_gain.nd rfl (Or.inl rfl)) vms_nil)))
    (vb_cons (vs_for PassesOwn.never rfl (vi_any (ve_var (i := 0) rfl (Or.inl rfl))) (vg_name (i := 3) sc__law_gain.nd rfl (Or.inl rfl)) (vb_cons (vs_set (i := 2) sc__law_gain.nd rfl (Or.inl rfl) (ve_op or_add o2_add (ve_var (i := 2) rfl (Or.inl rfl)) (ve_dget2 (hu1 (hu64 hr)) (ve_frz (ve_disp (vps_cons (ve_str (by decide +kernel)) ve_int (vps_cons (ve_str (by decide +kernel)) ve_int vps_nil)))) (ve_var (i := 3) rfl (Or.inl rfl)) (ve_un un_neg o1_neg ve_int) ⟨rfl, rfl, rfl, rfl⟩)))
    (vb_one (vs_set (i := 1) sc__law_gain.nd rfl (Or.inl rfl) (ve_callB (call_max2 rfl) on_max2 rfl (D.n2) (by decide +kernel) (va_cons (ve_var (i := 1) rfl (Or.inl rfl)) (va_cons (ve_var (i := 2) rfl (Or.inl rfl)) va_nil)))))))
    (vb_one (vs_ret (ve_var (i := 1) rfl (Or.inl rfl))))))
theorem ok__law_gain {P : Program} {w : World} {K : PySem.W.Frag} {mg : Str → Option Value} {base : Heap} (D : Facts K mg) : Fn P w K mg base T CX0 1 (He.ga K "_law_gain") m__law_gain := by
  obtain ⟨fd, F⟩ := D.d__law_gain
  exact Fn.plain (fo__law_gain D F) (F.bindsN fun _ _ _ _ _ _ us hl => match us, hl with | [_], _ => rfl) F.kp
/-! _law_draw -/
theorem sc__law_draw : FnScope ["_law_stream", "_law_many", "_law_cell", "_law_digit", "_law_mixed"] ["_law_stream", "_law_many"] (defScope s__law_draw) := ⟨rfl, rfl, rfl, by decide +kernel, rfl, by decide +kernel, by decide +kernel⟩
def t__law_draw : TSv :=
  (bCons (sSub (eVar 0) (eC (.int 2)) (eOp2 addF (eIx (eVar 0) (eC (.int 2))) (eC (.int 1))))
    (bCons (sIf (tAndV (tVal (eOp2 eqF (eIx (eVar 0) (eC (.int 1))) (eC (.int 0)))) (tVal (eOp2 neF (eIx (eVar 0) (eC (.int 0))) (eLst aNil)))) (bCons (sSet 2 (eMut false cPopAt (eIx (eVar 0) (eC (.int 0))) (aCons (eC (.int 0)) aNil)))
    (bCons (sSub (eVar 0) (eC (.int 3)) (eOp2 modF (eCB (g1 intF) (aCons (eOp2 addF (eOp2 addF (eOp2 mulF (eIx (eVar 0) (eC (.int 3))) (eC (.int 8191))) (eVar 2)) (eC (.int 3))) aNil)) (eC (.int 2147483647))))
    (sSub (eVar 0) (eC (.int 1)) (eIf (tVal (eOp2 geF (eVar 2) (eOp2 powF (eC (.int 10)) (eC (.int 18))))) (eVar 2) (eC (.int 0)))))) bNil)
    (bCons (sIf (tVal (eOp2 gtF (eIx (eVar 0) (eC (.int 1))) (eC (.int 0)))) (bCons (sSet 3 (eOp2 modF (eCB (g1 intF) (aCons (eIx (eVar 0) (eC (.int 1))) aNil)) (eVar 1)))
    (bCons (sSub (eVar 0) (eC (.int 1)) (eOp2 fdivF (eIx (eVar 0) (eC (.int 1))) (eVar 1)))
    (sRet (eVar 3)))) bNil)
    (bCons (sSet 4 (eOp2 modF (eCB (g1 intF) (aCons (eOp2 powF (eOp2 addF (eOp2 addF (eIx (eVar 0) (eC (.int 3))) (eOp2 mulF (eC (.int 7919)) (eIx (eVar 0) (eC (.int 2))))) (eC (.int 104729))) (eC (.int 5))) aNil)) (eC (.int 2147483629))))
    (sRet (eOp2 modF (eOp2 modF (eCB (g1 intF) (aCons (eOp2 powF (eOp2 addF (eOp2 addF (eOp2 mulF (eVar 4) (eC (.int 48271))) (eOp2 mulF (eC (.int 30011)) (eIx (eVar 0) (eC (.int 2))))) (eC (.int 29))) (eC (.int 3))) aNil)) (eC (.int 1000000007))) (eVar 1)))))))
def m__law_draw : FnM := fnM 2 5 t__law_draw
theorem fo__law_draw {P : Program} {w : World} {K : PySem.W.Frag} {mg : Str → Option Value} {base : Heap} (D : Facts K mg) {fd : FuncData} (F : FunD K "_law_draw" "_law_draw" (defArgs s__law_draw) (defBody s__law_draw) (defScope s__law_draw) [] [] (He.ga K "_law_draw") fd) : FnOk P w K mg base CX0 1 (He.ga K "_law_draw") fd ["_law_stream", "_law_many"] (spM K T m__law_draw) := fn_v0 F sc__law_draw fun cdv A outer s H E E' hr =>
    (vb_cons (vs_sub (ve_var (i := 0) rfl (Or.inl rfl)) ve_int (ve_op or_add o2_add (ve_ix (ve_var (i := 0) rfl (Or.inl rfl)) ve_int) ve_int))
    (vb_cons (vs_if (VW.vt (vw_and (vt_cmp (or_eq (hu64 hr)) o2_eq (ve_ix (ve_var (i := 0) rfl (Or.inl rfl)) ve_int) ve_int (nomark _)) (vw_and1 (vt_cmp (or_ne (hu64 hr)) o2_ne (ve_ix (ve_var (i := 0) rfl (Or.inl rfl)) ve_int) (ve_lst va_nil) (nomark _))))) (vb_cons (vs_set (i := 2) sc__law_draw.nd rfl (Or.inl rfl) (ve_popAt (ve_ix (ve_var (i := 0) rfl (Or.inl rfl)) ve_int) ve_int))
    (vb_cons (vs_sub (ve_var (i := 0) rfl (Or.inl rfl)) ve_int (ve_op op_mod o2_mod (ve_callTy call_int1 on_int rfl (D.n3) (by decide +kernel) (va_cons (ve_op or_add o2_add (ve_op or_add o2_add (ve_op or_mul o2_mul (ve_ix (ve_var (i := 0) rfl (Or.inl rfl)) ve_int) ve_int) (ve_var (i := 2) rfl (Or.inl rfl))) ve_int) va_nil)) ve_int))
    (vb_one (vs_sub (ve_var (i := 0) rfl (Or.inl rfl)) ve_int (ve_if (vt_cmp op_ge (o2_cmp (p := fun i j => decide (j ≤ i))) (ve_var (i := 2) rfl (Or.inl rfl)) (ve_op op_pow o2_pow ve_int ve_int) (nomark _)) (ve_var (i := 2) rfl (Or.inl rfl)) ve_int))))) vb_nil)
    (vb_cons (vs_if (vt_cmp op_gt (o2_cmp (p := fun i j => decide (j < i))) (ve_ix (ve_var (i := 0) rfl (Or.inl rfl)) ve_int) ve_int (nomark _)) (vb_cons (vs_set (i := 3) sc__law_draw.nd rfl (Or.inl rfl) (ve_op op_mod o2_mod (ve_callTy call_int1 on_int rfl (D.n3) (by decide +kernel) (va_cons (ve_ix (ve_var (i := 0) rfl (Or.inl rfl)) ve_int) va_nil)) (ve_var (i := 1) rfl (Or.inl rfl))))
    (vb_cons (vs_sub (ve_var (i := 0) rfl (Or.inl rfl)) ve_int (ve_op op_fdivW o2_fdiv (ve_ix (ve_var (i := 0) rfl (Or.inl rfl)) ve_int) (ve_var (i := 1) rfl (Or.inl rfl))))
    (vb_one (vs_ret (ve_var (i := 3) rfl (Or.inl rfl)))))) vb_nil)
    (vb_cons (vs_set (i := 4) sc__law_draw.nd rfl (Or.inl rfl) (ve_op op_mod o2_mod (ve_callTy call_int1 on_int rfl (D.n3) (by decide +kernel) (va_cons (ve_op op_pow o2_pow (ve_op or_add o2_add (ve_op or_add o2_add (ve_ix (ve_var (i := 0) rfl (Or.inl rfl)) ve_int) (ve_op or_mul o2_mul ve_int (ve_ix (ve_var (i := 0) rfl (Or.inl rfl)) ve_int))) ve_int) ve_int) va_nil)) ve_int))
    (vb_one (vs_ret (ve_op op_mod o2_mod (ve_op op_mod o2_mod (ve_callTy call_int1 on_int rfl (D.n3) (by decide +kernel) (va_cons (ve_op op_pow o2_pow (ve_op or_add o2_add (ve_op or_add o2_add (ve_op or_mul o2_mul (ve_var (i := 4) rfl (Or.inl rfl)) ve_int) (ve_op or_mul o2_mul ve_int (ve_ix (ve_var (i := 0) rfl (Or.inl rfl)) ve_int))) ve_int) ve_int) va_nil)) ve_int) (ve_var (i := 1) rfl (Or.inl rfl)))))))))
theorem ok__law_draw {P : Program} {w : World} {K : PySem.W.Frag} {mg : Str → Option Value} {base : Heap} (D : Facts K mg) : Fn P w K mg base T CX0 1 (He.ga K "_law_draw") m__law_draw := by
  obtain ⟨fd, F⟩ := D.d__law_draw
  exact Fn.plain (fo__law_draw D F) (F.bindsN fun _ _ _ _ _ _ us hl => match us, hl with | [_, _], _ => rfl) F.kp
/-! _law_pick -/
theorem sc__law_pick : FnScope ["_law_stream", "_law_some"] ["_law_stream", "_law_some"] (defScope s__law_pick) := ⟨rfl, rfl, rfl, by decide +kernel, rfl, by decide +kernel, by decide +kernel⟩
def t__law_pick : TSv :=
  (sRet (eIx (eVar 1) (eCall m__law_draw (aCons (eVar 0) (aCons (eCB (g1 lenF) (aCons (eVar 1) aNil)) aNil)))))
def m__law_pick : FnM := fnM 2 2 t__law_pick
theorem fo__law_pick {P : Program} {w : World} {K : PySem.W.Frag} {mg : Str → Option Value} {base : Heap} (D : Facts K mg) {fd : FuncData} (F : FunD K "_law_pick" "_law_pick" (defArgs s__law_pick) (defBody s__law_pick) (defScope s__law_pick) [] [] (He.ga K "_law_pick") fd) : FnOk P w K mg base CX0 2 (He.ga K "_law_pick") fd ["_law_stream", "_law_some"] (spM K T m__law_pick) := fn_v0 F sc__law_pick fun cdv A outer s H E E' hr =>
    (vb_one (vs_ret (ve_ix (ve_var (i := 1) rfl (Or.inl rfl)) (ve_call (ok__law_draw D) (hr.mono (by first | decide | omega)) rfl (D.g3) passV (va_cons (ve_var (i := 0) rfl (Or.inl rfl)) (va_cons (ve_callB cr_len on_len rfl (D.n4) (by decide +kernel) (va_cons (ve_var (i := 1) rfl (Or.inl rfl)) va_nil)) va_nil))))))
theorem ok__law_pick {P : Program} {w : World} {K : PySem.W.Frag} {mg : Str → Option Value} {base : Heap} (D : Facts K mg) : Fn P w K mg base T CX0 2 (He.ga K "_law_pick") m__law_pick := by
  obtain ⟨fd, F⟩ := D.d__law_pick
  exact Fn.plain (fo__law_pick D F) (F.bindsN fun _ _ _ _ _ _ us hl => match us, hl with | [_, _], _ => rfl) F.kp
/-! _law_t_row -/
theorem sc__law_t_row : FnScope ["_law_stream", "_law_most", "_law_menu", "_law_k"] ["_law_stream", "_law_most"] (defScope s__law_t_row) := ⟨rfl, rfl, rfl, by decide +kernel, rfl, by decide +kernel, by decide +kernel⟩
def t__law_t_row : TSv :=
  (bCons (sSet 2 (eCall m__law_pick (aCons (eVar 0) (aCons (eLst (aCons (eC (.str [104, 72, 46, 65])) (aCons (eC (.str [104, 65])) (aCons (eC (.str [104, 104, 65])) (aCons (eC (.str [104, 72, 65])) (aCons (eC (.str [72, 65])) (aCons (eC (.str [104, 46, 65])) (aCons (eC (.str [104, 104, 104, 72, 46, 65])) (aCons (eC (.str [65, 46])) (aCons (eC (.str [104, 72])) (aCons (eC (.str [104, 65, 65])) (aCons (eC (.str [72, 72, 65, 65])) aNil)))))))))))) aNil))))
    (sRet (eBM "str" joinF (eC (.str [])) (aCons (eFrz (eLc (iRange1 (aCons (eCall m__law_draw (aCons (eVar 0) (aCons (eOp2 addF (eVar 1) (eC (.int 1))) aNil))) aNil)) (gNm 3) tYesV (eCall m__law_pick (aCons (eVar 0) (aCons (eVar 2) aNil))) [3])) aNil))))
def m__law_t_row : FnM := fnM 2 4 t__law_t_row
theorem fo__law_t_row {P : Program} {w : World} {K : PySem.W.Frag} {mg : Str → Option Value} {base : Heap} (D : Facts K mg) {fd : FuncData} (F : FunD K "_law_t_row" "_law_t_row" (defArgs s__law_t_row) (defBody s__law_t_row) (defScope s__law_t_row) [] [] (He.ga K "_law_t_row") fd) : FnOk P w K mg base CX0 3 (He.ga K "_law_t_row") fd ["_law_stream", "_law_most"] (spM K T m__law_t_row) := fn_v0 F sc__law_t_row fun cdv A outer s H E E' hr =>
    (vb_cons (vs_set (i := 2) sc__law_t_row.nd rfl (Or.inr rfl) (ve_call (ok__law_pick D) (hr.mono (by first | decide | omega)) rfl (D.g4) passV (va_cons (ve_var (i := 0) rfl (Or.inr (Or.inl rfl))) (va_cons (ve_lst (va_cons (ve_str (by decide +kernel)) (va_cons (ve_str (by decide +kernel)) (va_cons (ve_str (by decide +kernel)) (va_cons (ve_str (by decide +kernel)) (va_cons (ve_str (by decide +kernel)) (va_cons (ve_str (by decide +kernel)) (va_cons (ve_str (by decide +kernel)) (va_cons (ve_str (by decide +kernel)) (va_cons (ve_str (by decide +kernel)) (va_cons (ve_str (by decide +kernel)) (va_cons (ve_str (by decide +kernel)) va_nil)))))))))))) va_nil))))
    (vb_one (vs_ret (ve_join (ve_str (by decide +kernel)) (ve_frz (ve_lc (own := [("_law_k", 3)]) rfl sc__law_t_row.nd (vi_range1 rfl (D.n1) (va_cons (ve_call (ok__law_draw D) (hr.mono (by first | decide | omega)) rfl (D.g3) passV (va_cons (ve_var (i := 0) rfl (Or.inr (Or.inl rfl))) (va_cons (ve_op or_add o2_add (ve_var (i := 1) rfl (Or.inl rfl)) ve_int) va_nil))) va_nil)) (blkOk_by (by kernel_rfl)) (by decide) (fun _ _ _ _ _ => (vgw_name (i := 3) sc__law_t_row.nd rfl (Or.inl rfl))) (fun _ _ _ _ _ => vts_nil) (fun _ _ _ _ _ => (ve_call (ok__law_pick D) (hr.mono (by first | decide | omega)) rfl (D.g4) passV (va_cons (ve_var (i := 0) rfl (Or.inr (Or.inl rfl))) (va_cons (ve_var (i := 2) rfl (Or.inr (Or.inl rfl))) va_nil))))))))))
theorem ok__law_t_row {P : Program} {w : World} {K : PySem.W.Frag} {mg : Str → Option Value} {base : Heap} (D : Facts K mg) : Fn P w K mg base T CX0 3 (He.ga K "_law_t_row") m__law_t_row := by
  obtain ⟨fd, F⟩ := D.d__law_t_row
  exact Fn.plain (fo__law_t_row D F) (F.bindsN fun _ _ _ _ _ _ us hl => match us, hl with | [_, _], _ => rfl) F.kp
/-! check_kinds -/
theorem sc_check_kinds : FnScope ["kinds", "index", "kind"] ["kinds"] (defScope s_check_kinds) := ⟨rfl, rfl, rfl, by decide +kernel, rfl, by decide +kernel, by decide +kernel⟩
def t_check_kinds : TSv :=
  (bCons (sIf (tNotV (tVal (eIsi [.str] (eVar 0)))) sNever bNil)
    (sFor (iEnum (aCons (eVar 0) aNil)) (gTp (gsCons (gNm 1) (gsCons (gNm 2) gsNil))) (sIf (tVal (eOp2 ninF (eVar 2) (eC (.str [104, 72, 46, 65])))) sNever bNil)))
def m_check_kinds : FnM := fnM 1 3 t_check_kinds
theorem fo_check_kinds {P : Program} {w : World} {K : PySem.W.Frag} {mg : Str → Option Value} {base : Heap} (D : Facts K mg) {fd : FuncData} (F : FunD K "check_kinds" "check_kinds" (defArgs s_check_kinds) (defBody s_check_kinds) (defScope s_check_kinds) [] [] (He.ga K "check_kinds") fd) : FnOk P w K mg base CX0 1 (He.ga K "check_kinds") fd ["kinds"] (spM K T m_check_kinds) := fn_v0 F sc_check_kinds fun cdv A outer s H E E' hr =>
    (vb_cons (vs_if (vt_not (vt_val (ve_isi D.tab D.isi rfl (D.n5) (ve_var (i := 0) rfl (Or.inl rfl)) (tg_ty rfl (D.n6) (by decide +kernel))))) (vb_one vs_never) vb_nil)
    (vb_one (vs_for PassesOwn.never rfl (vi_enum rfl (D.n7) (va_cons (ve_var (i := 0) rfl (Or.inl rfl)) va_nil)) (vg_tup rfl (vgs_cons (vg_name (i := 1) sc_check_kinds.nd rfl (Or.inl rfl)) (vgs_cons (vg_name (i := 2) sc_check_kinds.nd rfl (Or.inl rfl)) vgs_nil)) (gsCons_len (gsCons_len (fun _ _ _ h => gsNil_len h)))) (vb_one (vs_if (vt_cmp (or_nin (hu65 hr)) o2_nin (ve_var (i := 2) rfl (Or.inl rfl)) (g_str (D.cs0) rfl (by decide +kernel)) (by with_unfolding_all rfl)) (vb_one vs_never) vb_nil)))))
theorem ok_check_kinds {P : Program} {w : World} {K : PySem.W.Frag} {mg : Str → Option Value} {base : Heap} (D : Facts K mg) : Fn P w K mg base T CX0 1 (He.ga K "check_kinds") m_check_kinds := by
  obtain ⟨fd, F⟩ := D.d_check_kinds
  exact Fn.plain (fo_check_kinds D F) (F.bindsN fun _ _ _ _ _ _ us hl => match us, hl with | [_], _ => rfl) F.kp
/-! Row.__init__ -/
theorem sc_Row___init__ : FnScope ["self", "text"] ["self", "text"] (defScope s_Row___init__) := ⟨rfl, rfl, rfl, by decide +kernel, rfl, by decide +kernel, by decide +kernel⟩
def t_Row___init__ : TSv :=
  (sIf (tVal (eIsi [(.own 0)] (eVar 1))) (sAttr T 1 (eVar 0) (eAttr 0 (eVar 1))) (bCons (sExpr (eCall m_check_kinds (aCons (eVar 1) aNil)))
    (sAttr T 1 (eVar 0) (eIf (tVal (eOp2 neF (eVar 1) (eC (.str [])))) (eLst (aCons (eTup (aCons (eVar 1) (aCons (eC (.int 1)) aNil))) aNil)) (eLst aNil)))))
def m_Row___init__ : FnM := fnM 2 2 t_Row___init__
theorem fo_Row___init__ {P : Program} {w : World} {K : PySem.W.Frag} {mg : Str → Option Value} {base : Heap} (D : Facts K mg) {fd : FuncData} (F : FunD K "__init__" "Row.__init__" (defArgs s_Row___init__) (defBody s_Row___init__) (defScope s_Row___init__) [(.str "")] [] (He.ma K (He.ga K "Row") "__init__") fd) : FnOk P w K mg base CX0 2 (He.ma K (He.ga K "Row") "__init__") fd ["self", "text"] (spM K T m_Row___init__) := fn_v0 F sc_Row___init__ fun cdv A outer s H E E' hr =>
    (vb_one (vs_if (vt_val (ve_isi D.tab D.isi rfl (D.n5) (ve_var (i := 1) rfl (Or.inl rfl)) (tg_own (c := 0) rfl rfl (D.g7)))) (vb_one (vs_attr (i := 1) D.tab (by decide +kernel) (ve_var (i := 0) rfl (Or.inl rfl)) (ve_attr (i := 0) D.tab (ve_var (i := 1) rfl (Or.inl rfl)) (by decide +kernel)))) (vb_cons (vs_expr (ve_call (ok_check_kinds D) (hr.mono (by first | decide | omega)) rfl (D.g8) passV (va_cons (ve_var (i := 1) rfl (Or.inl rfl)) va_nil)))
    (vb_one (vs_attr (i := 1) D.tab (by decide +kernel) (ve_var (i := 0) rfl (Or.inl rfl)) (ve_if (vt_cmp (or_ne (hu64 hr)) o2_ne (ve_var (i := 1) rfl (Or.inl rfl)) (ve_str (by decide +kernel)) (nomark _)) (ve_lst (va_cons (ve_tup (va_cons (ve_var (i := 1) rfl (Or.inl rfl)) (va_cons ve_int va_nil))) va_nil)) (ve_lst va_nil)))))))
theorem ok_Row___init__ {P : Program} {w : World} {K : PySem.W.Frag} {mg : Str → Option Value} {base : Heap} (D : Facts K mg) : Fn P w K mg base T CX0 2 (He.ma K (He.ga K "Row") "__init__") m_Row___init__ := by
  obtain ⟨fd, F⟩ := D.d_Row___init__
  obtain ⟨ds, hv, hb⟩ := F.binds1 (ps := ["self", "text"]) 2 1 (by simp) rfl (fun _ _ _ _ _ _ _ us its hu hi => match us, hu, its, hi with | [_, _], _, [_], _ => ⟨_, rfl, rfl⟩)
  exact Fn.full (fo_Row___init__ D F) hb hv F.kp
/-! row_of -/
theorem sc_row_of : FnScope ["thing"] ["thing"] (defScope s_row_of) := ⟨rfl, rfl, rfl, by decide +kernel, rfl, by decide +kernel, by decide +kernel⟩
def t_row_of : TSv :=
  (sRet (eIf (tVal (eIsi [(.own 1)] (eVar 0))) (eVar 0) (eCall (mkF 1 m_Row___init__) (aCons (eVar 0) aNil))))
def m_row_of : FnM := fnM 1 1 t_row_of
theorem fo_row_of {P : Program} {w : World} {K : PySem.W.Frag} {mg : Str → Option Value} {base : Heap} (D : Facts K mg) {fd : FuncData} (F : FunD K "row_of" "row_of" (defArgs s_row_of) (defBody s_row_of) (defScope s_row_of) [] [] (He.ga K "row_of") fd) : FnOk P w K mg base CX0 4 (He.ga K "row_of") fd ["thing"] (spM K T m_row_of) := fn_v0 F sc_row_of fun cdv A outer s H E E' hr =>
    (vb_one (vs_ret (ve_if (vt_val (ve_isi D.tab D.isi rfl (D.n5) (ve_var (i := 0) rfl (Or.inl rfl)) (tg_own (c := 1) rfl rfl (D.g6)))) (ve_var (i := 0) rfl (Or.inl rfl)) (ve_mkF (c := 1) rfl (D.mk0) (ok_Row___init__ D) (hr.mono (by first | decide | omega)) rfl (D.g6) passV (va_cons (ve_var (i := 0) rfl (Or.inl rfl)) va_nil)))))
theorem ok_row_of {P : Program} {w : World} {K : PySem.W.Frag} {mg : Str → Option Value} {base : Heap} (D : Facts K mg) : Fn P w K mg base T CX0 4 (He.ga K "row_of") m_row_of := by
  obtain ⟨fd, F⟩ := D.d_row_of
  exact Fn.plain (fo_row_of D F) (F.bindsN fun _ _ _ _ _ _ us hl => match us, hl with | [_], _ => rfl) F.kp
/-! is_integer -/
theorem sc_is_integer : FnScope ["thing"] ["thing"] (defScope s_is_integer) := ⟨rfl, rfl, rfl, by decide +kernel, rfl, by decide +kernel, by decide +kernel⟩
def t_is_integer : TSv :=
  (sRet (eAnd (eIsi [.int] (eVar 0)) (eNot (eIsi [.bl] (eVar 0)))))
def m_is_integer : FnM := fnM 1 1 t_is_integer
theorem fo_is_integer {P : Program} {w : World} {K : PySem.W.Frag} {mg : Str → Option Value} {base : Heap} (D : Facts K mg) {fd : FuncData} (F : FunD K "is_integer" "is_integer" (defArgs s_is_integer) (defBody s_is_integer) (defScope s_is_integer) [] [] (He.ga K "is_integer") fd) : FnOk P w K mg base CX0 1 (He.ga K "is_integer") fd ["thing"] (spM K T m_is_integer) := fn_v0 F sc_is_integer fun cdv A outer s H E E' hr =>
    (vb_one (vs_ret (ve_and (ve_isi D.tab D.isi rfl (D.n5) (ve_var (i := 0) rfl (Or.inl rfl)) (tg_ty rfl (D.n3) (by decide +kernel))) (ve_one (ve_not (ve_isi D.tab D.isi rfl (D.n5) (ve_var (i := 0) rfl (Or.inl rfl)) (tg_ty rfl (D.n8) (by decide +kernel))))))))
theorem ok_is_integer {P : Program} {w : World} {K : PySem.W.Frag} {mg : Str → Option Value} {base : Heap} (D : Facts K mg) : Fn P w K mg base T CX0 1 (He.ga K "is_integer") m_is_integer := by
  obtain ⟨fd, F⟩ := D.d_is_integer
  exact Fn.plain (fo_is_integer D F) (F.bindsN fun _ _ _ _ _ _ us hl => match us, hl with | [_], _ => rfl) F.kp
/-! check_slot -/
theorem sc_check_slot : FnScope ["slot", "last"] ["slot", "last"] (defScope s_check_slot) := ⟨rfl, rfl, rfl, by decide +kernel, rfl, by decide +kernel, by decide +kernel⟩
def t_check_slot : TSv :=
  (sIf (tOrV (tNotV (tVal (eCall m_is_integer (aCons (eVar 0) aNil)))) (tNotV (tVal (eChain leF leF (eC (.int 1)) (eVar 0) (eVar 1))))) sNever bNil)
def m_check_slot : FnM := fnM 2 2 t_check_slot
theorem fo_check_slot {P : Program} {w : World} {K : PySem.W.Frag} {mg : Str → Option Value} {base : Heap} (D : Facts K mg) {fd : FuncData} (F : FunD K "check_slot" "check_slot" (defArgs s_check_slot) (defBody s_check_slot) (defScope s_check_slot) [] [] (He.ga K "check_slot") fd) : FnOk P w K mg base CX0 2 (He.ga K "check_slot") fd ["slot", "last"] (spM K T m_check_slot) := fn_v0 F sc_check_slot fun cdv A outer s H E E' hr =>
    (vb_one (vs_if (VW.vt (vw_or (vt_not (vt_val (ve_call (ok_is_integer D) (hr.mono (by first | decide | omega)) rfl (D.g10) passV (va_cons (ve_var (i := 0) rfl (Or.inl rfl)) va_nil)))) (vw_or1 (vt_not (vt_chain op_le (o2_cmp (p := fun i j => decide (i ≤ j))) op_le (o2_cmp (p := fun i j => decide (i ≤ j))) ve_int (ve_var (i := 0) rfl (Or.inl rfl)) (ve_var (i := 1) rfl (Or.inl rfl))))))) (vb_one vs_never) vb_nil))
theorem ok_check_slot {P : Program} {w : World} {K : PySem.W.Frag} {mg : Str → Option Value} {base : Heap} (D : Facts K mg) : Fn P w K mg base T CX0 2 (He.ga K "check_slot") m_check_slot := by
  obtain ⟨fd, F⟩ := D.d_check_slot
  exact Fn.plain (fo_check_slot D F) (F.bindsN fun _ _ _ _ _ _ us hl => match us, hl with | [_, _], _ => rfl) F.kp
/-! Row.__len__ -/
theorem sc_Row___len__ : FnScope ["self", "word", "times"] ["self"] (defScope s_Row___len__) := ⟨rfl, rfl, rfl, by decide +kernel, rfl, by decide +kernel, by decide +kernel⟩
def t_Row___len__ : TSv :=
  (sRet (eOp1 lenRgF (eCB (g1 sumF) (aCons (eFrz (eLc (iAny (eAttr 1 (eVar 0))) (gTp (gsCons (gNm 1) (gsCons (gNm 2) gsNil))) tYesV (eOp2 mulF (eCB (g1 lenF) (aCons (eVar 1) aNil)) (eVar 2)) [1, 2])) aNil))))
def m_Row___len__ : FnM := fnM 1 3 t_Row___len__
theorem fo_Row___len__ {P : Program} {w : World} {K : PySem.W.Frag} {mg : Str → Option Value} {base : Heap} (D : Facts K mg) {fd : FuncData} (F : FunD K "__len__" "Row.__len__" (defArgs s_Row___len__) (defBody s_Row___len__) (defScope s_Row___len__) [] [] (He.ma K (He.ga K "Row") "__len__") fd) : FnOk P w K mg base CX0 1 (He.ma K (He.ga K "Row") "__len__") fd ["self"] (spM K T m_Row___len__) := fn_v0 F sc_Row___len__ fun cdv A outer s H E E' hr =>
    (vb_one (vs_ret (ve_lenRange rfl (D.n4) rfl (D.n1) (ve_callB (cr_sum rfl) on_sum rfl (D.n9) (by decide +kernel) (va_cons (ve_frz (ve_lc (own := [("word", 1), ("times", 2)]) rfl sc_Row___len__.nd (vi_any (ve_attr (i := 1) D.tab (ve_var (i := 0) rfl (Or.inl rfl)) (by decide +kernel))) (blkOk_by (by kernel_rfl)) (by decide) (fun _ _ _ _ _ => (vgw_tup rfl (vgsw_cons (vgw_name (i := 1) sc_Row___len__.nd rfl (Or.inl rfl)) (vgsw_cons (vgw_name (i := 2) sc_Row___len__.nd rfl (Or.inl rfl)) vgsw_nil)) (gsCons_len (gsCons_len (fun _ _ _ h => gsNil_len h))))) (fun _ _ _ _ _ => vts_nil) (fun _ _ _ _ _ => (ve_op or_mul o2_mul (ve_callB cr_len on_len rfl (D.n4) (by decide +kernel) (va_cons (ve_var (i := 1) rfl (Or.inl rfl)) va_nil)) (ve_var (i := 2) rfl (Or.inl rfl)))))) va_nil)))))
theorem ok_Row___len__ {P : Program} {w : World} {K : PySem.W.Frag} {mg : Str → Option Value} {base : Heap} (D : Facts K mg) : Fn P w K mg base T CX0 1 (He.ma K (He.ga K "Row") "__len__") m_Row___len__ := by
  obtain ⟨fd, F⟩ := D.d_Row___len__
  exact Fn.plain (fo_Row___len__ D F) (F.bindsN fun _ _ _ _ _ _ us hl => match us, hl with | [_], _ => rfl) F.kp
/-! stepped -/
theorem sc_stepped : FnScope ["state", "kind", "reached", "left", "stays"] ["state", "kind"] (defScope s_stepped) := ⟨rfl, rfl, rfl, by decide +kernel, rfl, by decide +kernel, by decide +kernel⟩
def t_stepped : TSv :=
  (bCons (sAsg (eVar 0) (gTp (gsCons (gNm 2) (gsCons (gNm 3) gsNil))))
    (bCons (sIf (tVal (eOp2 eqF (eVar 1) (eC (.str [65])))) (sRet (eTup (aCons (eOp2 addF (eVar 2) (eC (.int 1))) (aCons (eOp2 addF (eVar 3) (eC (.int 1))) aNil)))) bNil)
    (bCons (sIf (tVal (eOp2 eqF (eVar 1) (eC (.str [46])))) (sRet (eVar 0)) bNil)
    (bCons (sSet 4 (eAnd (eOp2 eqF (eVar 3) (eC (.int 0))) (eOr (eOp2 gtF (eVar 2) (eC (.int 0))) (eOp2 eqF (eVar 1) (eC (.str [72]))))))
    (sRet (eTup (aCons (eCB (g2 max2F) (aCons (eOp2 subF (eVar 2) (eC (.int 1))) (aCons (eC (.int 0)) aNil))) (aCons (eIf (tVal (eVar 4)) (eVar 3) (eOp2 subF (eVar 3) (eC (.int 1)))) aNil))))))))
def m_stepped : FnM := fnM 2 5 t_stepped
theorem fo_stepped {P : Program} {w : World} {K : PySem.W.Frag} {mg : Str → Option Value} {base : Heap} (D : Facts K mg) {fd : FuncData} (F : FunD K "stepped" "stepped" (defArgs s_stepped) (defBody s_stepped) (defScope s_stepped) [] [] (He.ga K "stepped") fd) : FnOk P w K mg base CX0 1 (He.ga K "stepped") fd ["state", "kind"] (spM K T m_stepped) := fn_v0 F sc_stepped fun cdv A outer s H E E' hr =>
    (vb_cons (vs_asg (ve_var (i := 0) rfl (Or.inl rfl)) (vg_tup rfl (vgs_cons (vg_name (i := 2) sc_stepped.nd rfl (Or.inl rfl)) (vgs_cons (vg_name (i := 3) sc_stepped.nd rfl (Or.inl rfl)) vgs_nil)) (gsCons_len (gsCons_len (fun _ _ _ h => gsNil_len h)))))
    (vb_cons (vs_if (vt_cmp (or_eq (hu64 hr)) o2_eq (ve_var (i := 1) rfl (Or.inl rfl)) (ve_str (by decide +kernel)) (nomark _)) (vb_one (vs_ret (ve_tup (va_cons (ve_op or_add o2_add (ve_var (i := 2) rfl (Or.inl rfl)) ve_int) (va_cons (ve_op or_add o2_add (ve_var (i := 3) rfl (Or.inl rfl)) ve_int) va_nil))))) vb_nil)
    (vb_cons (vs_if (vt_cmp (or_eq (hu64 hr)) o2_eq (ve_var (i := 1) rfl (Or.inl rfl)) (ve_str (by decide +kernel)) (nomark _)) (vb_one (vs_ret (ve_var (i := 0) rfl (Or.inl rfl)))) vb_nil)
    (vb_cons (vs_set (i := 4) sc_stepped.nd rfl (Or.inl rfl) (ve_and (ve_cmp (or_eq (hu64 hr)) o2_eq (ve_var (i := 3) rfl (Or.inl rfl)) ve_int (nomark _)) (ve_one (ve_or (ve_cmp op_gt (o2_cmp (p := fun i j => decide (j < i))) (ve_var (i := 2) rfl (Or.inl rfl)) ve_int (nomark _)) (ve_one (ve_cmp (or_eq (hu64 hr)) o2_eq (ve_var (i := 1) rfl (Or.inl rfl)) (ve_str (by decide +kernel)) (nomark _)))))))
    (vb_one (vs_ret (ve_tup (va_cons (ve_callB (call_max2 rfl) on_max2 rfl (D.n2) (by decide +kernel) (va_cons (ve_op op_sub o2_sub (ve_var (i := 2) rfl (Or.inl rfl)) ve_int) (va_cons ve_int va_nil))) (va_cons (ve_if (vt_val (ve_var (i := 4) rfl (Or.inl rfl))) (ve_var (i := 3) rfl (Or.inl rfl)) (ve_op op_sub o2_sub (ve_var (i := 3) rfl (Or.inl rfl)) ve_int)) va_nil)))))))))
theorem ok_stepped {P : Program} {w : World} {K : PySem.W.Frag} {mg : Str → Option Value} {base : Heap} (D : Facts K mg) : Fn P w K mg base T CX0 1 (He.ga K "stepped") m_stepped := by
  obtain ⟨fd, F⟩ := D.d_stepped
  exact Fn.plain (fo_stepped D F) (F.bindsN fun _ _ _ _ _ _ us hl => match us, hl with | [_, _], _ => rfl) F.kp
/-! states_of -/
theorem sc_states_of : FnScope ["word", "state", "found", "kind"] ["word", "state"] (defScope s_states_of) := ⟨rfl, rfl, rfl, by decide +kernel, rfl, by decide +kernel, by decide +kernel⟩
def t_states_of : TSv :=
  (bCons (sSet 2 (eLstM (aCons (eVar 1) aNil)))
    (bCons (sFor (iAny (eVar 0)) (gNm 3) (sExpr (eMut false cAppend (eVar 2) (aCons (eCall m_stepped (aCons (eIx (eVar 2) (eOp1 negF (eC (.int 1)))) (aCons (eVar 3) aNil))) aNil))))
    (sRet (eFrzC (eVar 2)))))
def m_states_of : FnM := fnM 2 4 t_states_of
theorem fo_states_of {P : Program} {w : World} {K : PySem.W.Frag} {mg : Str → Option Value} {base : Heap} (D : Facts K mg) {fd : FuncData} (F : FunD K "states_of" "states_of" (defArgs s_states_of) (defBody s_states_of) (defScope s_states_of) [] [] (He.ga K "states_of") fd) : FnOk P w K mg base CX0 2 (He.ga K "states_of") fd ["word", "state"] (spM K T m_states_of) := fn_v0 F sc_states_of fun cdv A outer s H E E' hr =>
    (vb_cons (vs_set (i := 2) sc_states_of.nd rfl (Or.inl rfl) (ve_lstM (va_cons (ve_var (i := 1) rfl (Or.inl rfl)) va_nil)))
    (vb_cons (vs_for PassesOwn.never rfl (vi_any (ve_var (i := 0) rfl (Or.inl rfl))) (vg_name (i := 3) sc_states_of.nd rfl (Or.inl rfl)) (vb_one (vs_expr (ve_append (ve_var (i := 2) rfl (Or.inl rfl)) (ve_call (ok_stepped D) (hr.mono (by first | decide | omega)) rfl (D.g12) passV (va_cons (ve_ix (ve_var (i := 2) rfl (Or.inl rfl)) (ve_un un_neg o1_neg ve_int)) (va_cons (ve_var (i := 3) rfl (Or.inl rfl)) va_nil)))))))
    (vb_one (vs_ret (ve_frzC (ve_var (i := 2) rfl (Or.inl rfl)))))))
theorem ok_states_of {P : Program} {w : World} {K : PySem.W.Frag} {mg : Str → Option Value} {base : Heap} (D : Facts K mg) : Fn P w K mg base T CX0 2 (He.ga K "states_of") m_states_of := by
  obtain ⟨fd, F⟩ := D.d_states_of
  exact Fn.plain (fo_states_of D F) (F.bindsN fun _ _ _ _ _ _ us hl => match us, hl with | [_, _], _ => rfl) F.kp
/-! rounds_alike -/
theorem sc_rounds_alike : FnScope ["word", "states", "most", "met", "up", "more", "low", "least", "greatest", "state", "kind"] ["word", "states", "most"] (defScope s_rounds_alike) := ⟨rfl, rfl, rfl, by decide +kernel, rfl, by decide +kernel, by decide +kernel⟩
def t_rounds_alike : TSv :=
  (bCons (sSet 3 (eFrz (eLc (iZip (aCons (eVar 1) (aCons (eVar 0) aNil))) (gTp (gsCons (gNm 9) (gsCons (gNm 10) gsNil))) (tVal (eOp2 inF (eVar 10) (eC (.str [104, 72])))) (eVar 9) [9, 10])))
    (bCons (sIf (tVal (eOp2 eqF (eVar 3) (eLst aNil))) (sRet (eVar 2)) bNil)
    (bCons (sPar2 4 5 (aCons (eOp2 subF (eIx (eIx (eVar 1) (eOp1 negF (eC (.int 1)))) (eC (.int 0))) (eIx (eIx (eVar 1) (eC (.int 0))) (eC (.int 0)))) (aCons (eOp2 subF (eIx (eIx (eVar 1) (eOp1 negF (eC (.int 1)))) (eC (.int 1))) (eIx (eIx (eVar 1) (eC (.int 0))) (eC (.int 1)))) aNil)))
    (bCons (sSet 6 (eCB (g1 minF) (aCons (eFrz (eLc (iAny (eVar 3)) (gNm 9) tYesV (eIx (eVar 9) (eC (.int 0))) [9])) aNil)))
    (bCons (sPar2 7 8 (aCons (eCB (g1 minF) (aCons (eFrz (eLc (iAny (eVar 3)) (gNm 9) tYesV (eIx (eVar 9) (eC (.int 1))) [9])) aNil)) (aCons (eCB (g1 maxF) (aCons (eFrz (eLc (iAny (eVar 3)) (gNm 9) tYesV (eIx (eVar 9) (eC (.int 1))) [9])) aNil)) aNil)))
    (bCons (sIf (tOrV (tAndV (tVal (eOp2 neF (eVar 4) (eC (.int 0)))) (tVal (eOp2 eqF (eVar 6) (eC (.int 0))))) (tAndV (tVal (eOp2 neF (eVar 5) (eC (.int 0)))) (tVal (eChain leF leF (eVar 7) (eC (.int 0)) (eVar 8))))) (sRet (eC (.int 0))) bNil)
    (bCons (sIf (tVal (eOp2 ltF (eVar 4) (eC (.int 0)))) (sSet 2 (eCB (g2 min2F) (aCons (eVar 2) (aCons (eOp2 fdivF (eOp2 subF (eVar 6) (eC (.int 1))) (eOp2 subF (eC (.int 0)) (eVar 4))) aNil)))) bNil)
    (bCons (sIf (tAndV (tVal (eOp2 ltF (eVar 5) (eC (.int 0)))) (tVal (eOp2 gtF (eVar 7) (eC (.int 0))))) (sSet 2 (eCB (g2 min2F) (aCons (eVar 2) (aCons (eOp2 fdivF (eOp2 subF (eVar 7) (eC (.int 1))) (eOp2 subF (eC (.int 0)) (eVar 5))) aNil)))) bNil)
    (bCons (sIf (tAndV (tVal (eOp2 gtF (eVar 5) (eC (.int 0)))) (tVal (eOp2 ltF (eVar 8) (eC (.int 0))))) (sSet 2 (eCB (g2 min2F) (aCons (eVar 2) (aCons (eOp2 fdivF (eOp2 subF (eOp2 subF (eC (.int 0)) (eC (.int 1))) (eVar 8)) (eVar 5)) aNil)))) bNil)
    (sRet (eVar 2)))))))))))
def m_rounds_alike : FnM := fnM 3 11 t_rounds_alike
theorem fo_rounds_alike {P : Program} {w : World} {K : PySem.W.Frag} {mg : Str → Option Value} {base : Heap} (D : Facts K mg) {fd : FuncData} (F : FunD K "rounds_alike" "rounds_alike" (defArgs s_rounds_alike) (defBody s_rounds_alike) (defScope s_rounds_alike) [] [] (He.ga K "rounds_alike") fd) : FnOk P w K mg base CX0 1 (He.ga K "rounds_alike") fd ["word", "states", "most"] (spM K T m_rounds_alike) := fn_v0 F sc_rounds_alike fun cdv A outer s H E E' hr =>
    (vb_cons (vs_setLcF (own := [("state", 9), ("kind", 10)]) (i := 3) rfl sc_rounds_alike.nd rfl rfl (sw_true rfl rfl rfl (by decide +kernel)) (vi_zip rfl (D.n10) (va_cons (ve_var (i := 1) rfl (Or.inl rfl)) (va_cons (ve_var (i := 0) rfl (Or.inl rfl)) va_nil))) (blkOk_by (by kernel_rfl)) (by decide) (fun _ _ _ _ _ => (vgw_tup rfl (vgsw_cons (vgw_name (i := 9) sc_rounds_alike.nd rfl (Or.inl rfl)) (vgsw_cons (vgw_name (i := 10) sc_rounds_alike.nd rfl (Or.inl rfl)) vgsw_nil)) (gsCons_len (gsCons_len (fun _ _ _ h => gsNil_len h))))) (fun _ _ _ _ _ => (vts_one (vt_cmp (or_in (hu65 hr)) o2_in (ve_var (i := 10) rfl (Or.inl rfl)) (g_str (D.cs1) rfl (by decide +kernel)) (by with_unfolding_all rfl)))) (fun _ _ _ _ _ => (ve_var (i := 9) rfl (Or.inl rfl))))
    (vb_cons (vs_if (vt_cmp (or_eq (hu64 hr)) o2_eq (ve_var (i := 3) rfl (Or.inl rfl)) (ve_lst va_nil) (nomark _)) (vb_one (vs_ret (ve_var (i := 2) rfl (Or.inl rfl)))) vb_nil)
    (vb_cons (vs_par2 (i := 4) (j := 5) rfl sc_rounds_alike.nd rfl rfl (by decide) rfl rfl (va_cons (ve_op op_sub o2_sub (ve_ix (ve_ix (ve_var (i := 1) rfl (Or.inl rfl)) (ve_un un_neg o1_neg ve_int)) ve_int) (ve_ix (ve_ix (ve_var (i := 1) rfl (Or.inl rfl)) ve_int) ve_int)) (va_cons (ve_op op_sub o2_sub (ve_ix (ve_ix (ve_var (i := 1) rfl (Or.inl rfl)) (ve_un un_neg o1_neg ve_int)) ve_int) (ve_ix (ve_ix (ve_var (i := 1) rfl (Or.inl rfl)) ve_int) ve_int)) va_nil)) (by kernel_rfl))
    (vb_cons (vs_set (i := 6) sc_rounds_alike.nd rfl (Or.inl rfl) (ve_callB (cr_min rfl) on_min rfl (D.n11) (by decide +kernel) (va_cons (ve_frz (ve_lc (own := [("state", 9)]) rfl sc_rounds_alike.nd (vi_any (ve_var (i := 3) rfl (Or.inl rfl))) (blkOk_by (by kernel_rfl)) (by decide) (fun _ _ _ _ _ => (vgw_name (i := 9) sc_rounds_alike.nd rfl (Or.inl rfl))) (fun _ _ _ _ _ => vts_nil) (fun _ _ _ _ _ => (ve_ix (ve_var (i := 9) rfl (Or.inl rfl)) ve_int)))) va_nil)))
    (vb_cons (vs_par2 (i := 7) (j := 8) rfl sc_rounds_alike.nd rfl rfl (by decide) rfl rfl (va_cons (ve_callB (cr_min rfl) on_min rfl (D.n11) (by decide +kernel) (va_cons (ve_frz (ve_lc (own := [("state", 9)]) rfl sc_rounds_alike.nd (vi_any (ve_var (i := 3) rfl (Or.inl rfl))) (blkOk_by (by kernel_rfl)) (by decide) (fun _ _ _ _ _ => (vgw_name (i := 9) sc_rounds_alike.nd rfl (Or.inl rfl))) (fun _ _ _ _ _ => vts_nil) (fun _ _ _ _ _ => (ve_ix (ve_var (i := 9) rfl (Or.inl rfl)) ve_int)))) va_nil)) (va_cons (ve_callB (cr_max rfl) on_max rfl (D.n2) (by decide +kernel) (va_cons (ve_frz (ve_lc (own := [("state", 9)]) rfl sc_rounds_alike.nd (vi_any (ve_var (i := 3) rfl (Or.inl rfl))) (blkOk_by (by kernel_rfl)) (by decide) (fun _ _ _ _ _ => (vgw_name (i := 9) sc_rounds_alike.nd rfl (Or.inl rfl))) (fun _ _ _ _ _ => vts_nil) (fun _ _ _ _ _ => (ve_ix (ve_var (i := 9) rfl (Or.inl rfl)) ve_int)))) va_nil)) va_nil)) (by kernel_rfl))
    (vb_cons (vs_if (VW.vt (vw_or (VW.vt (vw_and (vt_cmp (or_ne (hu64 hr)) o2_ne (ve_var (i := 4) rfl (Or.inl rfl)) ve_int (nomark _)) (vw_and1 (vt_cmp (or_eq (hu64 hr)) o2_eq (ve_var (i := 6) rfl (Or.inl rfl)) ve_int (nomark _))))) (vw_or1 (VW.vt (vw_and (vt_cmp (or_ne (hu64 hr)) o2_ne (ve_var (i := 5) rfl (Or.inl rfl)) ve_int (nomark _)) (vw_and1 (vt_chain op_le (o2_cmp (p := fun i j => decide (i ≤ j))) op_le (o2_cmp (p := fun i j => decide (i ≤ j))) (ve_var (i := 7) rfl (Or.inl rfl)) ve_int (ve_var (i := 8) rfl (Or.inl rfl))))))))) (vb_one (vs_ret ve_int)) vb_nil)
    (vb_cons (vs_if (vt_cmp op_lt (o2_cmp (p := fun i j => decide (i < j))) (ve_var (i := 4) rfl (Or.inl rfl)) ve_int (nomark _)) (vb_one (vs_set (i := 2) sc_rounds_alike.nd rfl (Or.inl rfl) (ve_callB (call_min2 rfl) on_min2 rfl (D.n11) (by decide +kernel) (va_cons (ve_var (i := 2) rfl (Or.inl rfl)) (va_cons (ve_op op_fdivW o2_fdiv (ve_op op_sub o2_sub (ve_var (i := 6) rfl (Or.inl rfl)) ve_int) (ve_op op_sub o2_sub ve_int (ve_var (i := 4) rfl (Or.inl rfl)))) va_nil))))) vb_nil)
    (vb_cons (vs_if (VW.vt (vw_and (vt_cmp op_lt (o2_cmp (p := fun i j => decide (i < j))) (ve_var (i := 5) rfl (Or.inl rfl)) ve_int (nomark _)) (vw_and1 (vt_cmp op_gt (o2_cmp (p := fun i j => decide (j < i))) (ve_var (i := 7) rfl (Or.inl rfl)) ve_int (nomark _))))) (vb_one (vs_set (i := 2) sc_rounds_alike.nd rfl (Or.inl rfl) (ve_callB (call_min2 rfl) on_min2 rfl (D.n11) (by decide +kernel) (va_cons (ve_var (i := 2) rfl (Or.inl rfl)) (va_cons (ve_op op_fdivW o2_fdiv (ve_op op_sub o2_sub (ve_var (i := 7) rfl (Or.inl rfl)) ve_int) (ve_op op_sub o2_sub ve_int (ve_var (i := 5) rfl (Or.inl rfl)))) va_nil))))) vb_nil)
    (vb_cons (vs_if (VW.vt (vw_and (vt_cmp op_gt (o2_cmp (p := fun i j => decide (j < i))) (ve_var (i := 5) rfl (Or.inl rfl)) ve_int (nomark _)) (vw_and1 (vt_cmp op_lt (o2_cmp (p := fun i j => decide (i < j))) (ve_var (i := 8) rfl (Or.inl rfl)) ve_int (nomark _))))) (vb_one (vs_set (i := 2) sc_rounds_alike.nd rfl (Or.inl rfl) (ve_callB (call_min2 rfl) on_min2 rfl (D.n11) (by decide +kernel) (va_cons (ve_var (i := 2) rfl (Or.inl rfl)) (va_cons (ve_op op_fdivW o2_fdiv (ve_op op_sub o2_sub (ve_op op_sub o2_sub ve_int ve_int) (ve_var (i := 8) rfl (Or.inl rfl))) (ve_var (i := 5) rfl (Or.inl rfl))) va_nil))))) vb_nil)
    (vb_one (vs_ret (ve_var (i := 2) rfl (Or.inl rfl)))))))))))))
theorem ok_rounds_alike {P : Program} {w : World} {K : PySem.W.Frag} {mg : Str → Option Value} {base : Heap} (D : Facts K mg) : Fn P w K mg base T CX0 1 (He.ga K "rounds_alike") m_rounds_alike := by
  obtain ⟨fd, F⟩ := D.d_rounds_alike
  exact Fn.plain (fo_rounds_alike D F) (F.bindsN fun _ _ _ _ _ _ us hl => match us, hl with | [_, _, _], _ => rfl) F.kp
/-! powered -/
theorem sc_powered : FnScope ["word", "times", "state", "states", "many", "up", "more"] ["word", "times", "state"] (defScope s_powered) := ⟨rfl, rfl, rfl, by decide +kernel, rfl, by decide +kernel, by decide +kernel⟩
def t_powered : TSv :=
  (bCons (whileF (tVal (eOp2 gtF (eVar 1) (eC (.int 0)))) (bCons (sSet 3 (eCall m_states_of (aCons (eVar 0) (aCons (eVar 2) aNil))))
    (bCons (sSet 4 (eOp2 addF (eC (.int 1)) (eCall m_rounds_alike (aCons (eVar 0) (aCons (eVar 3) (aCons (eOp2 subF (eVar 1) (eC (.int 1))) aNil))))))
    (bCons (sPar2 5 6 (aCons (eOp2 subF (eIx (eIx (eVar 3) (eOp1 negF (eC (.int 1)))) (eC (.int 0))) (eIx (eVar 2) (eC (.int 0)))) (aCons (eOp2 subF (eIx (eIx (eVar 3) (eOp1 negF (eC (.int 1)))) (eC (.int 1))) (eIx (eVar 2) (eC (.int 1)))) aNil)))
    (bCons (sSet 2 (eTup (aCons (eOp2 addF (eIx (eVar 2) (eC (.int 0))) (eOp2 mulF (eVar 4) (eVar 5))) (aCons (eOp2 addF (eIx (eVar 2) (eC (.int 1))) (eOp2 mulF (eVar 4) (eVar 6))) aNil))))
    (sAug 1 subF (eVar 4)))))) fuel)
    (sRet (eVar 2)))
def m_powered : FnM := fnM 3 7 t_powered
theorem fo_powered {P : Program} {w : World} {K : PySem.W.Frag} {mg : Str → Option Value} {base : Heap} (D : Facts K mg) {fd : FuncData} (F : FunD K "powered" "powered" (defArgs s_powered) (defBody s_powered) (defScope s_powered) [] [] (He.ga K "powered") fd) : FnOk P w K mg base CX0 3 (He.ga K "powered") fd ["word", "times", "state"] (spM K T m_powered) := fn_v0 F sc_powered fun cdv A outer s H E E' hr =>
    (vb_cons (vs_while fuel PassesOwn.never (vt_cmp op_gt (o2_cmp (p := fun i j => decide (j < i))) (ve_var (i := 1) rfl (Or.inl rfl)) ve_int (nomark _)) (vb_cons (vs_set (i := 3) sc_powered.nd rfl (Or.inl rfl) (ve_call (ok_states_of D) (hr.mono (by first | decide | omega)) rfl (D.g13) passV (va_cons (ve_var (i := 0) rfl (Or.inl rfl)) (va_cons (ve_var (i := 2) rfl (Or.inl rfl)) va_nil))))
    (vb_cons (vs_set (i := 4) sc_powered.nd rfl (Or.inl rfl) (ve_op or_add o2_add ve_int (ve_call (ok_rounds_alike D) (hr.mono (by first | decide | omega)) rfl (D.g14) passV (va_cons (ve_var (i := 0) rfl (Or.inl rfl)) (va_cons (ve_var (i := 3) rfl (Or.inl rfl)) (va_cons (ve_op op_sub o2_sub (ve_var (i := 1) rfl (Or.inl rfl)) ve_int) va_nil))))))
    (vb_cons (vs_par2 (i := 5) (j := 6) rfl sc_powered.nd rfl rfl (by decide) rfl rfl (va_cons (ve_op op_sub o2_sub (ve_ix (ve_ix (ve_var (i := 3) rfl (Or.inl rfl)) (ve_un un_neg o1_neg ve_int)) ve_int) (ve_ix (ve_var (i := 2) rfl (Or.inl rfl)) ve_int)) (va_cons (ve_op op_sub o2_sub (ve_ix (ve_ix (ve_var (i := 3) rfl (Or.inl rfl)) (ve_un un_neg o1_neg ve_int)) ve_int) (ve_ix (ve_var (i := 2) rfl (Or.inl rfl)) ve_int)) va_nil)) (by kernel_rfl))
    (vb_cons (vs_set (i := 2) sc_powered.nd rfl (Or.inl rfl) (ve_tup (va_cons (ve_op or_add o2_add (ve_ix (ve_var (i := 2) rfl (Or.inl rfl)) ve_int) (ve_op or_mul o2_mul (ve_var (i := 4) rfl (Or.inl rfl)) (ve_var (i := 5) rfl (Or.inl rfl)))) (va_cons (ve_op or_add o2_add (ve_ix (ve_var (i := 2) rfl (Or.inl rfl)) ve_int) (ve_op or_mul o2_mul (ve_var (i := 4) rfl (Or.inl rfl)) (ve_var (i := 6) rfl (Or.inl rfl)))) va_nil))))
    (vb_one (vs_aug (i := 1) sc_powered.nd rfl (Or.inl rfl) iop_sub o2_sub (ve_var (i := 4) rfl (Or.inl rfl)))))))))
    (vb_one (vs_ret (ve_var (i := 2) rfl (Or.inl rfl)))))
theorem ok_powered {P : Program} {w : World} {K : PySem.W.Frag} {mg : Str → Option Value} {base : Heap} (D : Facts K mg) : Fn P w K mg base T CX0 3 (He.ga K "powered") m_powered := by
  obtain ⟨fd, F⟩ := D.d_powered
  exact Fn.plain (fo_powered D F) (F.bindsN fun _ _ _ _ _ _ us hl => match us, hl with | [_, _, _], _ => rfl) F.kp
/-! through -/
theorem sc_through : FnScope ["row", "state", "word", "times"] ["row", "state"] (defScope s_through) := ⟨rfl, rfl, rfl, by decide +kernel, rfl, by decide +kernel, by decide +kernel⟩
def t_through : TSv :=
  (bCons (sFor (iAny (eAttr 1 (eVar 0))) (gTp (gsCons (gNm 2) (gsCons (gNm 3) gsNil))) (sSet 1 (eCall m_powered (aCons (eVar 2) (aCons (eVar 3) (aCons (eVar 1) aNil))))))
    (sRet (eVar 1)))
def m_through : FnM := fnM 2 4 t_through
theorem fo_through {P : Program} {w : World} {K : PySem.W.Frag} {mg : Str → Option Value} {base : Heap} (D : Facts K mg) {fd : FuncData} (F : FunD K "through" "through" (defArgs s_through) (defBody s_through) (defScope s_through) [] [] (He.ga K "through") fd) : FnOk P w K mg base CX0 4 (He.ga K "through") fd ["row", "state"] (spM K T m_through) := fn_v0 F sc_through fun cdv A outer s H E E' hr =>
    (vb_cons (vs_for PassesOwn.never rfl (vi_any (ve_attr (i := 1) D.tab (ve_var (i := 0) rfl (Or.inl rfl)) (by decide +kernel))) (vg_tup rfl (vgs_cons (vg_name (i := 2) sc_through.nd rfl (Or.inl rfl)) (vgs_cons (vg_name (i := 3) sc_through.nd rfl (Or.inl rfl)) vgs_nil)) (gsCons_len (gsCons_len (fun _ _ _ h => gsNil_len h)))) (vb_one (vs_set (i := 1) sc_through.nd rfl (Or.inl rfl) (ve_call (ok_powered D) (hr.mono (by first | decide | omega)) rfl (D.g15) passV (va_cons (ve_var (i := 2) rfl (Or.inl rfl)) (va_cons (ve_var (i := 3) rfl (Or.inl rfl)) (va_cons (ve_var (i := 1) rfl (Or.inl rfl)) va_nil)))))))
    (vb_one (vs_ret (ve_var (i := 1) rfl (Or.inl rfl)))))
theorem ok_through {P : Program} {w : World} {K : PySem.W.Frag} {mg : Str → Option Value} {base : Heap} (D : Facts K mg) : Fn P w K mg base T CX0 4 (He.ga K "through") m_through := by
  obtain ⟨fd, F⟩ := D.d_through
  exact Fn.plain (fo_through D F) (F.bindsN fun _ _ _ _ _ _ us hl => match us, hl with | [_, _], _ => rfl) F.kp
/-! reach -/
theorem sc_reach : FnScope ["row"] ["row"] (defScope s_reach) := ⟨rfl, rfl, rfl, by decide +kernel, rfl, by decide +kernel, by decide +kernel⟩
def t_reach : TSv :=
  (sRet (eIx (eCall m_through (aCons (eCall m_row_of (aCons (eVar 0) aNil)) (aCons (eTup (aCons (eC (.int 0)) (aCons (eC (.int 0)) aNil))) aNil))) (eC (.int 0))))
def m_reach : FnM := fnM 1 1 t_reach
theorem fo_reach {P : Program} {w : World} {K : PySem.W.Frag} {mg : Str → Option Value} {base : Heap} (D : Facts K mg) {fd : FuncData} (F : FunD K "reach" "reach" (defArgs s_reach) (defBody s_reach) (defScope s_reach) [] [] (He.ga K "reach") fd) : FnOk P w K mg base CX0 5 (He.ga K "reach") fd ["row"] (spM K T m_reach) := fn_v0 F sc_reach fun cdv A outer s H E E' hr =>
    (vb_one (vs_ret (ve_ix (ve_call (ok_through D) (hr.mono (by first | decide | omega)) rfl (D.g16) passV (va_cons (ve_call (ok_row_of D) (hr.mono (by first | decide | omega)) rfl (D.g9) passV (va_cons (ve_var (i := 0) rfl (Or.inl rfl)) va_nil)) (va_cons (ve_tup (va_cons ve_int (va_cons ve_int va_nil))) va_nil))) ve_int)))
theorem ok_reach {P : Program} {w : World} {K : PySem.W.Frag} {mg : Str → Option Value} {base : Heap} (D : Facts K mg) : Fn P w K mg base T CX0 5 (He.ga K "reach") m_reach := by
  obtain ⟨fd, F⟩ := D.d_reach
  exact Fn.plain (fo_reach D F) (F.bindsN fun _ _ _ _ _ _ us hl => match us, hl with | [_], _ => rfl) F.kp
/-! cut_piece -/
theorem sc_cut_piece : FnScope ["word", "times", "begin", "end", "size", "head", "first", "left"] ["word", "times", "begin", "end"] (defScope s_cut_piece) := ⟨rfl, rfl, rfl, by decide +kernel, rfl, by decide +kernel, by decide +kernel⟩
def t_cut_piece : TSv :=
  (bCons (sPar2 4 5 (aCons (eCB (g1 lenF) (aCons (eVar 0) aNil)) (aCons (eOp2 modF (eVar 2) (eCB (g1 lenF) (aCons (eVar 0) aNil))) aNil)))
    (bCons (sIf (tVal (eOp2 leF (eOp2 subF (eVar 3) (eVar 2)) (eOp2 mulF (eC (.int 2)) (eVar 4)))) (sRet (eLst (aCons (eTup (aCons (eSl (eOp2 mulF (eVar 0) (eC (.int 4))) (oSome (eVar 5)) (oSome (eOp2 subF (eOp2 addF (eVar 5) (eVar 3)) (eVar 2)))) (aCons (eC (.int 1)) aNil))) aNil))) bNil)
    (bCons (sSet 6 (eIf (tVal (eOp2 gtF (eVar 5) (eC (.int 0)))) (eSl (eVar 0) (oSome (eVar 5)) oNone) (eC (.str []))))
    (bCons (sSet 7 (eOp2 subF (eOp2 subF (eVar 3) (eVar 2)) (eCB (g1 lenF) (aCons (eVar 6) aNil))))
    (sRet (eLst (aCons (eTup (aCons (eVar 6) (aCons (eC (.int 1)) aNil))) (aCons (eTup (aCons (eVar 0) (aCons (eOp2 fdivF (eVar 7) (eVar 4)) aNil))) (aCons (eTup (aCons (eSl (eVar 0) oNone (oSome (eOp2 modF (eVar 7) (eVar 4)))) (aCons (eC (.int 1)) aNil))) aNil)))))))))
def m_cut_piece : FnM := fnM 4 8 t_cut_piece
theorem fo_cut_piece {P : Program} {w : World} {K : PySem.W.Frag} {mg : Str → Option Value} {base : Heap} (D : Facts K mg) {fd : FuncData} (F : FunD K "cut_piece" "cut_piece" (defArgs s_cut_piece) (defBody s_cut_piece) (defScope s_cut_piece) [] [] (He.ga K "cut_piece") fd) : FnOk P w K mg base CX0 1 (He.ga K "cut_piece") fd ["word", "times", "begin", "end"] (spM K T m_cut_piece) := fn_v0 F sc_cut_piece fun cdv A outer s H E E' hr =>
    (vb_cons (vs_par2 (i := 4) (j := 5) rfl sc_cut_piece.nd rfl rfl (by decide) rfl rfl (va_cons (ve_callB cr_len on_len rfl (D.n4) (by decide +kernel) (va_cons (ve_var (i := 0) rfl (Or.inl rfl)) va_nil)) (va_cons (ve_op op_mod o2_mod (ve_var (i := 2) rfl (Or.inl rfl)) (ve_callB cr_len on_len rfl (D.n4) (by decide +kernel) (va_cons (ve_var (i := 0) rfl (Or.inl rfl)) va_nil))) va_nil)) (by kernel_rfl))
    (vb_cons (vs_if (vt_cmp op_le (o2_cmp (p := fun i j => decide (i ≤ j))) (ve_op op_sub o2_sub (ve_var (i := 3) rfl (Or.inl rfl)) (ve_var (i := 2) rfl (Or.inl rfl))) (ve_op or_mul o2_mul ve_int (ve_var (i := 4) rfl (Or.inl rfl))) (nomark _)) (vb_one (vs_ret (ve_lst (va_cons (ve_tup (va_cons (ve_sl (ve_op or_mul o2_mul (ve_var (i := 0) rfl (Or.inl rfl)) ve_int) (vo_some (ve_var (i := 5) rfl (Or.inl rfl))) (vo_some (ve_op op_sub o2_sub (ve_op or_add o2_add (ve_var (i := 5) rfl (Or.inl rfl)) (ve_var (i := 3) rfl (Or.inl rfl))) (ve_var (i := 2) rfl (Or.inl rfl))))) (va_cons ve_int va_nil))) va_nil)))) vb_nil)
    (vb_cons (vs_set (i := 6) sc_cut_piece.nd rfl (Or.inl rfl) (ve_if (vt_cmp op_gt (o2_cmp (p := fun i j => decide (j < i))) (ve_var (i := 5) rfl (Or.inl rfl)) ve_int (nomark _)) (ve_sl (ve_var (i := 0) rfl (Or.inl rfl)) (vo_some (ve_var (i := 5) rfl (Or.inl rfl))) vo_none) (ve_str (by decide +kernel))))
    (vb_cons (vs_set (i := 7) sc_cut_piece.nd rfl (Or.inl rfl) (ve_op op_sub o2_sub (ve_op op_sub o2_sub (ve_var (i := 3) rfl (Or.inl rfl)) (ve_var (i := 2) rfl (Or.inl rfl))) (ve_callB cr_len on_len rfl (D.n4) (by decide +kernel) (va_cons (ve_var (i := 6) rfl (Or.inl rfl)) va_nil))))
    (vb_one (vs_ret (ve_lst (va_cons (ve_tup (va_cons (ve_var (i := 6) rfl (Or.inl rfl)) (va_cons ve_int va_nil))) (va_cons (ve_tup (va_cons (ve_var (i := 0) rfl (Or.inl rfl)) (va_cons (ve_op op_fdivW o2_fdiv (ve_var (i := 7) rfl (Or.inl rfl)) (ve_var (i := 4) rfl (Or.inl rfl))) va_nil))) (va_cons (ve_tup (va_cons (ve_sl (ve_var (i := 0) rfl (Or.inl rfl)) vo_none (vo_some (ve_op op_mod o2_mod (ve_var (i := 7) rfl (Or.inl rfl)) (ve_var (i := 4) rfl (Or.inl rfl))))) (va_cons ve_int va_nil))) va_nil))))))))))
theorem ok_cut_piece {P : Program} {w : World} {K : PySem.W.Frag} {mg : Str → Option Value} {base : Heap} (D : Facts K mg) : Fn P w K mg base T CX0 1 (He.ga K "cut_piece") m_cut_piece := by
  obtain ⟨fd, F⟩ := D.d_cut_piece
  exact Fn.plain (fo_cut_piece D F) (F.bindsN fun _ _ _ _ _ _ us hl => match us, hl with | [_, _, _, _], _ => rfl) F.kp
/-! Pieces.__init__ -/
theorem sc_Pieces___init__ : FnScope ["self", "pairs", "word", "times"] ["self", "pairs"] (defScope s_Pieces___init__) := ⟨rfl, rfl, rfl, by decide +kernel, rfl, by decide +kernel, by decide +kernel⟩
def t_Pieces___init__ : TSv :=
  (sAttr T 0 (eVar 0) (eFrz (eLc (iAny (eVar 1)) (gTp (gsCons (gNm 2) (gsCons (gNm 3) gsNil))) (tAndV (tVal (eOp2 neF (eVar 2) (eC (.str [])))) (tVal (eOp2 gtF (eVar 3) (eC (.int 0))))) (eTup (aCons (eVar 2) (aCons (eVar 3) aNil))) [2, 3])))
def m_Pieces___init__ : FnM := fnM 2 4 t_Pieces___init__
theorem fo_Pieces___init__ {P : Program} {w : World} {K : PySem.W.Frag} {mg : Str → Option Value} {base : Heap} (D : Facts K mg) {fd : FuncData} (F : FunD K "__init__" "Pieces.__init__" (defArgs s_Pieces___init__) (defBody s_Pieces___init__) (defScope s_Pieces___init__) [] [] (He.ma K (He.ga K "Pieces") "__init__") fd) : FnOk P w K mg base CX0 1 (He.ma K (He.ga K "Pieces") "__init__") fd ["self", "pairs"] (spM K T m_Pieces___init__) := fn_v0 F sc_Pieces___init__ fun cdv A outer s H E E' hr =>
    (vb_one (vs_attr (i := 0) D.tab (by decide +kernel) (ve_var (i := 0) rfl (Or.inl rfl)) (ve_frz (ve_lc (own := [("word", 2), ("times", 3)]) rfl sc_Pieces___init__.nd (vi_any (ve_var (i := 1) rfl (Or.inl rfl))) (blkOk_by (by kernel_rfl)) (by decide) (fun _ _ _ _ _ => (vgw_tup rfl (vgsw_cons (vgw_name (i := 2) sc_Pieces___init__.nd rfl (Or.inl rfl)) (vgsw_cons (vgw_name (i := 3) sc_Pieces___init__.nd rfl (Or.inl rfl)) vgsw_nil)) (gsCons_len (gsCons_len (fun _ _ _ h => gsNil_len h))))) (fun _ _ _ _ _ => (vts_one (VW.vt (vw_and (vt_cmp (or_ne (hu64 hr)) o2_ne (ve_var (i := 2) rfl (Or.inl rfl)) (ve_str (by decide +kernel)) (nomark _)) (vw_and1 (vt_cmp op_gt (o2_cmp (p := fun i j => decide (j < i))) (ve_var (i := 3) rfl (Or.inl rfl)) ve_int (nomark _))))))) (fun _ _ _ _ _ => (ve_tup (va_cons (ve_var (i := 2) rfl (Or.inl rfl)) (va_cons (ve_var (i := 3) rfl (Or.inl rfl)) va_nil))))))))
theorem ok_Pieces___init__ {P : Program} {w : World} {K : PySem.W.Frag} {mg : Str → Option Value} {base : Heap} (D : Facts K mg) : Fn P w K mg base T CX0 1 (He.ma K (He.ga K "Pieces") "__init__") m_Pieces___init__ := by
  obtain ⟨fd, F⟩ := D.d_Pieces___init__
  exact Fn.plain (fo_Pieces___init__ D F) (F.bindsN fun _ _ _ _ _ _ us hl => match us, hl with | [_, _], _ => rfl) F.kp
/-! Row.part -/
theorem sc_Row_part : FnScope ["self", "first", "last", "found", "ahead", "word", "times", "size", "first_here", "end"] ["self", "first", "last"] (defScope s_Row_part) := ⟨rfl, rfl, rfl, by decide +kernel, rfl, by decide +kernel, by decide +kernel⟩
def t_Row_part : TSv :=
  (bCons (sIf (tOrV (tNotV (tVal (eCall m_is_integer (aCons (eVar 1) aNil)))) (tNotV (tVal (eChain leF leF (eC (.int 1)) (eVar 1) (eOp2 addF (eLenO 1 m_Row___len__ (eVar 0)) (eC (.int 1))))))) sNever bNil)
    (bCons (sIf (tOrV (tNotV (tVal (eCall m_is_integer (aCons (eVar 2) aNil)))) (tNotV (tVal (eChain leF leF (eOp2 subF (eVar 1) (eC (.int 1))) (eVar 2) (eLenO 1 m_Row___len__ (eVar 0)))))) sNever bNil)
    (bCons (sPar2 3 4 (aCons (eLstM aNil) (aCons (eC (.int 0)) aNil)))
    (bCons (sFor (iAny (eAttr 1 (eVar 0))) (gTp (gsCons (gNm 5) (gsCons (gNm 6) gsNil))) (bCons (sSet 7 (eOp2 mulF (eCB (g1 lenF) (aCons (eVar 5) aNil)) (eVar 6)))
    (bCons (sPar2 8 9 (aCons (eCB (g2 max2F) (aCons (eOp2 subF (eOp2 subF (eVar 1) (eC (.int 1))) (eVar 4)) (aCons (eC (.int 0)) aNil))) (aCons (eCB (g2 min2F) (aCons (eOp2 subF (eVar 2) (eVar 4)) (aCons (eVar 7) aNil))) aNil)))
    (bCons (sIf (tVal (eOp2 ltF (eVar 8) (eVar 9))) (sExpr (eMut false cExtend (eVar 3) (aCons (eCall m_cut_piece (aCons (eVar 5) (aCons (eVar 6) (aCons (eVar 8) (aCons (eVar 9) aNil))))) aNil))) bNil)
    (sAug 4 addI (eVar 7))))))
    (sRet (eCall (mkF 1 m_Row___init__) (aCons (eCall (mkF 0 m_Pieces___init__) (aCons (eFrzC (eVar 3)) aNil)) aNil)))))))
def m_Row_part : FnM := fnM 3 10 t_Row_part
theorem fo_Row_part {P : Program} {w : World} {K : PySem.W.Frag} {mg : Str → Option Value} {base : Heap} (D : Facts K mg) {fd : FuncData} (F : FunD K "part" "Row.part" (defArgs s_Row_part) (defBody s_Row_part) (defScope s_Row_part) [] [] (He.ma K (He.ga K "Row") "part") fd) : FnOk P w K mg base CX0 4 (He.ma K (He.ga K "Row") "part") fd ["self", "first", "last"] (spM K T m_Row_part) := fn_v0 F sc_Row_part fun cdv A outer s H E E' hr =>
    (vb_cons (vs_if (VW.vt (vw_or (vt_not (vt_val (ve_call (ok_is_integer D) (hr.mono (by first | decide | omega)) rfl (D.g10) passV (va_cons (ve_var (i := 1) rfl (Or.inl rfl)) va_nil)))) (vw_or1 (vt_not (vt_chain op_le (o2_cmp (p := fun i j => decide (i ≤ j))) op_le (o2_cmp (p := fun i j => decide (i ≤ j))) ve_int (ve_var (i := 1) rfl (Or.inl rfl)) (ve_op or_add o2_add (ve_lenO (c := 1) (D.me0) (ok_Row___len__ D) (hr.mono (by first | decide | omega)) passV rfl (D.n4) (ve_var (i := 0) rfl (Or.inl rfl))) ve_int)))))) (vb_one vs_never) vb_nil)
    (vb_cons (vs_if (VW.vt (vw_or (vt_not (vt_val (ve_call (ok_is_integer D) (hr.mono (by first | decide | omega)) rfl (D.g10) passV (va_cons (ve_var (i := 2) rfl (Or.inl rfl)) va_nil)))) (vw_or1 (vt_not (vt_chain op_le (o2_cmp (p := fun i j => decide (i ≤ j))) op_le (o2_cmp (p := fun i j => decide (i ≤ j))) (ve_op op_sub o2_sub (ve_var (i := 1) rfl (Or.inl rfl)) ve_int) (ve_var (i := 2) rfl (Or.inl rfl)) (ve_lenO (c := 1) (D.me0) (ok_Row___len__ D) (hr.mono (by first | decide | omega)) passV rfl (D.n4) (ve_var (i := 0) rfl (Or.inl rfl)))))))) (vb_one vs_never) vb_nil)
    (vb_cons (vs_par2 (i := 3) (j := 4) rfl sc_Row_part.nd rfl rfl (by decide) rfl rfl (va_cons (ve_lstM va_nil) (va_cons ve_int va_nil)) (by kernel_rfl))
    (vb_cons (vs_for PassesOwn.never rfl (vi_any (ve_attr (i := 1) D.tab (ve_var (i := 0) rfl (Or.inl rfl)) (by decide +kernel))) (vg_tup rfl (vgs_cons (vg_name (i := 5) sc_Row_part.nd rfl (Or.inl rfl)) (vgs_cons (vg_name (i := 6) sc_Row_part.nd rfl (Or.inl rfl)) vgs_nil)) (gsCons_len (gsCons_len (fun _ _ _ h => gsNil_len h)))) (vb_cons (vs_set (i := 7) sc_Row_part.nd rfl (Or.inl rfl) (ve_op or_mul o2_mul (ve_callB cr_len on_len rfl (D.n4) (by decide +kernel) (va_cons (ve_var (i := 5) rfl (Or.inl rfl)) va_nil)) (ve_var (i := 6) rfl (Or.inl rfl))))
    (vb_cons (vs_par2 (i := 8) (j := 9) rfl sc_Row_part.nd rfl rfl (by decide) rfl rfl (va_cons (ve_callB (call_max2 rfl) on_max2 rfl (D.n2) (by decide +kernel) (va_cons (ve_op op_sub o2_sub (ve_op op_sub o2_sub (ve_var (i := 1) rfl (Or.inl rfl)) ve_int) (ve_var (i := 4) rfl (Or.inl rfl))) (va_cons ve_int va_nil))) (va_cons (ve_callB (call_min2 rfl) on_min2 rfl (D.n11) (by decide +kernel) (va_cons (ve_op op_sub o2_sub (ve_var (i := 2) rfl (Or.inl rfl)) (ve_var (i := 4) rfl (Or.inl rfl))) (va_cons (ve_var (i := 7) rfl (Or.inl rfl)) va_nil))) va_nil)) (by kernel_rfl))
    (vb_cons (vs_if (vt_cmp op_lt (o2_cmp (p := fun i j => decide (i < j))) (ve_var (i := 8) rfl (Or.inl rfl)) (ve_var (i := 9) rfl (Or.inl rfl)) (nomark _)) (vb_one (vs_expr (ve_extend (ve_var (i := 3) rfl (Or.inl rfl)) (ve_call (ok_cut_piece D) (hr.mono (by first | decide | omega)) rfl (D.g18) passV (va_cons (ve_var (i := 5) rfl (Or.inl rfl)) (va_cons (ve_var (i := 6) rfl (Or.inl rfl)) (va_cons (ve_var (i := 8) rfl (Or.inl rfl)) (va_cons (ve_var (i := 9) rfl (Or.inl rfl)) va_nil)))))))) vb_nil)
    (vb_one (vs_aug (i := 4) sc_Row_part.nd rfl (Or.inl rfl) ior_add o2_iadd (ve_var (i := 7) rfl (Or.inl rfl))))))))
    (vb_one (vs_ret (ve_mkF (c := 1) rfl (D.mk0) (ok_Row___init__ D) (hr.mono (by first | decide | omega)) rfl (D.g6) passV (va_cons (ve_mkF (c := 0) rfl (D.mk1) (ok_Pieces___init__ D) (hr.mono (by first | decide | omega)) rfl (D.g7) passV (va_cons (ve_frzC (ve_var (i := 3) rfl (Or.inl rfl))) va_nil)) va_nil))))))))
theorem ok_Row_part {P : Program} {w : World} {K : PySem.W.Frag} {mg : Str → Option Value} {base : Heap} (D : Facts K mg) : Fn P w K mg base T CX0 4 (He.ma K (He.ga K "Row") "part") m_Row_part := by
  obtain ⟨fd, F⟩ := D.d_Row_part
  exact Fn.plain (fo_Row_part D F) (F.bindsN fun _ _ _ _ _ _ us hl => match us, hl with | [_, _, _], _ => rfl) F.kp
/-! both -/
theorem sc_both : FnScope ["row", "slot", "begin"] ["row", "slot"] (defScope s_both) := ⟨rfl, rfl, rfl, by decide +kernel, rfl, by decide +kernel, by decide +kernel⟩
def t_both : TSv :=
  (bCons (sSet 2 (eCall m_reach (aCons (eMeth 1 m_Row_part (eVar 0) (aCons (eC (.int 1)) (aCons (eOp2 subF (eVar 1) (eC (.int 1))) aNil))) aNil)))
    (sRet (eCall m_through (aCons (eMeth 1 m_Row_part (eVar 0) (aCons (eVar 1) (aCons (eLenO 1 m_Row___len__ (eVar 0)) aNil))) (aCons (eTup (aCons (eVar 2) (aCons (eVar 2) aNil))) aNil)))))
def m_both : FnM := fnM 2 3 t_both
theorem fo_both {P : Program} {w : World} {K : PySem.W.Frag} {mg : Str → Option Value} {base : Heap} (D : Facts K mg) {fd : FuncData} (F : FunD K "both" "both" (defArgs s_both) (defBody s_both) (defScope s_both) [] [] (He.ga K "both") fd) : FnOk P w K mg base CX0 6 (He.ga K "both") fd ["row", "slot"] (spM K T m_both) := fn_v0 F sc_both fun cdv A outer s H E E' hr =>
    (vb_cons (vs_set (i := 2) sc_both.nd rfl (Or.inl rfl) (ve_call (ok_reach D) (hr.mono (by first | decide | omega)) rfl (D.g17) passV (va_cons (ve_meth (c := 1) D.tab rfl (by decide +kernel) (ve_var (i := 0) rfl (Or.inl rfl)) (D.me1) (ok_Row_part D) (hr.mono (by first | decide | omega)) passV (va_cons ve_int (va_cons (ve_op op_sub o2_sub (ve_var (i := 1) rfl (Or.inl rfl)) ve_int) va_nil))) va_nil)))
    (vb_one (vs_ret (ve_call (ok_through D) (hr.mono (by first | decide | omega)) rfl (D.g16) passV (va_cons (ve_meth (c := 1) D.tab rfl (by decide +kernel) (ve_var (i := 0) rfl (Or.inl rfl)) (D.me1) (ok_Row_part D) (hr.mono (by first | decide | omega)) passV (va_cons (ve_var (i := 1) rfl (Or.inl rfl)) (va_cons (ve_lenO (c := 1) (D.me0) (ok_Row___len__ D) (hr.mono (by first | decide | omega)) passV rfl (D.n4) (ve_var (i := 0) rfl (Or.inl rfl))) va_nil))) (va_cons (ve_tup (va_cons (ve_var (i := 2) rfl (Or.inl rfl)) (va_cons (ve_var (i := 2) rfl (Or.inl rfl)) va_nil))) va_nil))))))
theorem ok_both {P : Program} {w : World} {K : PySem.W.Frag} {mg : Str → Option Value} {base : Heap} (D : Facts K mg) : Fn P w K mg base T CX0 6 (He.ga K "both") m_both := by
  obtain ⟨fd, F⟩ := D.d_both
  exact Fn.plain (fo_both D F) (F.bindsN fun _ _ _ _ _ _ us hl => match us, hl with | [_, _], _ => rfl) F.kp
/-! needed -/
theorem sc_needed : FnScope ["row", "slot", "whole", "reached", "left"] ["row", "slot"] (defScope s_needed) := ⟨rfl, rfl, rfl, by decide +kernel, rfl, by decide +kernel, by decide +kernel⟩
def t_needed : TSv :=
  (bCons (sSet 2 (eCall m_row_of (aCons (eVar 0) aNil)))
    (bCons (sExpr (eCall m_check_slot (aCons (eVar 1) (aCons (eLenO 1 m_Row___len__ (eVar 2)) aNil))))
    (bCons (sAsg (eCall m_both (aCons (eVar 2) (aCons (eVar 1) aNil))) (gTp (gsCons (gNm 3) (gsCons (gNm 4) gsNil))))
    (sRet (eIf (tVal (eOp2 geF (eVar 4) (eC (.int 0)))) (eOp2 addF (eVar 3) (eC (.int 1))) (eC (.int 0)))))))
def m_needed : FnM := fnM 2 5 t_needed
theorem fo_needed {P : Program} {w : World} {K : PySem.W.Frag} {mg : Str → Option Value} {base : Heap} (D : Facts K mg) {fd : FuncData} (F : FunD K "needed" "needed" (defArgs s_needed) (defBody s_needed) (defScope s_needed) [] [] (He.ga K "needed") fd) : FnOk P w K mg base CX0 7 (He.ga K "needed") fd ["row", "slot"] (spM K T m_needed) := fn_v0 F sc_needed fun cdv A outer s H E E' hr =>
    (vb_cons (vs_set (i := 2) sc_needed.nd rfl (Or.inl rfl) (ve_call (ok_row_of D) (hr.mono (by first | decide | omega)) rfl (D.g9) passV (va_cons (ve_var (i := 0) rfl (Or.inl rfl)) va_nil)))
    (vb_cons (vs_expr (ve_call (ok_check_slot D) (hr.mono (by first | decide | omega)) rfl (D.g11) passV (va_cons (ve_var (i := 1) rfl (Or.inl rfl)) (va_cons (ve_lenO (c := 1) (D.me0) (ok_Row___len__ D) (hr.mono (by first | decide | omega)) passV rfl (D.n4) (ve_var (i := 2) rfl (Or.inl rfl))) va_nil))))
    (vb_cons (vs_asg (ve_call (ok_both D) (hr.mono (by first | decide | omega)) rfl (D.g19) passV (va_cons (ve_var (i := 2) rfl (Or.inl rfl)) (va_cons (ve_var (i := 1) rfl (Or.inl rfl)) va_nil))) (vg_tup rfl (vgs_cons (vg_name (i := 3) sc_needed.nd rfl (Or.inl rfl)) (vgs_cons (vg_name (i := 4) sc_needed.nd rfl (Or.inl rfl)) vgs_nil)) (gsCons_len (gsCons_len (fun _ _ _ h => gsNil_len h)))))
    (vb_one (vs_ret (ve_if (vt_cmp op_ge (o2_cmp (p := fun i j => decide (j ≤ i))) (ve_var (i := 4) rfl (Or.inl rfl)) ve_int (nomark _)) (ve_op or_add o2_add (ve_var (i := 3) rfl (Or.inl rfl)) ve_int) ve_int))))))
theorem ok_needed {P : Program} {w : World} {K : PySem.W.Frag} {mg : Str → Option Value} {base : Heap} (D : Facts K mg) : Fn P w K mg base T CX0 7 (He.ga K "needed") m_needed := by
  obtain ⟨fd, F⟩ := D.d_needed
  exact Fn.plain (fo_needed D F) (F.bindsN fun _ _ _ _ _ _ us hl => match us, hl with | [_, _], _ => rfl) F.kp
/-! Row.__add__ -/
theorem sc_Row___add__ : FnScope ["self", "other"] ["self", "other"] (defScope s_Row___add__) := ⟨rfl, rfl, rfl, by decide +kernel, rfl, by decide +kernel, by decide +kernel⟩
def t_Row___add__ : TSv :=
  (sRet (eCall (mkF 1 m_Row___init__) (aCons (eCall (mkF 0 m_Pieces___init__) (aCons (eOp2 addF (eAttr 1 (eVar 0)) (eAttr 1 (eCall m_row_of (aCons (eVar 1) aNil)))) aNil)) aNil)))
def m_Row___add__ : FnM := fnM 2 2 t_Row___add__
theorem fo_Row___add__ {P : Program} {w : World} {K : PySem.W.Frag} {mg : Str → Option Value} {base : Heap} (D : Facts K mg) {fd : FuncData} (F : FunD K "__add__" "Row.__add__" (defArgs s_Row___add__) (defBody s_Row___add__) (defScope s_Row___add__) [] [] (He.ma K (He.ga K "Row") "__add__") fd) : FnOk P w K mg base CX0 5 (He.ma K (He.ga K "Row") "__add__") fd ["self", "other"] (spM K T m_Row___add__) := fn_v0 F sc_Row___add__ fun cdv A outer s H E E' hr =>
    (vb_one (vs_ret (ve_mkF (c := 1) rfl (D.mk0) (ok_Row___init__ D) (hr.mono (by first | decide | omega)) rfl (D.g6) passV (va_cons (ve_mkF (c := 0) rfl (D.mk1) (ok_Pieces___init__ D) (hr.mono (by first | decide | omega)) rfl (D.g7) passV (va_cons (ve_op or_add o2_add (ve_attr (i := 1) D.tab (ve_var (i := 0) rfl (Or.inl rfl)) (by decide +kernel)) (ve_attr (i := 1) D.tab (ve_call (ok_row_of D) (hr.mono (by first | decide | omega)) rfl (D.g9) passV (va_cons (ve_var (i := 1) rfl (Or.inl rfl)) va_nil)) (by decide +kernel))) va_nil)) va_nil))))
theorem ok_Row___add__ {P : Program} {w : World} {K : PySem.W.Frag} {mg : Str → Option Value} {base : Heap} (D : Facts K mg) : Fn P w K mg base T CX0 5 (He.ma K (He.ga K "Row") "__add__") m_Row___add__ := by
  obtain ⟨fd, F⟩ := D.d_Row___add__
  exact Fn.plain (fo_Row___add__ D F) (F.bindsN fun _ _ _ _ _ _ us hl => match us, hl with | [_, _], _ => rfl) F.kp
/-! Row.__radd__ -/
theorem sc_Row___radd__ : FnScope ["self", "other"] ["self", "other"] (defScope s_Row___radd__) := ⟨rfl, rfl, rfl, by decide +kernel, rfl, by decide +kernel, by decide +kernel⟩
def t_Row___radd__ : TSv :=
  (sRet (eCall (mkF 1 m_Row___init__) (aCons (eCall (mkF 0 m_Pieces___init__) (aCons (eOp2 addF (eAttr 1 (eCall m_row_of (aCons (eVar 1) aNil))) (eAttr 1 (eVar 0))) aNil)) aNil)))
def m_Row___radd__ : FnM := fnM 2 2 t_Row___radd__
theorem fo_Row___radd__ {P : Program} {w : World} {K : PySem.W.Frag} {mg : Str → Option Value} {base : Heap} (D : Facts K mg) {fd : FuncData} (F : FunD K "__radd__" "Row.__radd__" (defArgs s_Row___radd__) (defBody s_Row___radd__) (defScope s_Row___radd__) [] [] (He.ma K (He.ga K "Row") "__radd__") fd) : FnOk P w K mg base CX0 5 (He.ma K (He.ga K "Row") "__radd__") fd ["self", "other"] (spM K T m_Row___radd__) := fn_v0 F sc_Row___radd__ fun cdv A outer s H E E' hr =>
    (vb_one (vs_ret (ve_mkF (c := 1) rfl (D.mk0) (ok_Row___init__ D) (hr.mono (by first | decide | omega)) rfl (D.g6) passV (va_cons (ve_mkF (c := 0) rfl (D.mk1) (ok_Pieces___init__ D) (hr.mono (by first | decide | omega)) rfl (D.g7) passV (va_cons (ve_op or_add o2_add (ve_attr (i := 1) D.tab (ve_call (ok_row_of D) (hr.mono (by first | decide | omega)) rfl (D.g9) passV (va_cons (ve_var (i := 1) rfl (Or.inl rfl)) va_nil)) (by decide +kernel)) (ve_attr (i := 1) D.tab (ve_var (i := 0) rfl (Or.inl rfl)) (by decide +kernel))) va_nil)) va_nil))))
theorem ok_Row___radd__ {P : Program} {w : World} {K : PySem.W.Frag} {mg : Str → Option Value} {base : Heap} (D : Facts K mg) : Fn P w K mg base T CX0 5 (He.ma K (He.ga K "Row") "__radd__") m_Row___radd__ := by
  obtain ⟨fd, F⟩ := D.d_Row___radd__
  exact Fn.plain (fo_Row___radd__ D F) (F.bindsN fun _ _ _ _ _ _ us hl => match us, hl with | [_, _], _ => rfl) F.kp
/-! _law_r_built -/
theorem sc__law_r_built : FnScope ["_law_stream", "_law_text", "_law_way", "_law_cut"] ["_law_stream", "_law_text"] (defScope s__law_r_built) := ⟨rfl, rfl, rfl, by decide +kernel, rfl, by decide +kernel, by decide +kernel⟩
def t__law_r_built : TSv :=
  (bCons (sPar2 2 3 (aCons (eCall m__law_draw (aCons (eVar 0) (aCons (eC (.int 5)) aNil))) (aCons (eCall m__law_draw (aCons (eVar 0) (aCons (eOp2 addF (eCB (g1 lenF) (aCons (eVar 1) aNil)) (eC (.int 1))) aNil))) aNil)))
    (bCons (sIf (tVal (eOp2 eqF (eVar 2) (eC (.int 0)))) (sRet (eCall (mkF 1 m_Row___init__) (aCons (eVar 1) aNil))) bNil)
    (bCons (sIf (tVal (eOp2 eqF (eVar 2) (eC (.int 1)))) (sRet (eOwn2 1 (isOwn 1) m_Row___add__ (eCall (mkF 1 m_Row___init__) (aCons (eSl (eVar 1) oNone (oSome (eVar 3))) aNil)) (eCall (mkF 1 m_Row___init__) (aCons (eSl (eVar 1) (oSome (eVar 3)) oNone) aNil)))) bNil)
    (bCons (sIf (tVal (eOp2 eqF (eVar 2) (eC (.int 2)))) (sRet (eOwnR 1 isStrW m_Row___radd__ (eSl (eVar 1) oNone (oSome (eVar 3))) (eCall (mkF 1 m_Row___init__) (aCons (eSl (eVar 1) (oSome (eVar 3)) oNone) aNil)))) bNil)
    (bCons (sIf (tVal (eOp2 eqF (eVar 2) (eC (.int 3)))) (sRet (eOwn2 1 isStrW m_Row___add__ (eCall (mkF 1 m_Row___init__) (aCons (eSl (eVar 1) oNone (oSome (eVar 3))) aNil)) (eSl (eVar 1) (oSome (eVar 3)) oNone))) bNil)
    (sRet (eMeth 1 m_Row_part (eCall (mkF 1 m_Row___init__) (aCons (eOp2 addF (eOp2 addF (eOp2 mulF (eC (.str [104])) (eC (.int 5))) (eVar 1)) (eC (.str [65, 46]))) aNil)) (aCons (eC (.int 6)) (aCons (eOp2 addF (eC (.int 5)) (eCB (g1 lenF) (aCons (eVar 1) aNil))) aNil)))))))))
def m__law_r_built : FnM := fnM 2 4 t__law_r_built
theorem fo__law_r_built {P : Program} {w : World} {K : PySem.W.Frag} {mg : Str → Option Value} {base : Heap} (D : Facts K mg) {fd : FuncData} (F : FunD K "_law_r_built" "_law_r_built" (defArgs s__law_r_built) (defBody s__law_r_built) (defScope s__law_r_built) [] [] (He.ga K "_law_r_built") fd) : FnOk P w K mg base CX0 6 (He.ga K "_law_r_built") fd ["_law_stream", "_law_text"] (spM K T m__law_r_built) := fn_v0 F sc__law_r_built fun cdv A outer s H E E' hr =>
    (vb_cons (vs_par2 (i := 2) (j := 3) rfl sc__law_r_built.nd rfl rfl (by decide) rfl rfl (va_cons (ve_call (ok__law_draw D) (hr.mono (by first | decide | omega)) rfl (D.g3) passV (va_cons (ve_var (i := 0) rfl (Or.inl rfl)) (va_cons ve_int va_nil))) (va_cons (ve_call (ok__law_draw D) (hr.mono (by first | decide | omega)) rfl (D.g3) passV (va_cons (ve_var (i := 0) rfl (Or.inl rfl)) (va_cons (ve_op or_add o2_add (ve_callB cr_len on_len rfl (D.n4) (by decide +kernel) (va_cons (ve_var (i := 1) rfl (Or.inl rfl)) va_nil)) ve_int) va_nil))) va_nil)) (by kernel_rfl))
    (vb_cons (vs_if (vt_cmp (or_eq (hu64 hr)) o2_eq (ve_var (i := 2) rfl (Or.inl rfl)) ve_int (nomark _)) (vb_one (vs_ret (ve_mkF (c := 1) rfl (D.mk0) (ok_Row___init__ D) (hr.mono (by first | decide | omega)) rfl (D.g6) passV (va_cons (ve_var (i := 1) rfl (Or.inl rfl)) va_nil)))) vb_nil)
    (vb_cons (vs_if (vt_cmp (or_eq (hu64 hr)) o2_eq (ve_var (i := 2) rfl (Or.inl rfl)) ve_int (nomark _)) (vb_one (vs_ret (ve_ownBin (c := 1) (D.sf0) (D.me2) (ok_Row___add__ D) (hr.mono (by first | decide | omega)) passV (ve_mkF (c := 1) rfl (D.mk0) (ok_Row___init__ D) (hr.mono (by first | decide | omega)) rfl (D.g6) passV (va_cons (ve_sl (ve_var (i := 1) rfl (Or.inl rfl)) vo_none (vo_some (ve_var (i := 3) rfl (Or.inl rfl)))) va_nil)) (ve_mkF (c := 1) rfl (D.mk0) (ok_Row___init__ D) (hr.mono (by first | decide | omega)) rfl (D.g6) passV (va_cons (ve_sl (ve_var (i := 1) rfl (Or.inl rfl)) (vo_some (ve_var (i := 3) rfl (Or.inl rfl))) vo_none) va_nil))))) vb_nil)
    (vb_cons (vs_if (vt_cmp (or_eq (hu64 hr)) o2_eq (ve_var (i := 2) rfl (Or.inl rfl)) ve_int (nomark _)) (vb_one (vs_ret (ve_ownRBinS (c := 1) (D.sf0) (D.me3) (D.br0) (ok_Row___radd__ D) (hr.mono (by first | decide | omega)) passV (ve_sl (ve_var (i := 1) rfl (Or.inl rfl)) vo_none (vo_some (ve_var (i := 3) rfl (Or.inl rfl)))) (ve_mkF (c := 1) rfl (D.mk0) (ok_Row___init__ D) (hr.mono (by first | decide | omega)) rfl (D.g6) passV (va_cons (ve_sl (ve_var (i := 1) rfl (Or.inl rfl)) (vo_some (ve_var (i := 3) rfl (Or.inl rfl))) vo_none) va_nil))))) vb_nil)
    (vb_cons (vs_if (vt_cmp (or_eq (hu64 hr)) o2_eq (ve_var (i := 2) rfl (Or.inl rfl)) ve_int (nomark _)) (vb_one (vs_ret (ve_ownBinS (c := 1) (D.sf0) (D.me2) (D.bt0) (ok_Row___add__ D) (hr.mono (by first | decide | omega)) passV (ve_mkF (c := 1) rfl (D.mk0) (ok_Row___init__ D) (hr.mono (by first | decide | omega)) rfl (D.g6) passV (va_cons (ve_sl (ve_var (i := 1) rfl (Or.inl rfl)) vo_none (vo_some (ve_var (i := 3) rfl (Or.inl rfl)))) va_nil)) (ve_sl (ve_var (i := 1) rfl (Or.inl rfl)) (vo_some (ve_var (i := 3) rfl (Or.inl rfl))) vo_none)))) vb_nil)
    (vb_one (vs_ret (ve_meth (c := 1) D.tab rfl (by decide +kernel) (ve_mkF (c := 1) rfl (D.mk0) (ok_Row___init__ D) (hr.mono (by first | decide | omega)) rfl (D.g6) passV (va_cons (ve_op or_add o2_add (ve_op or_add o2_add (ve_op or_mul o2_mul (ve_str (by decide +kernel)) ve_int) (ve_var (i := 1) rfl (Or.inl rfl))) (ve_str (by decide +kernel))) va_nil)) (D.me1) (ok_Row_part D) (hr.mono (by first | decide | omega)) passV (va_cons ve_int (va_cons (ve_op or_add o2_add ve_int (ve_callB cr_len on_len rfl (D.n4) (by decide +kernel) (va_cons (ve_var (i := 1) rfl (Or.inl rfl)) va_nil))) va_nil))))))))))
theorem ok__law_r_built {P : Program} {w : World} {K : PySem.W.Frag} {mg : Str → Option Value} {base : Heap} (D : Facts K mg) : Fn P w K mg base T CX0 6 (He.ga K "_law_r_built") m__law_r_built := by
  obtain ⟨fd, F⟩ := D.d__law_r_built
  exact Fn.plain (fo__law_r_built D F) (F.bindsN fun _ _ _ _ _ _ us hl => match us, hl with | [_, _], _ => rfl) F.kp
/-! _law_r_handed -/
theorem sc__law_r_handed : FnScope ["_law_stream", "_law_text"] ["_law_stream", "_law_text"] (defScope s__law_r_handed) := ⟨rfl, rfl, rfl, by decide +kernel, rfl, by decide +kernel, by decide +kernel⟩
def t__law_r_handed : TSv :=
  (sRet (eIf (tVal (eOp2 eqF (eCall m__law_draw (aCons (eVar 0) (aCons (eC (.int 2)) aNil))) (eC (.int 0)))) (eVar 1) (eCall m__law_r_built (aCons (eVar 0) (aCons (eVar 1) aNil)))))
def m__law_r_handed : FnM := fnM 2 2 t__law_r_handed
theorem fo__law_r_handed {P : Program} {w : World} {K : PySem.W.Frag} {mg : Str → Option Value} {base : Heap} (D : Facts K mg) {fd : FuncData} (F : FunD K "_law_r_handed" "_law_r_handed" (defArgs s__law_r_handed) (defBody s__law_r_handed) (defScope s__law_r_handed) [] [] (He.ga K "_law_r_handed") fd) : FnOk P w K mg base CX0 7 (He.ga K "_law_r_handed") fd ["_law_stream", "_law_text"] (spM K T m__law_r_handed) := fn_v0 F sc__law_r_handed fun cdv A outer s H E E' hr =>
    (vb_one (vs_ret (ve_if (vt_cmp (or_eq (hu64 hr)) o2_eq (ve_call (ok__law_draw D) (hr.mono (by first | decide | omega)) rfl (D.g3) passV (va_cons (ve_var (i := 0) rfl (Or.inl rfl)) (va_cons ve_int va_nil))) ve_int (nomark _)) (ve_var (i := 1) rfl (Or.inl rfl)) (ve_call (ok__law_r_built D) (hr.mono (by first | decide | omega)) rfl (D.g21) passV (va_cons (ve_var (i := 0) rfl (Or.inl rfl)) (va_cons (ve_var (i := 1) rfl (Or.inl rfl)) va_nil))))))
theorem ok__law_r_handed {P : Program} {w : World} {K : PySem.W.Frag} {mg : Str → Option Value} {base : Heap} (D : Facts K mg) : Fn P w K mg base T CX0 7 (He.ga K "_law_r_handed") m__law_r_handed := by
  obtain ⟨fd, F⟩ := D.d__law_r_handed
  exact Fn.plain (fo__law_r_handed D F) (F.bindsN fun _ _ _ _ _ _ us hl => match us, hl with | [_, _], _ => rfl) F.kp
/-! _law_t_step -/
theorem sc__law_t_step : FnScope ["_law_state", "_law_sign", "_law_up", "_law_left"] ["_law_state", "_law_sign"] (defScope s__law_t_step) := ⟨rfl, rfl, rfl, by decide +kernel, rfl, by decide +kernel, by decide +kernel⟩
def t__law_t_step : TSv :=
  (bCons (sAsg (eVar 0) (gTp (gsCons (gNm 2) (gsCons (gNm 3) gsNil))))
    (bCons (sIf (tVal (eOp2 eqF (eVar 1) (eC (.str [65])))) (sRet (eTup (aCons (eOp2 addF (eVar 2) (eC (.int 1))) (aCons (eOp2 addF (eVar 3) (eC (.int 1))) aNil)))) bNil)
    (bCons (sIf (tVal (eOp2 eqF (eVar 1) (eC (.str [46])))) (sRet (eTup (aCons (eVar 2) (aCons (eVar 3) aNil)))) bNil)
    (bCons (sIf (tAndV (tVal (eOp2 eqF (eVar 3) (eC (.int 0)))) (tOrV (tVal (eOp2 gtF (eVar 2) (eC (.int 0)))) (tVal (eOp2 eqF (eVar 1) (eC (.str [72])))))) (sRet (eTup (aCons (eCB (g2 max2F) (aCons (eOp2 subF (eVar 2) (eC (.int 1))) (aCons (eC (.int 0)) aNil))) (aCons (eC (.int 0)) aNil)))) bNil)
    (sRet (eTup (aCons (eCB (g2 max2F) (aCons (eOp2 subF (eVar 2) (eC (.int 1))) (aCons (eC (.int 0)) aNil))) (aCons (eOp2 subF (eVar 3) (eC (.int 1))) aNil))))))))
def m__law_t_step : FnM := fnM 2 4 t__law_t_step
theorem fo__law_t_step {P : Program} {w : World} {K : PySem.W.Frag} {mg : Str → Option Value} {base : Heap} (D : Facts K mg) {fd : FuncData} (F : FunD K "_law_t_step" "_law_t_step" (defArgs s__law_t_step) (defBody s__law_t_step) (defScope s__law_t_step) [] [] (He.ga K "_law_t_step") fd) : FnOk P w K mg base CX0 1 (He.ga K "_law_t_step") fd ["_law_state", "_law_sign"] (spM K T m__law_t_step) := fn_v0 F sc__law_t_step fun cdv A outer s H E E' hr =>
    (vb_cons (vs_asg (ve_var (i := 0) rfl (Or.inl rfl)) (vg_tup rfl (vgs_cons (vg_name (i := 2) sc__law_t_step.nd rfl (Or.inl rfl)) (vgs_cons (vg_name (i := 3) sc__law_t_step.nd rfl (Or.inl rfl)) vgs_nil)) (gsCons_len (gsCons_len (fun _ _ _ h => gsNil_len h)))))
    (vb_cons (vs_if (vt_cmp (or_eq (hu64 hr)) o2_eq (ve_var (i := 1) rfl (Or.inl rfl)) (ve_str (by decide +kernel)) (nomark _)) (vb_one (vs_ret (ve_tup (va_cons (ve_op or_add o2_add (ve_var (i := 2) rfl (Or.inl rfl)) ve_int) (va_cons (ve_op or_add o2_add (ve_var (i := 3) rfl (Or.inl rfl)) ve_int) va_nil))))) vb_nil)
    (vb_cons (vs_if (vt_cmp (or_eq (hu64 hr)) o2_eq (ve_var (i := 1) rfl (Or.inl rfl)) (ve_str (by decide +kernel)) (nomark _)) (vb_one (vs_ret (ve_tup (va_cons (ve_var (i := 2) rfl (Or.inl rfl)) (va_cons (ve_var (i := 3) rfl (Or.inl rfl)) va_nil))))) vb_nil)
    (vb_cons (vs_if (VW.vt (vw_and (vt_cmp (or_eq (hu64 hr)) o2_eq (ve_var (i := 3) rfl (Or.inl rfl)) ve_int (nomark _)) (vw_and1 (VW.vt (vw_or (vt_cmp op_gt (o2_cmp (p := fun i j => decide (j < i))) (ve_var (i := 2) rfl (Or.inl rfl)) ve_int (nomark _)) (vw_or1 (vt_cmp (or_eq (hu64 hr)) o2_eq (ve_var (i := 1) rfl (Or.inl rfl)) (ve_str (by decide +kernel)) (nomark _)))))))) (vb_one (vs_ret (ve_tup (va_cons (ve_callB (call_max2 rfl) on_max2 rfl (D.n2) (by decide +kernel) (va_cons (ve_op op_sub o2_sub (ve_var (i := 2) rfl (Or.inl rfl)) ve_int) (va_cons ve_int va_nil))) (va_cons ve_int va_nil))))) vb_nil)
    (vb_one (vs_ret (ve_tup (va_cons (ve_callB (call_max2 rfl) on_max2 rfl (D.n2) (by decide +kernel) (va_cons (ve_op op_sub o2_sub (ve_var (i := 2) rfl (Or.inl rfl)) ve_int) (va_cons ve_int va_nil))) (va_cons (ve_op op_sub o2_sub (ve_var (i := 3) rfl (Or.inl rfl)) ve_int) va_nil)))))))))
theorem ok__law_t_step {P : Program} {w : World} {K : PySem.W.Frag} {mg : Str → Option Value} {base : Heap} (D : Facts K mg) : Fn P w K mg base T CX0 1 (He.ga K "_law_t_step") m__law_t_step := by
  obtain ⟨fd, F⟩ := D.d__law_t_step
  exact Fn.plain (fo__law_t_step D F) (F.bindsN fun _ _ _ _ _ _ us hl => match us, hl with | [_, _], _ => rfl) F.kp
/-! _law_t_both -/
theorem sc__law_t_both : FnScope ["_law_row", "_law_slot", "_law_state", "_law_at", "_law_sign"] ["_law_row", "_law_slot"] (defScope s__law_t_both) := ⟨rfl, rfl, rfl, by decide +kernel, rfl, by decide +kernel, by decide +kernel⟩
def t__law_t_both : TSv :=
  (bCons (sSet 2 (eTup (aCons (eC (.int 0)) (aCons (eC (.int 0)) aNil))))
    (bCons (sFor (iEnum (aCons (eVar 0) aNil)) (gTp (gsCons (gNm 3) (gsCons (gNm 4) gsNil))) (bCons (sIf (tVal (eOp2 eqF (eOp2 addF (eVar 3) (eC (.int 1))) (eVar 1))) (sSet 2 (eTup (aCons (eIx (eVar 2) (eC (.int 0))) (aCons (eIx (eVar 2) (eC (.int 0))) aNil)))) bNil)
    (sSet 2 (eCall m__law_t_step (aCons (eVar 2) (aCons (eVar 4) aNil))))))
    (sRet (eIf (tVal (eOp2 leF (eVar 1) (eCB (g1 lenF) (aCons (eVar 0) aNil)))) (eVar 2) (eTup (aCons (eIx (eVar 2) (eC (.int 0))) (aCons (eIx (eVar 2) (eC (.int 0))) aNil)))))))
def m__law_t_both : FnM := fnM 2 5 t__law_t_both
theorem fo__law_t_both {P : Program} {w : World} {K : PySem.W.Frag} {mg : Str → Option Value} {base : Heap} (D : Facts K mg) {fd : FuncData} (F : FunD K "_law_t_both" "_law_t_both" (defArgs s__law_t_both) (defBody s__law_t_both) (defScope s__law_t_both) [] [] (He.ga K "_law_t_both") fd) : FnOk P w K mg base CX0 2 (He.ga K "_law_t_both") fd ["_law_row", "_law_slot"] (spM K T m__law_t_both) := fn_v0 F sc__law_t_both fun cdv A outer s H E E' hr =>
    (vb_cons (vs_set (i := 2) sc__law_t_both.nd rfl (Or.inl rfl) (ve_tup (va_cons ve_int (va_cons ve_int va_nil))))
    (vb_cons (vs_for PassesOwn.never rfl (vi_enum rfl (D.n7) (va_cons (ve_var (i := 0) rfl (Or.inl rfl)) va_nil)) (vg_tup rfl (vgs_cons (vg_name (i := 3) sc__law_t_both.nd rfl (Or.inl rfl)) (vgs_cons (vg_name (i := 4) sc__law_t_both.nd rfl (Or.inl rfl)) vgs_nil)) (gsCons_len (gsCons_len (fun _ _ _ h => gsNil_len h)))) (vb_cons (vs_if (vt_cmp (or_eq (hu64 hr)) o2_eq (ve_op or_add o2_add (ve_var (i := 3) rfl (Or.inl rfl)) ve_int) (ve_var (i := 1) rfl (Or.inl rfl)) (nomark _)) (vb_one (vs_set (i := 2) sc__law_t_both.nd rfl (Or.inl rfl) (ve_tup (va_cons (ve_ix (ve_var (i := 2) rfl (Or.inl rfl)) ve_int) (va_cons (ve_ix (ve_var (i := 2) rfl (Or.inl rfl)) ve_int) va_nil))))) vb_nil)
    (vb_one (vs_set (i := 2) sc__law_t_both.nd rfl (Or.inl rfl) (ve_call (ok__law_t_step D) (hr.mono (by first | decide | omega)) rfl (D.g23) passV (va_cons (ve_var (i := 2) rfl (Or.inl rfl)) (va_cons (ve_var (i := 4) rfl (Or.inl rfl)) va_nil)))))))
    (vb_one (vs_ret (ve_if (vt_cmp op_le (o2_cmp (p := fun i j => decide (i ≤ j))) (ve_var (i := 1) rfl (Or.inl rfl)) (ve_callB cr_len on_len rfl (D.n4) (by decide +kernel) (va_cons (ve_var (i := 0) rfl (Or.inl rfl)) va_nil)) (nomark _)) (ve_var (i := 2) rfl (Or.inl rfl)) (ve_tup (va_cons (ve_ix (ve_var (i := 2) rfl (Or.inl rfl)) ve_int) (va_cons (ve_ix (ve_var (i := 2) rfl (Or.inl rfl)) ve_int) va_nil))))))))
theorem ok__law_t_both {P : Program} {w : World} {K : PySem.W.Frag} {mg : Str → Option Value} {base : Heap} (D : Facts K mg) : Fn P w K mg base T CX0 2 (He.ga K "_law_t_both") m__law_t_both := by
  obtain ⟨fd, F⟩ := D.d__law_t_both
  exact Fn.plain (fo__law_t_both D F) (F.bindsN fun _ _ _ _ _ _ us hl => match us, hl with | [_, _], _ => rfl) F.kp
/-! margin -/
theorem sc_margin : FnScope ["row", "slot", "whole"] ["row", "slot"] (defScope s_margin) := ⟨rfl, rfl, rfl, by decide +kernel, rfl, by decide +kernel, by decide +kernel⟩
def t_margin : TSv :=
  (bCons (sSet 2 (eCall m_row_of (aCons (eVar 0) aNil)))
    (bCons (sExpr (eCall m_check_slot (aCons (eVar 1) (aCons (eOp2 addF (eLenO 1 m_Row___len__ (eVar 2)) (eC (.int 1))) aNil))))
    (sRet (eIx (eCall m_both (aCons (eVar 2) (aCons (eVar 1) aNil))) (eC (.int 1))))))
def m_margin : FnM := fnM 2 3 t_margin
theorem fo_margin {P : Program} {w : World} {K : PySem.W.Frag} {mg : Str → Option Value} {base : Heap} (D : Facts K mg) {fd : FuncData} (F : FunD K "margin" "margin" (defArgs s_margin) (defBody s_margin) (defScope s_margin) [] [] (He.ga K "margin") fd) : FnOk P w K mg base CX0 7 (He.ga K "margin") fd ["row", "slot"] (spM K T m_margin) := fn_v0 F sc_margin fun cdv A outer s H E E' hr =>
    (vb_cons (vs_set (i := 2) sc_margin.nd rfl (Or.inl rfl) (ve_call (ok_row_of D) (hr.mono (by first | decide | omega)) rfl (D.g9) passV (va_cons (ve_var (i := 0) rfl (Or.inl rfl)) va_nil)))
    (vb_cons (vs_expr (ve_call (ok_check_slot D) (hr.mono (by first | decide | omega)) rfl (D.g11) passV (va_cons (ve_var (i := 1) rfl (Or.inl rfl)) (va_cons (ve_op or_add o2_add (ve_lenO (c := 1) (D.me0) (ok_Row___len__ D) (hr.mono (by first | decide | omega)) passV rfl (D.n4) (ve_var (i := 2) rfl (Or.inl rfl))) ve_int) va_nil))))
    (vb_one (vs_ret (ve_ix (ve_call (ok_both D) (hr.mono (by first | decide | omega)) rfl (D.g19) passV (va_cons (ve_var (i := 2) rfl (Or.inl rfl)) (va_cons (ve_var (i := 1) rfl (Or.inl rfl)) va_nil))) ve_int)))))
theorem ok_margin {P : Program} {w : World} {K : PySem.W.Frag} {mg : Str → Option Value} {base : Heap} (D : Facts K mg) : Fn P w K mg base T CX0 7 (He.ga K "margin") m_margin := by
  obtain ⟨fd, F⟩ := D.d_margin
  exact Fn.plain (fo_margin D F) (F.bindsN fun _ _ _ _ _ _ us hl => match us, hl with | [_, _], _ => rfl) F.kp
/-! _law_needed_right -/
theorem sc__law_needed_right : FnScope ["_law_stream", "_law_text", "_law_slot", "_law_told", "_law_left", "_law_k", "_law_one"] ["_law_stream", "_law_text"] (defScope s__law_needed_right) := ⟨rfl, rfl, rfl, by decide +kernel, rfl, by decide +kernel, by decide +kernel⟩
def t__law_needed_right : TSv :=
  (bCons (sFor (iRange2 (aCons (eC (.int 1)) (aCons (eOp2 addF (eCB (g1 lenF) (aCons (eVar 1) aNil)) (eC (.int 1))) aNil))) (gNm 2) (bCons (sSet 3 (eCall m_needed (aCons (eCall m__law_r_handed (aCons (eVar 0) (aCons (eVar 1) aNil))) (aCons (eVar 2) aNil))))
    (bCons (sIf (tOrV (tVal (eIsi [.bl] (eVar 3))) (tOrV (tNotV (tVal (eIsi [.int] (eVar 3)))) (tVal (eOp2 ltF (eVar 3) (eC (.int 0)))))) (sRet (eC (.bl false))) bNil)
    (bCons (sSet 4 (eFrz (eLc (iRange1 (aCons (eOp2 addF (eVar 3) (eC (.int 1))) aNil)) (gNm 5) tYesV (eIx (eCall m__law_t_both (aCons (eOp2 addF (eVar 1) (eOp2 mulF (eC (.str [104])) (eVar 5))) (aCons (eVar 2) aNil))) (eC (.int 1))) [5])))
    (bCons (sIf (tOrV (tVal (eOp2 geF (eIx (eVar 4) (eOp1 negF (eC (.int 1)))) (eC (.int 0)))) (tVal (eCB (g1 anyF) (aCons (eFrz (eLc (iAny (eSl (eVar 4) oNone (oSome (eOp1 negF (eC (.int 1)))))) (gNm 6) tYesV (eOp2 ltF (eVar 6) (eC (.int 0))) [6])) aNil)))) (sRet (eC (.bl false))) bNil)
    (bCons (sIf (tAndV (tVal (eOp2 gtF (eVar 3) (eC (.int 0)))) (tVal (eCB (g1 anyF) (aCons (eFrz (eLc (iRange1 (aCons (eC (.int 6)) aNil)) (gNm 5) tYesV (eOp2 ltF (eIx (eCall m__law_t_both (aCons (eOp2 addF (eVar 1) (eOp2 mulF (eC (.str [72])) (eVar 5))) (aCons (eVar 2) aNil))) (eC (.int 1))) (eC (.int 0))) [5])) aNil)))) (sRet (eC (.bl false))) bNil)
    (sIf (tAndV (tVal (eOp2 gtF (eVar 3) (eC (.int 0)))) (tVal (eOp2 ltF (eCall m_margin (aCons (eOp2 addF (eVar 1) (eOp2 mulF (eC (.str [72])) (eC (.int 5)))) (aCons (eVar 2) aNil))) (eC (.int 0))))) (sRet (eC (.bl false))) bNil)))))))
    (sRet (eC (.bl true))))
def m__law_needed_right : FnM := fnM 2 7 t__law_needed_right
theorem fo__law_needed_right {P : Program} {w : World} {K : PySem.W.Frag} {mg : Str → Option Value} {base : Heap} (D : Facts K mg) {fd : FuncData} (F : FunD K "_law_needed_right" "_law_needed_right" (defArgs s__law_needed_right) (defBody s__law_needed_right) (defScope s__law_needed_right) [] [] (He.ga K "_law_needed_right") fd) : FnOk P w K mg base CX0 8 (He.ga K "_law_needed_right") fd ["_law_stream", "_law_text"] (spM K T m__law_needed_right) := fn_v0 F sc__law_needed_right fun cdv A outer s H E E' hr =>
    (vb_cons (vs_for PassesOwn.never rfl (vi_range2 rfl (D.n1) (va_cons ve_int (va_cons (ve_op or_add o2_add (ve_callB cr_len on_len rfl (D.n4) (by decide +kernel) (va_cons (ve_var (i := 1) rfl (Or.inr (Or.inl rfl))) va_nil)) ve_int) va_nil))) (vg_name (i := 2) sc__law_needed_right.nd rfl (Or.inr rfl)) (vb_cons (vs_set (i := 3) sc__law_needed_right.nd rfl (Or.inl rfl) (ve_call (ok_needed D) (hr.mono (by first | decide | omega)) rfl (D.g20) passV (va_cons (ve_call (ok__law_r_handed D) (hr.mono (by first | decide | omega)) rfl (D.g22) passV (va_cons (ve_var (i := 0) rfl (Or.inl rfl)) (va_cons (ve_var (i := 1) rfl (Or.inr (Or.inl rfl))) va_nil))) (va_cons (ve_var (i := 2) rfl (Or.inr (Or.inl rfl))) va_nil))))
    (vb_cons (vs_if (VW.vt (vw_or (vt_val (ve_isi D.tab D.isi rfl (D.n5) (ve_var (i := 3) rfl (Or.inl rfl)) (tg_ty rfl (D.n8) (by decide +kernel)))) (vw_or (vt_not (vt_val (ve_isi D.tab D.isi rfl (D.n5) (ve_var (i := 3) rfl (Or.inl rfl)) (tg_ty rfl (D.n3) (by decide +kernel))))) (vw_or1 (vt_cmp op_lt (o2_cmp (p := fun i j => decide (i < j))) (ve_var (i := 3) rfl (Or.inl rfl)) ve_int (nomark _)))))) (vb_one (vs_ret ve_bl)) vb_nil)
    (vb_cons (vs_setLcF (own := [("_law_k", 5)]) (i := 4) rfl sc__law_needed_right.nd rfl rfl (sw_true rfl rfl rfl (by decide +kernel)) (vi_range1 rfl (D.n1) (va_cons (ve_op or_add o2_add (ve_var (i := 3) rfl (Or.inl rfl)) ve_int) va_nil)) (blkOk_by (by kernel_rfl)) (by decide) (fun _ _ _ _ _ => (vgw_name (i := 5) sc__law_needed_right.nd rfl (Or.inl rfl))) (fun _ _ _ _ _ => vts_nil) (fun _ _ _ _ _ => (ve_ix (ve_call (ok__law_t_both D) (hr.mono (by first | decide | omega)) rfl (D.g24) passV (va_cons (ve_op or_add o2_add (ve_var (i := 1) rfl (Or.inr (Or.inl rfl))) (ve_op or_mul o2_mul (ve_str (by decide +kernel)) (ve_var (i := 5) rfl (Or.inl rfl)))) (va_cons (ve_var (i := 2) rfl (Or.inr (Or.inl rfl))) va_nil))) ve_int)))
    (vb_cons (vs_if (VW.vt (vw_or (vt_cmp op_ge (o2_cmp (p := fun i j => decide (j ≤ i))) (ve_ix (ve_var (i := 4) rfl (Or.inl rfl)) (ve_un un_neg o1_neg ve_int)) ve_int (nomark _)) (vw_or1 (vt_val (ve_callB (cr_any rfl) on_any rfl (D.n12) (by decide +kernel) (va_cons (ve_frz (ve_lc (own := [("_law_one", 6)]) rfl sc__law_needed_right.nd (vi_any (ve_sl (ve_var (i := 4) rfl (Or.inl rfl)) vo_none (vo_some (ve_un un_neg o1_neg ve_int)))) (blkOk_by (by kernel_rfl)) (by decide) (fun _ _ _ _ _ => (vgw_name (i := 6) sc__law_needed_right.nd rfl (Or.inl rfl))) (fun _ _ _ _ _ => vts_nil) (fun _ _ _ _ _ => (ve_cmp op_lt (o2_cmp (p := fun i j => decide (i < j))) (ve_var (i := 6) rfl (Or.inl rfl)) ve_int (nomark _))))) va_nil)))))) (vb_one (vs_ret ve_bl)) vb_nil)
    (vb_cons (vs_if (VW.vt (vw_and (vt_cmp op_gt (o2_cmp (p := fun i j => decide (j < i))) (ve_var (i := 3) rfl (Or.inl rfl)) ve_int (nomark _)) (vw_and1 (vt_val (ve_callB (cr_any rfl) on_any rfl (D.n12) (by decide +kernel) (va_cons (ve_frz (ve_lc (own := [("_law_k", 5)]) rfl sc__law_needed_right.nd (vi_range1 rfl (D.n1) (va_cons ve_int va_nil)) (blkOk_by (by kernel_rfl)) (by decide) (fun _ _ _ _ _ => (vgw_name (i := 5) sc__law_needed_right.nd rfl (Or.inl rfl))) (fun _ _ _ _ _ => vts_nil) (fun _ _ _ _ _ => (ve_cmp op_lt (o2_cmp (p := fun i j => decide (i < j))) (ve_ix (ve_call (ok__law_t_both D) (hr.mono (by first | decide | omega)) rfl (D.g24) passV (va_cons (ve_op or_add o2_add (ve_var (i := 1) rfl (Or.inr (Or.inl rfl))) (ve_op or_mul o2_mul (ve_str (by decide +kernel)) (ve_var (i := 5) rfl (Or.inl rfl)))) (va_cons (ve_var (i := 2) rfl (Or.inr (Or.inl rfl))) va_nil))) ve_int) ve_int (nomark _))))) va_nil)))))) (vb_one (vs_ret ve_bl)) vb_nil)
    (vb_one (vs_if (VW.vt (vw_and (vt_cmp op_gt (o2_cmp (p := fun i j => decide (j < i))) (ve_var (i := 3) rfl (Or.inl rfl)) ve_int (nomark _)) (vw_and1 (vt_cmp op_lt (o2_cmp (p := fun i j => decide (i < j))) (ve_call (ok_margin D) (hr.mono (by first | decide | omega)) rfl (D.g25) passV (va_cons (ve_op or_add o2_add (ve_var (i := 1) rfl (Or.inr (Or.inl rfl))) (ve_op or_mul o2_mul (ve_str (by decide +kernel)) ve_int)) (va_cons (ve_var (i := 2) rfl (Or.inr (Or.inl rfl))) va_nil))) ve_int (nomark _))))) (vb_one (vs_ret ve_bl)) vb_nil))))))))
    (vb_one (vs_ret ve_bl)))
theorem ok__law_needed_right {P : Program} {w : World} {K : PySem.W.Frag} {mg : Str → Option Value} {base : Heap} (D : Facts K mg) : Fn P w K mg base T CX0 8 (He.ga K "_law_needed_right") m__law_needed_right := by
  obtain ⟨fd, F⟩ := D.d__law_needed_right
  exact Fn.plain (fo__law_needed_right D F) (F.bindsN fun _ _ _ _ _ _ us hl => match us, hl with | [_, _], _ => rfl) F.kp
/-! last_below -/
theorem sc_last_below : FnScope ["row", "number", "low", "high", "middle"] ["row", "number"] (defScope s_last_below) := ⟨rfl, rfl, rfl, by decide +kernel, rfl, by decide +kernel, by decide +kernel⟩
def t_last_below : TSv :=
  (bCons (sPar2 2 3 (aCons (eC (.int 0)) (aCons (eLenO 1 m_Row___len__ (eVar 0)) aNil)))
    (bCons (whileF (tVal (eOp2 ltF (eVar 2) (eVar 3))) (bCons (sSet 4 (eOp2 fdivF (eOp2 addF (eOp2 addF (eVar 2) (eVar 3)) (eC (.int 1))) (eC (.int 2))))
    (sIf (tVal (eOp2 ltF (eIx (eCall m_both (aCons (eVar 0) (aCons (eVar 4) aNil))) (eC (.int 1))) (eVar 1))) (sSet 2 (eVar 4)) (sSet 3 (eOp2 subF (eVar 4) (eC (.int 1)))))) fuel)
    (sRet (eVar 2))))
def m_last_below : FnM := fnM 2 5 t_last_below
theorem fo_last_below {P : Program} {w : World} {K : PySem.W.Frag} {mg : Str → Option Value} {base : Heap} (D : Facts K mg) {fd : FuncData} (F : FunD K "last_below" "last_below" (defArgs s_last_below) (defBody s_last_below) (defScope s_last_below) [] [] (He.ga K "last_below") fd) : FnOk P w K mg base CX0 7 (He.ga K "last_below") fd ["row", "number"] (spM K T m_last_below) := fn_v0 F sc_last_below fun cdv A outer s H E E' hr =>
    (vb_cons (vs_par2 (i := 2) (j := 3) rfl sc_last_below.nd rfl rfl (by decide) rfl rfl (va_cons ve_int (va_cons (ve_lenO (c := 1) (D.me0) (ok_Row___len__ D) (hr.mono (by first | decide | omega)) passV rfl (D.n4) (ve_var (i := 0) rfl (Or.inl rfl))) va_nil)) (by kernel_rfl))
    (vb_cons (vs_while fuel PassesOwn.never (vt_cmp op_lt (o2_cmp (p := fun i j => decide (i < j))) (ve_var (i := 2) rfl (Or.inl rfl)) (ve_var (i := 3) rfl (Or.inl rfl)) (nomark _)) (vb_cons (vs_set (i := 4) sc_last_below.nd rfl (Or.inl rfl) (ve_op op_fdivW o2_fdiv (ve_op or_add o2_add (ve_op or_add o2_add (ve_var (i := 2) rfl (Or.inl rfl)) (ve_var (i := 3) rfl (Or.inl rfl))) ve_int) ve_int))
    (vb_one (vs_if (vt_cmp op_lt (o2_cmp (p := fun i j => decide (i < j))) (ve_ix (ve_call (ok_both D) (hr.mono (by first | decide | omega)) rfl (D.g19) passV (va_cons (ve_var (i := 0) rfl (Or.inl rfl)) (va_cons (ve_var (i := 4) rfl (Or.inl rfl)) va_nil))) ve_int) (ve_var (i := 1) rfl (Or.inl rfl)) (nomark _)) (vb_one (vs_set (i := 2) sc_last_below.nd rfl (Or.inl rfl) (ve_var (i := 4) rfl (Or.inl rfl)))) (vb_one (vs_set (i := 3) sc_last_below.nd rfl (Or.inl rfl) (ve_op op_sub o2_sub (ve_var (i := 4) rfl (Or.inl rfl)) ve_int)))))))
    (vb_one (vs_ret (ve_var (i := 2) rfl (Or.inl rfl))))))
theorem ok_last_below {P : Program} {w : World} {K : PySem.W.Frag} {mg : Str → Option Value} {base : Heap} (D : Facts K mg) : Fn P w K mg base T CX0 7 (He.ga K "last_below") m_last_below := by
  obtain ⟨fd, F⟩ := D.d_last_below
  exact Fn.plain (fo_last_below D F) (F.bindsN fun _ _ _ _ _ _ us hl => match us, hl with | [_, _], _ => rfl) F.kp
/-! sure -/
theorem sc_sure : FnScope ["row", "gain", "whole"] ["row", "gain"] (defScope s_sure) := ⟨rfl, rfl, rfl, by decide +kernel, rfl, by decide +kernel, by decide +kernel⟩
def t_sure : TSv :=
  (bCons (sSet 2 (eCall m_row_of (aCons (eVar 0) aNil)))
    (bCons (sIf (tAndV (tVal (eOp2 notNF (eVar 1) (eC .non))) (tOrV (tNotV (tVal (eCall m_is_integer (aCons (eVar 1) aNil)))) (tVal (eOp2 ltF (eVar 1) (eC (.int 0)))))) sNever bNil)
    (sRet (eIf (tVal (eOp2 isNF (eVar 1) (eC .non))) (eC (.int 0)) (eCall m_last_below (aCons (eVar 2) (aCons (eOp1 negF (eVar 1)) aNil)))))))
def m_sure : FnM := fnM 2 3 t_sure
theorem fo_sure {P : Program} {w : World} {K : PySem.W.Frag} {mg : Str → Option Value} {base : Heap} (D : Facts K mg) {fd : FuncData} (F : FunD K "sure" "sure" (defArgs s_sure) (defBody s_sure) (defScope s_sure) [] [] (He.ga K "sure") fd) : FnOk P w K mg base CX0 8 (He.ga K "sure") fd ["row", "gain"] (spM K T m_sure) := fn_v0 F sc_sure fun cdv A outer s H E E' hr =>
    (vb_cons (vs_set (i := 2) sc_sure.nd rfl (Or.inl rfl) (ve_call (ok_row_of D) (hr.mono (by first | decide | omega)) rfl (D.g9) passV (va_cons (ve_var (i := 0) rfl (Or.inl rfl)) va_nil)))
    (vb_cons (vs_if (VW.vt (vw_and (vt_cmp or_isnot o2_isnot (ve_var (i := 1) rfl (Or.inl rfl)) ve_non (nomark _)) (vw_and1 (VW.vt (vw_or (vt_not (vt_val (ve_call (ok_is_integer D) (hr.mono (by first | decide | omega)) rfl (D.g10) passV (va_cons (ve_var (i := 1) rfl (Or.inl rfl)) va_nil)))) (vw_or1 (vt_cmp op_lt (o2_cmp (p := fun i j => decide (i < j))) (ve_var (i := 1) rfl (Or.inl rfl)) ve_int (nomark _)))))))) (vb_one vs_never) vb_nil)
    (vb_one (vs_ret (ve_if (vt_cmp or_is o2_is (ve_var (i := 1) rfl (Or.inl rfl)) ve_non (nomark _)) ve_int (ve_call (ok_last_below D) (hr.mono (by first | decide | omega)) rfl (D.g27) passV (va_cons (ve_var (i := 2) rfl (Or.inl rfl)) (va_cons (ve_un un_neg o1_neg (ve_var (i := 1) rfl (Or.inl rfl))) va_nil))))))))
theorem ok_sure {P : Program} {w : World} {K : PySem.W.Frag} {mg : Str → Option Value} {base : Heap} (D : Facts K mg) : Fn P w K mg base T CX0 8 (He.ga K "sure") m_sure := by
  obtain ⟨fd, F⟩ := D.d_sure
  exact Fn.plain (fo_sure D F) (F.bindsN fun _ _ _ _ _ _ us hl => match us, hl with | [_, _], _ => rfl) F.kp
/-! _law_same -/
theorem sc__law_same : FnScope ["_law_found", "_law_due", "_law_x", "_law_y"] ["_law_found", "_law_due"] (defScope s__law_same) := ⟨rfl, rfl, rfl, by decide +kernel, rfl, by decide +kernel, by decide +kernel⟩
def t__law_same (r : FnM) : TSv :=
  (bCons (sIf (tVal (eIsi [.lst, .tup] (eVar 1))) (bCons (sIf (tOrV (tVal (eOp2 neF (eIsi [.lst] (eVar 0)) (eIsi [.lst] (eVar 1)))) (tVal (eOp2 neF (eIsi [.tup] (eVar 0)) (eIsi [.tup] (eVar 1))))) (sRet (eC (.bl false))) bNil)
    (sRet (eAnd (eOp2 eqF (eCB (g1 lenF) (aCons (eVar 0) aNil)) (eCB (g1 lenF) (aCons (eVar 1) aNil))) (eCB (g1 allB) (aCons (eFrz (eLc (iZip (aCons (eVar 0) (aCons (eVar 1) aNil))) (gTp (gsCons (gNm 2) (gsCons (gNm 3) gsNil))) tYesV (eCall r (aCons (eVar 2) (aCons (eVar 3) aNil))) [2, 3])) aNil))))) bNil)
    (bCons (sIf (tVal (eIsi [.int] (eVar 1))) (sRet (eAnd (eIsi [.int] (eVar 0)) (eAnd (eOp2 eqF (eIsi [.bl] (eVar 0)) (eIsi [.bl] (eVar 1))) (eOp2 eqF (eVar 0) (eVar 1))))) bNil)
    (sRet (eAnd (eOp2 isNF (eIsi [.int, .lst, .tup] (eVar 0)) (eC (.bl false))) (eOp2 eqF (eVar 0) (eVar 1))))))
def m__law_same : Nat → FnM
  | 0 => fnM 2 4 bStuck
  | n + 1 => fnM 2 4 (t__law_same (m__law_same n))
theorem ok__law_same {P : Program} {w : World} {K : PySem.W.Frag} {mg : Str → Option Value} {base : Heap} (D : Facts K mg) : ∀ n, Fn P w K mg base T CX0 (1 + n) (He.ga K "_law_same") (m__law_same n)
  | 0 => by
    obtain ⟨fd, F⟩ := D.d__law_same
    have h : FnOk P w K mg base CX0 1 (He.ga K "_law_same") fd ["_law_found", "_law_due"] (spM K T (m__law_same 0)) := fn_v0 F sc__law_same fun cdv A outer s H E E' hr => vb_stuck
    exact Fn.plain h (F.bindsN fun _ _ _ _ _ _ us hl => match us, hl with | [_, _], _ => rfl) F.kp
  | n + 1 => by
    have ih := ok__law_same (P := P) (w := w) (base := base) D n
    obtain ⟨fd, F⟩ := D.d__law_same
    generalize hm : m__law_same n = r at ih
    have h : FnOk P w K mg base CX0 (1 + n + 1) (He.ga K "_law_same") fd ["_law_found", "_law_due"] (spM K T (fnM 2 4 (t__law_same r))) := fn_v0 F sc__law_same fun cdv A outer s H E E' hr =>
    (vb_cons (vs_if (vt_val (ve_isiT D.tab D.isi rfl (D.n5) (ve_var (i := 1) rfl (Or.inl rfl)) (.cons (tg_ty rfl (D.n0) (by decide +kernel)) rfl (.cons (tg_ty rfl (D.n13) (by decide +kernel)) rfl .nil)))) (vb_cons (vs_if (VW.vt (vw_or (vt_cmp (or_ne (hu64 hr)) o2_ne (ve_isi D.tab D.isi rfl (D.n5) (ve_var (i := 0) rfl (Or.inl rfl)) (tg_ty rfl (D.n0) (by decide +kernel))) (ve_isi D.tab D.isi rfl (D.n5) (ve_var (i := 1) rfl (Or.inl rfl)) (tg_ty rfl (D.n0) (by decide +kernel))) (nomark _)) (vw_or1 (vt_cmp (or_ne (hu64 hr)) o2_ne (ve_isi D.tab D.isi rfl (D.n5) (ve_var (i := 0) rfl (Or.inl rfl)) (tg_ty rfl (D.n13) (by decide +kernel))) (ve_isi D.tab D.isi rfl (D.n5) (ve_var (i := 1) rfl (Or.inl rfl)) (tg_ty rfl (D.n13) (by decide +kernel))) (nomark _))))) (vb_one (vs_ret ve_bl)) vb_nil)
    (vb_one (vs_ret (ve_and (ve_cmp (or_eq (hu64 hr)) o2_eq (ve_callB cr_len on_len rfl (D.n4) (by decide +kernel) (va_cons (ve_var (i := 0) rfl (Or.inl rfl)) va_nil)) (ve_callB cr_len on_len rfl (D.n4) (by decide +kernel) (va_cons (ve_var (i := 1) rfl (Or.inl rfl)) va_nil)) (nomark _)) (ve_one (ve_callB (cr_all rfl) on_all rfl (D.n14) (by decide +kernel) (va_cons (ve_frz (ve_lc (own := [("_law_x", 2), ("_law_y", 3)]) rfl sc__law_same.nd (vi_zip rfl (D.n10) (va_cons (ve_var (i := 0) rfl (Or.inl rfl)) (va_cons (ve_var (i := 1) rfl (Or.inl rfl)) va_nil))) (blkOk_by (by kernel_rfl)) (by decide) (fun _ _ _ _ _ => (vgw_tup rfl (vgsw_cons (vgw_name (i := 2) sc__law_same.nd rfl (Or.inl rfl)) (vgsw_cons (vgw_name (i := 3) sc__law_same.nd rfl (Or.inl rfl)) vgsw_nil)) (gsCons_len (gsCons_len (fun _ _ _ h => gsNil_len h))))) (fun _ _ _ _ _ => vts_nil) (fun _ _ _ _ _ => (ve_call (ih) hr rfl (D.g29) passV (va_cons (ve_var (i := 2) rfl (Or.inl rfl)) (va_cons (ve_var (i := 3) rfl (Or.inl rfl)) va_nil)))))) va_nil))))))) vb_nil)
    (vb_cons (vs_if (vt_val (ve_isi D.tab D.isi rfl (D.n5) (ve_var (i := 1) rfl (Or.inl rfl)) (tg_ty rfl (D.n3) (by decide +kernel)))) (vb_one (vs_ret (ve_and (ve_isi D.tab D.isi rfl (D.n5) (ve_var (i := 0) rfl (Or.inl rfl)) (tg_ty rfl (D.n3) (by decide +kernel))) (ve_and (ve_cmp (or_eq (hu64 hr)) o2_eq (ve_isi D.tab D.isi rfl (D.n5) (ve_var (i := 0) rfl (Or.inl rfl)) (tg_ty rfl (D.n8) (by decide +kernel))) (ve_isi D.tab D.isi rfl (D.n5) (ve_var (i := 1) rfl (Or.inl rfl)) (tg_ty rfl (D.n8) (by decide +kernel))) (nomark _)) (ve_one (ve_cmp (or_eq (hu64 hr)) o2_eq (ve_var (i := 0) rfl (Or.inl rfl)) (ve_var (i := 1) rfl (Or.inl rfl)) (nomark _))))))) vb_nil)
    (vb_one (vs_ret (ve_and (ve_cmp or_is o2_is (ve_isiT D.tab D.isi rfl (D.n5) (ve_var (i := 0) rfl (Or.inl rfl)) (.cons (tg_ty rfl (D.n3) (by decide +kernel)) rfl (.cons (tg_ty rfl (D.n0) (by decide +kernel)) rfl (.cons (tg_ty rfl (D.n13) (by decide +kernel)) rfl .nil)))) ve_bl (nomark _)) (ve_one (ve_cmp (or_eq (hu64 hr)) o2_eq (ve_var (i := 0) rfl (Or.inl rfl)) (ve_var (i := 1) rfl (Or.inl rfl)) (nomark _))))))))
    have e : m__law_same (n + 1) = fnM 2 4 (t__law_same r) := by rw [← hm]; rfl
    rw [e]
    exact Fn.plain h (F.bindsN fun _ _ _ _ _ _ us hl => match us, hl with | [_, _], _ => rfl) F.kp
/-! firm -/
theorem sc_firm : FnScope ["row"] ["row"] (defScope s_firm) := ⟨rfl, rfl, rfl, by decide +kernel, rfl, by decide +kernel, by decide +kernel⟩
def t_firm : TSv :=
  (sRet (eCall m_last_below (aCons (eCall m_row_of (aCons (eVar 0) aNil)) (aCons (eC (.int 0)) aNil))))
def m_firm : FnM := fnM 1 1 t_firm
theorem fo_firm {P : Program} {w : World} {K : PySem.W.Frag} {mg : Str → Option Value} {base : Heap} (D : Facts K mg) {fd : FuncData} (F : FunD K "firm" "firm" (defArgs s_firm) (defBody s_firm) (defScope s_firm) [] [] (He.ga K "firm") fd) : FnOk P w K mg base CX0 8 (He.ga K "firm") fd ["row"] (spM K T m_firm) := fn_v0 F sc_firm fun cdv A outer s H E E' hr =>
    (vb_one (vs_ret (ve_call (ok_last_below D) (hr.mono (by first | decide | omega)) rfl (D.g27) passV (va_cons (ve_call (ok_row_of D) (hr.mono (by first | decide | omega)) rfl (D.g9) passV (va_cons (ve_var (i := 0) rfl (Or.inl rfl)) va_nil)) (va_cons ve_int va_nil)))))
theorem ok_firm {P : Program} {w : World} {K : PySem.W.Frag} {mg : Str → Option Value} {base : Heap} (D : Facts K mg) : Fn P w K mg base T CX0 8 (He.ga K "firm") m_firm := by
  obtain ⟨fd, F⟩ := D.d_firm
  exact Fn.plain (fo_firm D F) (F.bindsN fun _ _ _ _ _ _ us hl => match us, hl with | [_], _ => rfl) F.kp
/-! law -/
theorem sc_law : FnScope ["_law_script", "_law_stream", "_law_words", "_law_turn", "_law_text", "_law_gain_here", "_law_told", "_law_some", "_law_word", "_law_more"] ["_law_script"] (defScope s_law) := ⟨rfl, rfl, rfl, by decide +kernel, rfl, by decide +kernel, by decide +kernel⟩
def t_law : TSv :=
  (bCons (sSet 1 (eCall m__law_start (aCons (eVar 0) aNil)))
    (bCons (sSet 2 (eFrz (eLc (iAny (eCall m__law_r_words (aCons (eC (.int 4)) aNil))) (gNm 8) tYesV (eTup (aCons (eVar 8) (aCons (eCall m__law_gain (aCons (eVar 8) aNil)) aNil))) [8])))
    (bCons (sFor (iRange1 (aCons (eC (.int 3)) aNil)) (gNm 3) (bCons (sSet 4 (eCall m__law_t_row (aCons (eVar 1) (aCons (eC (.int 10)) aNil))))
    (bCons (sIf (tNotV (tVal (eCall m__law_needed_right (aCons (eVar 1) (aCons (eVar 4) aNil))))) (sRet (eC (.bl false))) bNil)
    (bCons (sFor (iRange1 (aCons (eC (.int 5)) aNil)) (gNm 5) (bCons (sSet 6 (eCall m_sure (aCons (eCall m__law_r_handed (aCons (eVar 1) (aCons (eVar 4) aNil))) (aCons (eVar 5) aNil))))
    (bCons (sIf (tOrV (tVal (eIsi [.bl] (eVar 6))) (tOrV (tNotV (tVal (eIsi [.int] (eVar 6)))) (tNotV (tVal (eChain leF leF (eC (.int 0)) (eVar 6) (eCB (g1 lenF) (aCons (eVar 4) aNil))))))) (sRet (eC (.bl false))) bNil)
    (bCons (sSet 7 (eFrz (eLc (iAny (eVar 2)) (gTp (gsCons (gNm 8) (gsCons (gNm 9) gsNil))) (tVal (eOp2 leF (eVar 9) (eVar 5))) (eVar 8) [8, 9])))
    (bCons (sIf (tAndV (tVal (eOp2 gtF (eVar 6) (eC (.int 0)))) (tVal (eCB (g1 anyF) (aCons (eFrz (eLc (iAny (eVar 7)) (gNm 8) tYesV (eOp2 geF (eIx (eCall m__law_t_both (aCons (eOp2 addF (eVar 4) (eVar 8)) (aCons (eVar 6) aNil))) (eC (.int 1))) (eC (.int 0))) [8])) aNil)))) (sRet (eC (.bl false))) bNil)
    (sIf (tAndV (tVal (eOp2 ltF (eVar 6) (eCB (g1 lenF) (aCons (eVar 4) aNil)))) (tVal (eOp2 ltF (eIx (eCall m__law_t_both (aCons (eOp2 addF (eVar 4) (eOp2 mulF (eC (.str [65])) (eVar 5))) (aCons (eOp2 addF (eVar 6) (eC (.int 1))) aNil))) (eC (.int 1))) (eC (.int 0))))) (sRet (eC (.bl false))) bNil))))))
    (sIf (tOrV (tVal (eOp2 neF (eCall m_sure (aCons (eVar 4) (aCons (eC .non) aNil))) (eC (.int 0)))) (tNotV (tVal (eCall (m__law_same 8) (aCons (eCall m_sure (aCons (eVar 4) (aCons (eC (.int 0)) aNil))) (aCons (eCall m_firm (aCons (eVar 4) aNil)) aNil)))))) (sRet (eC (.bl false))) bNil)))))
    (sRet (eAnd (eOp2 eqF (eCall m_needed (aCons (eC (.str [104])) (aCons (eC (.int 1)) aNil))) (eC (.int 0))) (eAnd (eOp2 eqF (eCall m_needed (aCons (eC (.str [65])) (aCons (eC (.int 1)) aNil))) (eC (.int 2))) (eAnd (eOp2 eqF (eCall m_needed (aCons (eC (.str [72])) (aCons (eC (.int 1)) aNil))) (eC (.int 1))) (eOp2 eqF (eCall m_needed (aCons (eC (.str [46])) (aCons (eC (.int 1)) aNil))) (eC (.int 1))))))))))
def m_law : FnM := fnM 1 10 t_law
theorem fo_law {P : Program} {w : World} {K : PySem.W.Frag} {mg : Str → Option Value} {base : Heap} (D : Facts K mg) {fd : FuncData} (F : FunD K "law" "law" (defArgs s_law) (defBody s_law) (defScope s_law) [] [] (He.ga K "law") fd) : FnOk P w K mg base CX0 10 (He.ga K "law") fd ["_law_script"] (spM K T m_law) := fn_v0 F sc_law fun cdv A outer s H E E' hr =>
    (vb_cons (vs_set (i := 1) sc_law.nd rfl (Or.inl rfl) (ve_call (ok__law_start D) (hr.mono (by first | decide | omega)) rfl (D.g0) passV (va_cons (ve_var (i := 0) rfl (Or.inl rfl)) va_nil)))
    (vb_cons (vs_setLcF (own := [("_law_word", 8)]) (i := 2) rfl sc_law.nd rfl rfl (sw_true rfl rfl rfl (by decide +kernel)) (vi_any (ve_call (ok__law_r_words D) (hr.mono (by first | decide | omega)) rfl (D.g1) passV (va_cons ve_int va_nil))) (blkOk_by (by kernel_rfl)) (by decide) (fun _ _ _ _ _ => (vgw_name (i := 8) sc_law.nd rfl (Or.inl rfl))) (fun _ _ _ _ _ => vts_nil) (fun _ _ _ _ _ => (ve_tup (va_cons (ve_var (i := 8) rfl (Or.inl rfl)) (va_cons (ve_call (ok__law_gain D) (hr.mono (by first | decide | omega)) rfl (D.g2) passV (va_cons (ve_var (i := 8) rfl (Or.inl rfl)) va_nil)) va_nil)))))
    (vb_cons (vs_for PassesOwn.never rfl (vi_range1 rfl (D.n1) (va_cons ve_int va_nil)) (vg_name (i := 3) sc_law.nd rfl (Or.inl rfl)) (vb_cons (vs_set (i := 4) sc_law.nd rfl (Or.inr rfl) (ve_call (ok__law_t_row D) (hr.mono (by first | decide | omega)) rfl (D.g5) passV (va_cons (ve_var (i := 1) rfl (Or.inl rfl)) (va_cons ve_int va_nil))))
    (vb_cons (vs_if (vt_not (vt_val (ve_call (ok__law_needed_right D) (hr.mono (by first | decide | omega)) rfl (D.g26) passV (va_cons (ve_var (i := 1) rfl (Or.inl rfl)) (va_cons (ve_var (i := 4) rfl (Or.inr (Or.inl rfl))) va_nil))))) (vb_one (vs_ret ve_bl)) vb_nil)
    (vb_cons (vs_for PassesOwn.never rfl (vi_range1 rfl (D.n1) (va_cons ve_int va_nil)) (vg_name (i := 5) sc_law.nd rfl (Or.inr rfl)) (vb_cons (vs_set (i := 6) sc_law.nd rfl (Or.inr rfl) (ve_call (ok_sure D) (hr.mono (by first | decide | omega)) rfl (D.g28) passV (va_cons (ve_call (ok__law_r_handed D) (hr.mono (by first | decide | omega)) rfl (D.g22) passV (va_cons (ve_var (i := 1) rfl (Or.inl rfl)) (va_cons (ve_var (i := 4) rfl (Or.inr (Or.inl rfl))) va_nil))) (va_cons (ve_var (i := 5) rfl (Or.inr (Or.inl rfl))) va_nil))))
    (vb_cons (vs_if (VW.vt (vw_or (vt_val (ve_isi D.tab D.isi rfl (D.n5) (ve_var (i := 6) rfl (Or.inr (Or.inl rfl))) (tg_ty rfl (D.n8) (by decide +kernel)))) (vw_or (vt_not (vt_val (ve_isi D.tab D.isi rfl (D.n5) (ve_var (i := 6) rfl (Or.inr (Or.inl rfl))) (tg_ty rfl (D.n3) (by decide +kernel))))) (vw_or1 (vt_not (vt_chain op_le (o2_cmp (p := fun i j => decide (i ≤ j))) op_le (o2_cmp (p := fun i j => decide (i ≤ j))) ve_int (ve_var (i := 6) rfl (Or.inr (Or.inl rfl))) (ve_callB cr_len on_len rfl (D.n4) (by decide +kernel) (va_cons (ve_var (i := 4) rfl (Or.inr (Or.inl rfl))) va_nil)))))))) (vb_one (vs_ret ve_bl)) vb_nil)
    (vb_cons (vs_setLcF (own := [("_law_word", 8), ("_law_more", 9)]) (i := 7) rfl sc_law.nd rfl rfl (sw_true rfl rfl rfl (by decide +kernel)) (vi_any (ve_var (i := 2) rfl (Or.inl rfl))) (blkOk_by (by kernel_rfl)) (by decide) (fun _ _ _ _ _ => (vgw_tup rfl (vgsw_cons (vgw_name (i := 8) sc_law.nd rfl (Or.inl rfl)) (vgsw_cons (vgw_name (i := 9) sc_law.nd rfl (Or.inl rfl)) vgsw_nil)) (gsCons_len (gsCons_len (fun _ _ _ h => gsNil_len h))))) (fun _ _ _ _ _ => (vts_one (vt_cmp op_le (o2_cmp (p := fun i j => decide (i ≤ j))) (ve_var (i := 9) rfl (Or.inl rfl)) (ve_var (i := 5) rfl (Or.inr (Or.inl rfl))) (nomark _)))) (fun _ _ _ _ _ => (ve_var (i := 8) rfl (Or.inl rfl))))
    (vb_cons (vs_if (VW.vt (vw_and (vt_cmp op_gt (o2_cmp (p := fun i j => decide (j < i))) (ve_var (i := 6) rfl (Or.inr (Or.inl rfl))) ve_int (nomark _)) (vw_and1 (vt_val (ve_callB (cr_any rfl) on_any rfl (D.n12) (by decide +kernel) (va_cons (ve_frz (ve_lc (own := [("_law_word", 8)]) rfl sc_law.nd (vi_any (ve_var (i := 7) rfl (Or.inl rfl))) (blkOk_by (by kernel_rfl)) (by decide) (fun _ _ _ _ _ => (vgw_name (i := 8) sc_law.nd rfl (Or.inl rfl))) (fun _ _ _ _ _ => vts_nil) (fun _ _ _ _ _ => (ve_cmp op_ge (o2_cmp (p := fun i j => decide (j ≤ i))) (ve_ix (ve_call (ok__law_t_both D) (hr.mono (by first | decide | omega)) rfl (D.g24) passV (va_cons (ve_op or_add o2_add (ve_var (i := 4) rfl (Or.inr (Or.inl rfl))) (ve_var (i := 8) rfl (Or.inl rfl))) (va_cons (ve_var (i := 6) rfl (Or.inr (Or.inl rfl))) va_nil))) ve_int) ve_int (nomark _))))) va_nil)))))) (vb_one (vs_ret ve_bl)) vb_nil)
    (vb_one (vs_if (VW.vt (vw_and (vt_cmp op_lt (o2_cmp (p := fun i j => decide (i < j))) (ve_var (i := 6) rfl (Or.inr (Or.inl rfl))) (ve_callB cr_len on_len rfl (D.n4) (by decide +kernel) (va_cons (ve_var (i := 4) rfl (Or.inr (Or.inl rfl))) va_nil)) (nomark _)) (vw_and1 (vt_cmp op_lt (o2_cmp (p := fun i j => decide (i < j))) (ve_ix (ve_call (ok__law_t_both D) (hr.mono (by first | decide | omega)) rfl (D.g24) passV (va_cons (ve_op or_add o2_add (ve_var (i := 4) rfl (Or.inr (Or.inl rfl))) (ve_op or_mul o2_mul (ve_str (by decide +kernel)) (ve_var (i := 5) rfl (Or.inr (Or.inl rfl))))) (va_cons (ve_op or_add o2_add (ve_var (i := 6) rfl (Or.inr (Or.inl rfl))) ve_int) va_nil))) ve_int) ve_int (nomark _))))) (vb_one (vs_ret ve_bl)) vb_nil)))))))
    (vb_one (vs_if (VW.vt (vw_or (vt_cmp (or_ne (hu64 hr)) o2_ne (ve_call (ok_sure D) (hr.mono (by first | decide | omega)) rfl (D.g28) passV (va_cons (ve_var (i := 4) rfl (Or.inr (Or.inl rfl))) (va_cons ve_non va_nil))) ve_int (nomark _)) (vw_or1 (vt_not (vt_val (ve_call (ok__law_same D 8) (hr.mono (by first | decide | omega)) rfl (D.g29) passV (va_cons (ve_call (ok_sure D) (hr.mono (by first | decide | omega)) rfl (D.g28) passV (va_cons (ve_var (i := 4) rfl (Or.inr (Or.inl rfl))) (va_cons ve_int va_nil))) (va_cons (ve_call (ok_firm D) (hr.mono (by first | decide | omega)) rfl (D.g30) passV (va_cons (ve_var (i := 4) rfl (Or.inr (Or.inl rfl))) va_nil)) va_nil)))))))) (vb_one (vs_ret ve_bl)) vb_nil))))))
    (vb_one (vs_ret (ve_and (ve_cmp (or_eq (hu64 hr)) o2_eq (ve_call (ok_needed D) (hr.mono (by first | decide | omega)) rfl (D.g20) passV (va_cons (ve_str (by decide +kernel)) (va_cons ve_int va_nil))) ve_int (nomark _)) (ve_and (ve_cmp (or_eq (hu64 hr)) o2_eq (ve_call (ok_needed D) (hr.mono (by first | decide | omega)) rfl (D.g20) passV (va_cons (ve_str (by decide +kernel)) (va_cons ve_int va_nil))) ve_int (nomark _)) (ve_and (ve_cmp (or_eq (hu64 hr)) o2_eq (ve_call (ok_needed D) (hr.mono (by first | decide | omega)) rfl (D.g20) passV (va_cons (ve_str (by decide +kernel)) (va_cons ve_int va_nil))) ve_int (nomark _)) (ve_one (ve_cmp (or_eq (hu64 hr)) o2_eq (ve_call (ok_needed D) (hr.mono (by first | decide | omega)) rfl (D.g20) passV (va_cons (ve_str (by decide +kernel)) (va_cons ve_int va_nil))) ve_int (nomark _)))))))))))
theorem ok_law {P : Program} {w : World} {K : PySem.W.Frag} {mg : Str → Option Value} {base : Heap} (D : Facts K mg) : Fn P w K mg base T CX0 10 (He.ga K "law") m_law := by
  obtain ⟨fd, F⟩ := D.d_law
  exact Fn.plain (fo_law D F) (F.bindsN fun _ _ _ _ _ _ us hl => match us, hl with | [_], _ => rfl) F.kp
end LB

set_option Elab.async false
set_option linter.all false
set_option maxRecDepth 100000
set_option maxHeartbeats 4000000
set_option autoImplicit false
namespace LB
open VS TL
open L2 (atI ixN)
/-! _law_r_words -/
def d_law_r_words (most_1 : Int) : P (List (List Nat)) :=
  (let found_3 := ([([] : List Nat)] : List (List Nat)); (let last_5 := ([([] : List Nat)] : List (List Nat)); (O.bind (rg1 most_1 ()) fun l_29 _ => O.bind (foldO (fun i_8 (v_7 : (List (List Nat)) × (List (List Nat))) _ => (let longer_11 := ([] : List (List Nat)); (O.bind (foldO (fun i_14 (v_13 : (List (List Nat))) _ => (O.bind (O.bind (smL (([104, 72, 46, 65] : List Nat).map Ch.mk) ()) fun l_28 _ => mapO (fun x_16 _ => (ofO (addS i_14 [x_16.c]) ())) l_28 ()) fun y_27 _ => O.bind (extO v_13 y_27 ()) fun longer_17 _ =>
    (.ok longer_17 ()))) v_7.1 longer_11 ()) fun v_19 _ =>
    (let last_21 := v_19; (O.bind (extO v_7.2 last_21 ()) fun found_23 _ =>
    (.ok (last_21, found_23) ())))))) l_29 (last_5, found_3) ()) fun v_25 _ =>
    (.ok v_25.2 ()))))
/-! _law_gain -/
def d_law_gain (text_32 : List Nat) : P (Int) :=
  (let found_33 := (0 : Int); (let here_35 := (0 : Int); (O.bind (foldO (fun i_38 (v_37 : (Int) × (Int)) _ => (O.bind (O.bind (O.bind (dispO [((Ch.mk 65), (1 : Int)), ((Ch.mk 46), (0 : Int))] ()) fun x_47 _ => .ok ((lookD x_47.l i_38).getD (-(1 : Int))) ()) fun x_46 _ => .ok ((v_37.1 + x_46)) ()) fun here_40 _ =>
    (let found_42 := (if here_40 > v_37.2 then here_40 else v_37.2); (.ok (here_40, found_42) ())))) (text_32.map Ch.mk) (here_35, found_33) ()) fun v_44 _ =>
    (.ok v_44.2 ()))))
/-! _law_draw -/
def d_law_draw (many_55 : Int) (s_0 : Sp) : O Sp (Int) :=
  (O.bind (O.bind (.ok s_0.cnt s_0) fun x_78 s_79 => .ok ((x_78 + (1 : Int))) s_79) fun a_56 s_57 => let s_58 : Sp := { s_57 with cnt := a_56 }; (O.bind (O.bind (O.bind (.ok s_58.big s_58) fun x_84 s_85 => .ok ((decide (x_84 = (0 : Int)))) s_85) fun b_82 s_83 => if b_82 = true then (.ok (!s_83.cells.isEmpty) s_83) else .ok false s_83) fun b_80 s_81 => O.bind (if b_80 = true then (match s_81.cells with
    | [] => .no
    | cell_59 :: l_60 => let s_67 : Sp := { s_81 with cells := l_60 }; (O.bind (O.bind (O.bind (O.bind (O.bind (O.bind (.ok s_67.mix s_67) fun x_94 s_95 => ofO (mulO x_94 (8191 : Int)) s_95) fun x_92 s_93 => .ok ((x_92 + cell_59)) s_93) fun x_90 s_91 => .ok ((x_90 + (3 : Int))) s_91) fun x_88 s_89 => .ok (x_88) s_89) fun x_86 s_87 => ofO (modO x_86 (2147483647 : Int)) s_87) fun a_61 s_62 => let s_63 : Sp := { s_62 with mix := a_61 }; (O.bind (O.bind (O.bind (ofO (powO (10 : Int) (18 : Int)) s_63) fun x_98 s_99 => .ok ((decide (x_98 ≤ cell_59))) s_99) fun b_96 s_97 => if b_96 = true then (.ok cell_59 s_97) else (.ok (0 : Int) s_97)) fun a_64 s_65 => let s_66 : Sp := { s_65 with big := a_64 }; (.ok () s_66)))) else (.ok () s_81)) fun v_68 s_69 =>
    (O.bind (O.bind (.ok s_69.big s_69) fun x_102 s_103 => .ok ((decide ((0 : Int) < x_102))) s_103) fun b_100 s_101 => if b_100 = true then (O.bind (O.bind (O.bind (.ok s_101.big s_101) fun x_106 s_107 => .ok (x_106) s_107) fun x_104 s_105 => ofO (modO x_104 many_55) s_105) fun digit_71 s_72 =>
    (O.bind (O.bind (.ok s_72.big s_72) fun x_108 s_109 => ofO (divO x_108 many_55) s_109) fun a_73 s_74 => let s_75 : Sp := { s_74 with big := a_73 }; (.ok digit_71 s_75))) else
    (O.bind (O.bind (O.bind (O.bind (O.bind (O.bind (.ok s_101.mix s_101) fun x_118 s_119 => O.bind (O.bind (.ok s_119.cnt s_119) fun x_122 s_123 => ofO (mulO (7919 : Int) x_122) s_123) fun x_120 s_121 => .ok ((x_118 + x_120)) s_121) fun x_116 s_117 => .ok ((x_116 + (104729 : Int))) s_117) fun x_114 s_115 => ofO (powO x_114 (5 : Int)) s_115) fun x_112 s_113 => .ok (x_112) s_113) fun x_110 s_111 => ofO (modO x_110 (2147483629 : Int)) s_111) fun mixed_76 s_77 =>
    (O.bind (O.bind (O.bind (O.bind (O.bind (O.bind (ofO (mulO mixed_76 (48271 : Int)) s_77) fun x_134 s_135 => O.bind (O.bind (.ok s_135.cnt s_135) fun x_138 s_139 => ofO (mulO (30011 : Int) x_138) s_139) fun x_136 s_137 => .ok ((x_134 + x_136)) s_137) fun x_132 s_133 => .ok ((x_132 + (29 : Int))) s_133) fun x_130 s_131 => ofO (powO x_130 (3 : Int)) s_131) fun x_128 s_129 => .ok (x_128) s_129) fun x_126 s_127 => ofO (modO x_126 (1000000007 : Int)) s_127) fun x_124 s_125 => ofO (modO x_124 many_55) s_125)))))
/-! _law_pick -/
def d_law_pick_sls (some_54 : List (List Nat)) (s_0 : Sp) : O Sp (List Nat) :=
  (O.bind (d_law_draw (((some_54).length : Int)) s_0) fun x_140 s_141 => ofO (atI some_54 x_140) s_141)
/-! _law_pick -/
def d_law_pick_ss (some_146 : List Nat) (s_0 : Sp) : O Sp (Ch) :=
  (O.bind (O.bind (ofO (lenS some_146) s_0) fun x_149 s_150 => d_law_draw (x_149) s_150) fun x_147 s_148 => ofO (ixS some_146 x_147) s_148)
/-! _law_t_row -/
def d_law_t_row (most_53 : Int) (s_0 : Sp) : O Sp (List Nat) :=
  (O.bind (d_law_pick_sls (([([104, 72, 46, 65] : List Nat), ([104, 65] : List Nat), ([104, 104, 65] : List Nat), ([104, 72, 65] : List Nat), ([72, 65] : List Nat), ([104, 46, 65] : List Nat), ([104, 104, 104, 72, 46, 65] : List Nat), ([65, 46] : List Nat), ([104, 72] : List Nat), ([104, 65, 65] : List Nat), ([72, 72, 65, 65] : List Nat)] : List (List Nat))) s_0) fun menu_142 s_143 =>
    (O.bind (O.bind (O.bind (d_law_draw ((most_53 + (1 : Int))) s_143) fun x_157 s_158 => rg1 x_157 s_158) fun l_155 s_156 => O.bind (smL l_155 s_156) fun l_153 s_154 => mapO (fun x_144 s_145 => (d_law_pick_ss (menu_142) s_145)) l_153 s_154) fun x_151 s_152 => ofO (joinCh ([] : List Nat) x_151) s_152))
/-! check_kinds -/
def d_check_kinds_s (kinds_173 : List Nat) : P (Unit) :=
  (O.bind (foldO (fun i_175 (v_174 : Unit) _ => (if (!decide (i_175.2.c ∈ ([104, 72, 46, 65] : List Nat))) = true then .no else
    (.ok () ()))) (enI 0 (kinds_173.map Ch.mk)) () ()) fun v_178 _ =>
    (.ok () ()))
structure Row where
  pieces : List ((List Nat) × (Int))
deriving DecidableEq
instance : En Row := ⟨fun x => F.obj 1 [(1, En.e x.pieces)]⟩
instance : NN Row := ⟨fun _ => rfl⟩
/-! Row.__init__ -/
def d_Row__init_s (text_172 : List Nat) : P (Row) :=
  (O.bind (d_check_kinds_s (text_172)) fun _ _ =>
    (let pieces_181 := (if (!decide (text_172 = ([] : List Nat))) = true then ([(text_172, (1 : Int))] : List ((List Nat) × (Int))) else ([] : List ((List Nat) × (Int)))); (.ok (Row.mk (pieces_181)) ())))
/-! row_of -/
def d_row_of_Row (thing_186 : Row) : P (Row) :=
  (.ok thing_186 ())
structure Pieces where
  pairs : List ((List Nat) × (Int))
deriving DecidableEq
instance : En Pieces := ⟨fun x => F.obj 0 [(0, En.e x.pairs)]⟩
instance : NN Pieces := ⟨fun _ => rfl⟩
/-! Pieces.__init__ -/
def d_Pieces__init (pairs_187 : List ((List Nat) × (Int))) : P (Pieces) :=
  (O.bind (O.bind (smL pairs_187 ()) fun l_191 _ => .ok ((l_191.filter fun x_188 => ((!decide (x_188.1 = ([] : List Nat))) && (decide ((0 : Int) < x_188.2)))).map fun x_188 => (x_188.1, x_188.2)) ()) fun pairs_189 _ =>
    (.ok (Pieces.mk (pairs_189)) ()))
/-! Row.__init__ -/
def d_Row__init_Pieces (text_192 : Pieces) : P (Row) :=
  (let pieces_193 := text_192.pairs; (.ok (Row.mk (pieces_193)) ()))
/-! Row.__add__ -/
def d_Row__add_RowRow (self_184 : Row) (other_185 : Row) : P (Row) :=
  (O.bind (O.bind (O.bind (O.bind (d_row_of_Row (other_185)) fun x_198 _ => .ok (x_198.pieces) ()) fun x_197 _ => ofO (addL self_184.pieces x_197) ()) fun x_196 _ => d_Pieces__init (x_196)) fun x_195 _ => d_Row__init_Pieces (x_195))
/-! row_of -/
def d_row_of_s (thing_202 : List Nat) : P (Row) :=
  (d_Row__init_s (thing_202))
/-! Row.__radd__ -/
def d_Row__radd_Rows (self_200 : Row) (other_201 : List Nat) : P (Row) :=
  (O.bind (O.bind (O.bind (O.bind (d_row_of_s (other_201)) fun x_206 _ => .ok (x_206.pieces) ()) fun x_205 _ => ofO (addL x_205 self_200.pieces) ()) fun x_204 _ => d_Pieces__init (x_204)) fun x_203 _ => d_Row__init_Pieces (x_203))
/-! Row.__add__ -/
def d_Row__add_Rows (self_208 : Row) (other_209 : List Nat) : P (Row) :=
  (O.bind (O.bind (O.bind (O.bind (d_row_of_s (other_209)) fun x_213 _ => .ok (x_213.pieces) ()) fun x_212 _ => ofO (addL self_208.pieces x_212) ()) fun x_211 _ => d_Pieces__init (x_211)) fun x_210 _ => d_Row__init_Pieces (x_210))
/-! is_integer -/
def d_is_integer_i (thing_217 : Int) : P (Bool) :=
  (.ok (!false) ())
/-! Row.__len__ -/
def d_Row__len (self_218 : Row) : P (Int) :=
  (O.bind (O.bind (O.bind (smL self_218.pieces ()) fun l_222 _ => mapO (fun x_219 _ => (O.bind (ofO (lenS x_219.1) ()) fun x_223 _ => ofO (mulO x_223 x_219.2) ())) l_222 ()) fun x_221 _ => .ok ((x_221).sum) ()) fun x_220 _ => ofO (lenRg x_220) ())
/-! cut_piece -/
def d_cut_piece (word_241 : List Nat) (times_242 : Int) (begin_243 : Int) (end_244 : Int) : P (List ((List Nat) × (Int))) :=
  (O.bind (ofO (lenS word_241) ()) fun size_245 _ =>
    (O.bind (O.bind (ofO (lenS word_241) ()) fun x_254 _ => ofO (modO begin_243 x_254) ()) fun head_247 _ =>
    (O.bind (O.bind (ofO (mulO (2 : Int) size_245) ()) fun x_256 _ => .ok ((decide ((end_244 - begin_243) ≤ x_256))) ()) fun b_255 _ => if b_255 = true then (O.bind (O.bind (O.bind (ofO (mulS word_241 (4 : Int)) ()) fun x_259 _ => ofO (slS (some head_247) (some ((head_247 + end_244) - begin_243)) x_259) ()) fun x_258 _ => .ok ((x_258, (1 : Int))) ()) fun x_257 _ => lstO [x_257] ()) else
    (O.bind (if (decide ((0 : Int) < head_247)) = true then (ofO (slS (some head_247) none word_241) ()) else (.ok ([] : List Nat) ())) fun first_250 _ =>
    (O.bind (O.bind (ofO (lenS first_250) ()) fun x_260 _ => .ok (((end_244 - begin_243) - x_260)) ()) fun left_252 _ =>
    (O.bind (O.bind (ofO (divO left_252 size_245) ()) fun x_262 _ => .ok ((word_241, x_262)) ()) fun x_261 _ => O.bind (O.bind (O.bind (O.bind (ofO (modO left_252 size_245) ()) fun x_266 _ => .ok ((some x_266)) ()) fun x_265 _ => ofO (slS none x_265 word_241) ()) fun x_264 _ => .ok ((x_264, (1 : Int))) ()) fun x_263 _ => lstO [(first_250, (1 : Int)), x_261, x_263] ()))))))
/-! Row.part -/
def d_Row_part (self_214 : Row) (first_215 : Int) (last_216 : Int) : P (Row) :=
  (O.bind (O.bind (O.bind (d_is_integer_i (first_215)) fun x_277 _ => .ok ((!x_277)) ()) fun b_276 _ => if b_276 = true then .ok true () else (O.bind (if (decide ((1 : Int) ≤ first_215)) = true then O.bind (O.bind (O.bind (d_Row__len (self_214)) fun n_281 _ => lenI n_281 ()) fun x_280 _ => .ok ((x_280 + (1 : Int))) ()) fun x_279 _ => .ok (decide (first_215 ≤ x_279)) () else .ok false ()) fun x_278 _ => .ok ((!x_278)) ())) fun b_275 _ => if b_275 = true then .no else
    (O.bind (O.bind (O.bind (d_is_integer_i (last_216)) fun x_284 _ => .ok ((!x_284)) ()) fun b_283 _ => if b_283 = true then .ok true () else (O.bind (if (decide ((first_215 - (1 : Int)) ≤ last_216)) = true then O.bind (O.bind (d_Row__len (self_214)) fun n_287 _ => lenI n_287 ()) fun x_286 _ => .ok (decide (last_216 ≤ x_286)) () else .ok false ()) fun x_285 _ => .ok ((!x_285)) ())) fun b_282 _ => if b_282 = true then .no else
    (let found_228 := ([] : List ((List Nat) × (Int))); (let ahead_230 := (0 : Int); (O.bind (foldO (fun i_233 (v_232 : (List ((List Nat) × (Int))) × (Int)) _ => (O.bind (O.bind (ofO (lenS i_233.1) ()) fun x_288 _ => ofO (mulO x_288 i_233.2) ()) fun size_235 _ =>
    (let firsthere_237 := (if (0 : Int) > ((first_215 - (1 : Int)) - v_232.2) then (0 : Int) else ((first_215 - (1 : Int)) - v_232.2)); (let end_239 := (if size_235 < (last_216 - v_232.2) then size_235 else (last_216 - v_232.2)); (O.bind (if (decide (firsthere_237 < end_239)) = true then (O.bind (d_cut_piece (i_233.1) (i_233.2) (firsthere_237) (end_239)) fun y_290 _ => O.bind (extO v_232.1 y_290 ()) fun found_267 _ =>
    (.ok found_267 ())) else (.ok v_232.1 ())) fun v_269 _ =>
    (let ahead_271 := (v_232.2 + size_235); (.ok (v_269, ahead_271) ()))))))) self_214.pieces (found_228, ahead_230) ()) fun v_273 _ =>
    (O.bind (d_Pieces__init (v_273.1)) fun x_291 _ => d_Row__init_Pieces (x_291)))))))
/-! _law_r_built -/
def d_law_r_built (text_166 : List Nat) (s_0 : Sp) : O Sp (Row) :=
  (O.bind (d_law_draw ((5 : Int)) s_0) fun way_167 s_168 =>
    (O.bind (O.bind (O.bind (ofO (lenS text_166) s_168) fun x_294 s_295 => .ok ((x_294 + (1 : Int))) s_295) fun x_292 s_293 => d_law_draw (x_292) s_293) fun cut_169 s_170 =>
    (if (decide (way_167 = (0 : Int))) = true then ((d_Row__init_s (text_166)).up s_170) else
    (if (decide (way_167 = (1 : Int))) = true then (O.bind (O.bind (ofO (slS none (some cut_169) text_166) s_170) fun x_298 s_299 => (d_Row__init_s (x_298)).up s_299) fun x_296 s_297 => O.bind (O.bind (ofO (slS (some cut_169) none text_166) s_297) fun x_302 s_303 => (d_Row__init_s (x_302)).up s_303) fun x_300 s_301 => (d_Row__add_RowRow (x_296) (x_300)).up s_301) else
    (if (decide (way_167 = (2 : Int))) = true then (O.bind (ofO (slS none (some cut_169) text_166) s_170) fun x_304 s_305 => O.bind (O.bind (ofO (slS (some cut_169) none text_166) s_305) fun x_308 s_309 => (d_Row__init_s (x_308)).up s_309) fun x_306 s_307 => (d_Row__radd_Rows (x_306) (x_304)).up s_307) else
    (if (decide (way_167 = (3 : Int))) = true then (O.bind (O.bind (ofO (slS none (some cut_169) text_166) s_170) fun x_312 s_313 => (d_Row__init_s (x_312)).up s_313) fun x_310 s_311 => O.bind (ofO (slS (some cut_169) none text_166) s_311) fun x_314 s_315 => (d_Row__add_Rows (x_310) (x_314)).up s_315) else
    (O.bind (O.bind (O.bind (O.bind (ofO (mulS [(Ch.mk 104).c] (5 : Int)) s_170) fun x_322 s_323 => ofO (addS x_322 text_166) s_323) fun x_320 s_321 => ofO (addS x_320 ([65, 46] : List Nat)) s_321) fun x_318 s_319 => (d_Row__init_s (x_318)).up s_319) fun x_316 s_317 => O.bind (O.bind (ofO (lenS text_166) s_317) fun x_326 s_327 => .ok (((5 : Int) + x_326)) s_327) fun x_324 s_325 => (d_Row_part (x_316) ((6 : Int)) (x_324)).up s_325)))))))
/-! _law_r_handed -/
def d_law_r_handed (text_165 : List Nat) (s_0 : Sp) : O Sp (Ei (List Nat) (Row)) :=
  (O.bind (O.bind (d_law_draw ((2 : Int)) s_0) fun x_330 s_331 => .ok ((decide (x_330 = (0 : Int)))) s_331) fun b_328 s_329 => if b_328 = true then (.ok (Ei.a text_165 : Ei (List Nat) (Row)) s_329) else (O.bind (d_law_r_built (text_165) s_329) fun x_332 s_333 => .ok ((Ei.b x_332 : Ei (List Nat) (Row))) s_333))
/-! check_slot -/
def d_check_slot_ii (slot_338 : Int) (last_339 : Int) : P (Unit) :=
  (O.bind (O.bind (O.bind (d_is_integer_i (slot_338)) fun x_343 _ => .ok ((!x_343)) ()) fun b_342 _ => if b_342 = true then .ok true () else (.ok (!((decide ((1 : Int) ≤ slot_338)) && (decide (slot_338 ≤ last_339)))) ())) fun b_341 _ => if b_341 = true then .no else
    (.ok () ()))
/-! stepped -/
def d_stepped (state_366 : (Int) × (Int)) (kind_367 : Ch) : P ((Int) × (Int)) :=
  (let p_368 := state_366; (if (decide (kind_367 = (Ch.mk 65))) = true then (.ok ((p_368.1 + (1 : Int)), (p_368.2 + (1 : Int))) ()) else
    (if (decide (kind_367 = (Ch.mk 46))) = true then (.ok state_366 ()) else
    (let stays_372 := ((decide (p_368.2 = (0 : Int))) && ((decide ((0 : Int) < p_368.1)) || (decide (kind_367 = (Ch.mk 72))))); (.ok ((if (0 : Int) > (p_368.1 - (1 : Int)) then (0 : Int) else (p_368.1 - (1 : Int))), (if stays_372 = true then p_368.2 else (p_368.2 - (1 : Int)))) ())))))
/-! states_of -/
def d_states_of (word_358 : List Nat) (state_359 : (Int) × (Int)) : P (List ((Int) × (Int))) :=
  (let found_361 := ([state_359] : List ((Int) × (Int))); (O.bind (foldO (fun i_364 (v_363 : (List ((Int) × (Int)))) _ => (O.bind (O.bind (ofO (atI v_363 (-(1 : Int))) ()) fun x_379 _ => d_stepped (x_379) (i_364)) fun y_378 _ => O.bind (appO v_363 y_378 ()) fun found_374 _ =>
    (.ok found_374 ()))) (word_358.map Ch.mk) found_361 ()) fun v_376 _ =>
    (.ok v_376 ())))
/-! rounds_alike -/
def d_rounds_alike (word_382 : List Nat) (states_383 : List ((Int) × (Int))) (most_384 : Int) : P (Int) :=
  (O.bind (O.bind (smL (states_383.zip (word_382.map Ch.mk)) ()) fun l_415 _ => .ok ((l_415.filter fun x_385 => (decide (x_385.2.c ∈ ([104, 72] : List Nat)))).map fun x_385 => x_385.1) ()) fun met_386 _ =>
    (O.bind (ofO ((eqO met_386 ([] : List ((Int) × (Int))))) ()) fun b_416 _ => if b_416 = true then (.ok most_384 ()) else
    (O.bind (O.bind (O.bind (ofO (atI states_383 (-(1 : Int))) ()) fun x_418 _ => .ok (x_418.1) ()) fun x_417 _ => O.bind (O.bind (ofO (atI states_383 (0 : Int)) ()) fun x_420 _ => .ok (x_420.1) ()) fun x_419 _ => .ok ((x_417 - x_419)) ()) fun up_389 _ =>
    (O.bind (O.bind (O.bind (ofO (atI states_383 (-(1 : Int))) ()) fun x_422 _ => .ok (x_422.2) ()) fun x_421 _ => O.bind (O.bind (ofO (atI states_383 (0 : Int)) ()) fun x_424 _ => .ok (x_424.2) ()) fun x_423 _ => .ok ((x_421 - x_423)) ()) fun more_391 _ =>
    (O.bind (O.bind (O.bind (smL met_386 ()) fun l_426 _ => .ok (l_426.map fun x_393 => x_393.1) ()) fun x_425 _ => ofO (minO x_425) ()) fun low_394 _ =>
    (O.bind (O.bind (O.bind (smL met_386 ()) fun l_428 _ => .ok (l_428.map fun x_396 => x_396.2) ()) fun x_427 _ => ofO (minO x_427) ()) fun least_397 _ =>
    (O.bind (O.bind (O.bind (smL met_386 ()) fun l_430 _ => .ok (l_430.map fun x_399 => x_399.2) ()) fun x_429 _ => ofO (maxO x_429) ()) fun greatest_400 _ =>
    (if (((!decide (up_389 = (0 : Int))) && (decide (low_394 = (0 : Int)))) || ((!decide (more_391 = (0 : Int))) && ((decide (least_397 ≤ (0 : Int))) && (decide ((0 : Int) ≤ greatest_400))))) = true then (.ok (0 : Int) ()) else
    (O.bind (if (decide (up_389 < (0 : Int))) = true then (O.bind (O.bind (ofO (divO (low_394 - (1 : Int)) ((0 : Int) - up_389)) ()) fun x_432 _ => .ok ((if x_432 < most_384 then x_432 else most_384)) ()) fun most_403 _ =>
    (.ok most_403 ())) else (.ok most_384 ())) fun v_405 _ =>
    (O.bind (if ((decide (more_391 < (0 : Int))) && (decide ((0 : Int) < least_397))) = true then (O.bind (O.bind (ofO (divO (least_397 - (1 : Int)) ((0 : Int) - more_391)) ()) fun x_434 _ => .ok ((if x_434 < v_405 then x_434 else v_405)) ()) fun most_407 _ =>
    (.ok most_407 ())) else (.ok v_405 ())) fun v_409 _ =>
    (O.bind (if ((decide ((0 : Int) < more_391)) && (decide (greatest_400 < (0 : Int)))) = true then (O.bind (O.bind (ofO (divO (((0 : Int) - (1 : Int)) - greatest_400) more_391) ()) fun x_436 _ => .ok ((if x_436 < v_409 then x_436 else v_409)) ()) fun most_411 _ =>
    (.ok most_411 ())) else (.ok v_409 ())) fun v_413 _ =>
    (.ok v_413 ()))))))))))))
/-! powered -/
def d_powered (word_353 : List Nat) (times_354 : Int) (state_355 : (Int) × (Int)) : P ((Int) × (Int)) :=
  (O.bind (whO (fun (v_356 : ((Int) × (Int)) × (Int)) _ => (.ok (decide ((0 : Int) < v_356.2)) ())) (fun v_356 _ => (O.bind (d_states_of (word_353) (v_356.1)) fun states_380 _ =>
    (O.bind (O.bind (d_rounds_alike (word_353) (states_380) ((v_356.2 - (1 : Int)))) fun x_449 _ => .ok (((1 : Int) + x_449)) ()) fun many_437 _ =>
    (O.bind (O.bind (O.bind (ofO (atI states_380 (-(1 : Int))) ()) fun x_451 _ => .ok (x_451.1) ()) fun x_450 _ => .ok ((x_450 - v_356.1.1)) ()) fun up_439 _ =>
    (O.bind (O.bind (O.bind (ofO (atI states_380 (-(1 : Int))) ()) fun x_453 _ => .ok (x_453.2) ()) fun x_452 _ => .ok ((x_452 - v_356.1.2)) ()) fun more_441 _ =>
    (O.bind (O.bind (O.bind (ofO (mulO many_437 up_439) ()) fun x_455 _ => .ok ((v_356.1.1 + x_455)) ()) fun x_454 _ => O.bind (O.bind (ofO (mulO many_437 more_441) ()) fun x_457 _ => .ok ((v_356.1.2 + x_457)) ()) fun x_456 _ => .ok ((x_454, x_456)) ()) fun state_443 _ =>
    (let times_445 := (v_356.2 - many_437); (.ok (state_443, times_445) ())))))))) fuel (state_355, times_354) ()) fun v_447 _ =>
    (.ok v_447.1 ()))
/-! through -/
def d_through (row_348 : Row) (state_349 : (Int) × (Int)) : P ((Int) × (Int)) :=
  (O.bind (foldO (fun i_351 (v_350 : ((Int) × (Int))) _ => (O.bind (d_powered (i_351.1) (i_351.2) (v_350)) fun state_458 _ =>
    (.ok state_458 ()))) row_348.pieces state_349 ()) fun v_460 _ =>
    (.ok v_460 ()))
/-! reach -/
def d_reach_Row (row_347 : Row) : P (Int) :=
  (O.bind (O.bind (d_row_of_Row (row_347)) fun x_463 _ => d_through (x_463) (((0 : Int), (0 : Int)))) fun x_462 _ => .ok (x_462.1) ())
/-! both -/
def d_both (row_345 : Row) (slot_346 : Int) : P ((Int) × (Int)) :=
  (O.bind (O.bind (d_Row_part (row_345) ((1 : Int)) ((slot_346 - (1 : Int)))) fun x_466 _ => d_reach_Row (x_466)) fun begin_464 _ =>
    (O.bind (O.bind (O.bind (d_Row__len (row_345)) fun n_469 _ => lenI n_469 ()) fun x_468 _ => d_Row_part (row_345) (slot_346) (x_468)) fun x_467 _ => d_through (x_467) ((begin_464, begin_464))))
/-! needed -/
def d_needed_si (row_334 : List Nat) (slot_335 : Int) : P (Int) :=
  (O.bind (d_row_of_s (row_334)) fun whole_336 _ =>
    (O.bind (O.bind (O.bind (d_Row__len (whole_336)) fun n_473 _ => lenI n_473 ()) fun x_472 _ => d_check_slot_ii (slot_335) (x_472)) fun _ _ =>
    (O.bind (d_both (whole_336) (slot_335)) fun p_470 _ =>
    (.ok (if (decide ((0 : Int) ≤ p_470.2)) = true then (p_470.1 + (1 : Int)) else (0 : Int)) ()))))
/-! needed -/
def d_needed_Rowi (row_474 : Row) (slot_475 : Int) : P (Int) :=
  (O.bind (d_row_of_Row (row_474)) fun whole_476 _ =>
    (O.bind (O.bind (O.bind (d_Row__len (whole_476)) fun n_482 _ => lenI n_482 ()) fun x_481 _ => d_check_slot_ii (slot_475) (x_481)) fun _ _ =>
    (O.bind (d_both (whole_476) (slot_475)) fun p_479 _ =>
    (.ok (if (decide ((0 : Int) ≤ p_479.2)) = true then (p_479.1 + (1 : Int)) else (0 : Int)) ()))))
/-! needed -/
def d_needed_osRowi (p_483 : Ei (List Nat) (Row)) (p_484 : Int) : P (Int) :=
  match p_483 with
  | .a x_ => d_needed_si x_ p_484
  | .b x_ => d_needed_Rowi x_ p_484
/-! _law_t_step -/
def d_law_t_step (state_501 : (Int) × (Int)) (sign_502 : Ch) : P ((Int) × (Int)) :=
  (let p_503 := state_501; (if (decide (sign_502 = (Ch.mk 65))) = true then (.ok ((p_503.1 + (1 : Int)), (p_503.2 + (1 : Int))) ()) else
    (if (decide (sign_502 = (Ch.mk 46))) = true then (.ok (p_503.1, p_503.2) ()) else
    (if ((decide (p_503.2 = (0 : Int))) && ((decide ((0 : Int) < p_503.1)) || (decide (sign_502 = (Ch.mk 72))))) = true then (.ok ((if (0 : Int) > (p_503.1 - (1 : Int)) then (0 : Int) else (p_503.1 - (1 : Int))), (0 : Int)) ()) else
    (.ok ((if (0 : Int) > (p_503.1 - (1 : Int)) then (0 : Int) else (p_503.1 - (1 : Int))), (p_503.2 - (1 : Int))) ())))))
/-! _law_t_both -/
def d_law_t_both (row_490 : List Nat) (slot_491 : Int) : P ((Int) × (Int)) :=
  (let state_492 := ((0 : Int), (0 : Int)); (O.bind (foldO (fun i_495 (v_494 : ((Int) × (Int))) _ => (O.bind (if (decide ((i_495.1 + (1 : Int)) = slot_491)) = true then (let state_497 := (v_494.1, v_494.1); (.ok state_497 ())) else (.ok v_494 ())) fun v_499 _ =>
    (O.bind (d_law_t_step (v_499) (i_495.2)) fun state_508 _ =>
    (.ok state_508 ())))) (enI 0 (row_490.map Ch.mk)) state_492 ()) fun v_510 _ =>
    (O.bind (O.bind (ofO (lenS row_490) ()) fun x_514 _ => .ok ((decide (slot_491 ≤ x_514))) ()) fun b_513 _ => if b_513 = true then (.ok v_510 ()) else (.ok (v_510.1, v_510.1) ()))))
/-! margin -/
def d_margin_si (row_523 : List Nat) (slot_524 : Int) : P (Int) :=
  (O.bind (d_row_of_s (row_523)) fun whole_525 _ =>
    (O.bind (O.bind (O.bind (O.bind (d_Row__len (whole_525)) fun n_530 _ => lenI n_530 ()) fun x_529 _ => .ok ((x_529 + (1 : Int))) ()) fun x_528 _ => d_check_slot_ii (slot_524) (x_528)) fun _ _ =>
    (O.bind (d_both (whole_525) (slot_524)) fun x_531 _ => .ok (x_531.2) ())))
/-! _law_needed_right -/
def d_law_needed_right (text_161 : List Nat) (s_0 : Sp) : O Sp (Bool) :=
  (O.bind (O.bind (O.bind (ofO (lenS text_161) s_0) fun x_585 s_586 => .ok ((x_585 + (1 : Int))) s_586) fun x_583 s_584 => rg2 (1 : Int) x_583 s_584) fun l_581 s_582 => O.bind (forO (R := Bool) (fun i_163 (v_162 : Unit) s_164 => (O.bind (O.bind (d_law_r_handed (text_161) s_164) fun x_535 s_536 => (d_needed_osRowi (x_535) (i_163)).up s_536) fun told_485 s_486 =>
    (if (decide (told_485 < (0 : Int))) = true then (.ok (.rt false) s_486) else
    (O.bind (O.bind (rg1 (told_485 + (1 : Int)) s_486) fun l_539 s_540 => O.bind (smL l_539 s_540) fun l_537 s_538 => mapO (fun x_488 s_489 => (O.bind (O.bind (O.bind (ofO (mulS [(Ch.mk 104).c] x_488) s_489) fun x_545 s_546 => ofO (addS text_161 x_545) s_546) fun x_543 s_544 => (d_law_t_both (x_543) (i_163)).up s_544) fun x_541 s_542 => .ok (x_541.2) s_542)) l_537 s_538) fun left_515 s_516 =>
    (O.bind (O.bind (O.bind (ofO (atI left_515 (-(1 : Int))) s_516) fun x_551 s_552 => .ok ((decide ((0 : Int) ≤ x_551))) s_552) fun b_549 s_550 => if b_549 = true then .ok true s_550 else (O.bind (O.bind (smL (cutL left_515 none (some (-(1 : Int)))) s_550) fun l_555 s_556 => .ok (l_555.map fun x_517 => (decide (x_517 < (0 : Int)))) s_556) fun x_553 s_554 => .ok (((x_553).any id)) s_554)) fun b_547 s_548 => if b_547 = true then (.ok (.rt false) s_548) else
    (O.bind (if (decide ((0 : Int) < told_485)) = true then (O.bind (O.bind (rg1 (6 : Int) s_548) fun l_563 s_564 => O.bind (smL l_563 s_564) fun l_561 s_562 => mapO (fun x_520 s_521 => (O.bind (O.bind (O.bind (O.bind (ofO (mulS [(Ch.mk 72).c] x_520) s_521) fun x_571 s_572 => ofO (addS text_161 x_571) s_572) fun x_569 s_570 => (d_law_t_both (x_569) (i_163)).up s_570) fun x_567 s_568 => .ok (x_567.2) s_568) fun x_565 s_566 => .ok ((decide (x_565 < (0 : Int)))) s_566)) l_561 s_562) fun x_559 s_560 => .ok (((x_559).any id)) s_560) else .ok false s_548) fun b_557 s_558 => if b_557 = true then (.ok (.rt false) s_558) else
    (O.bind (if (decide ((0 : Int) < told_485)) = true then (O.bind (O.bind (O.bind (ofO (mulS [(Ch.mk 72).c] (5 : Int)) s_558) fun x_579 s_580 => ofO (addS text_161 x_579) s_580) fun x_577 s_578 => (d_margin_si (x_577) (i_163)).up s_578) fun x_575 s_576 => .ok ((decide (x_575 < (0 : Int)))) s_576) else .ok false s_558) fun b_573 s_574 => if b_573 = true then (.ok (.rt false) s_574) else
    (.ok (.nx ()) s_574)))))))) l_581 () s_582) (flB (fun v_533 s_534 =>
    (.ok true s_534)) (fun a => a)))
/-! last_below -/
def d_last_below (row_610 : Row) (number_611 : Int) : P (Int) :=
  (let low_612 := (0 : Int); (O.bind (O.bind (d_Row__len (row_610)) fun n_628 _ => lenI n_628 ()) fun high_614 _ =>
    (O.bind (whO (fun (v_616 : (Int) × (Int)) _ => (.ok (decide (v_616.1 < v_616.2)) ())) (fun v_616 _ => (O.bind (ofO (divO ((v_616.1 + v_616.2) + (1 : Int)) (2 : Int)) ()) fun middle_618 _ =>
    (O.bind (O.bind (O.bind (d_both (row_610) (middle_618)) fun x_631 _ => .ok (x_631.2) ()) fun x_630 _ => .ok ((decide (x_630 < number_611))) ()) fun b_629 _ => O.bind (if b_629 = true then (let low_620 := middle_618; (.ok (low_620, v_616.2) ())) else (let high_622 := (middle_618 - (1 : Int)); (.ok (v_616.1, high_622) ()))) fun v_624 _ =>
    (.ok (v_624.1, v_624.2) ())))) fuel (low_612, high_614) ()) fun v_626 _ =>
    (.ok v_626.1 ()))))
/-! sure -/
def d_sure_si (row_605 : List Nat) (gain_606 : Int) : P (Int) :=
  (O.bind (d_row_of_s (row_605)) fun whole_607 _ =>
    (O.bind (O.bind (O.bind (d_is_integer_i (gain_606)) fun x_634 _ => .ok ((!x_634)) ()) fun b_633 _ => if b_633 = true then .ok true () else (.ok (decide (gain_606 < (0 : Int))) ())) fun b_632 _ => if b_632 = true then .no else
    (d_last_below (whole_607) ((-gain_606)))))
/-! sure -/
def d_sure_Rowi (row_635 : Row) (gain_636 : Int) : P (Int) :=
  (O.bind (d_row_of_Row (row_635)) fun whole_637 _ =>
    (O.bind (O.bind (O.bind (d_is_integer_i (gain_636)) fun x_642 _ => .ok ((!x_642)) ()) fun b_641 _ => if b_641 = true then .ok true () else (.ok (decide (gain_636 < (0 : Int))) ())) fun b_640 _ => if b_640 = true then .no else
    (d_last_below (whole_637) ((-gain_636)))))
/-! sure -/
def d_sure_osRowi (p_643 : Ei (List Nat) (Row)) (p_644 : Int) : P (Int) :=
  match p_643 with
  | .a x_ => d_sure_si x_ p_644
  | .b x_ => d_sure_Rowi x_ p_644
/-! sure -/
def d_sure_sn (row_658 : List Nat) (gain_659 : Unit) : P (Int) :=
  (O.bind (d_row_of_s (row_658)) fun whole_660 _ =>
    (.ok (0 : Int) ()))
/-! firm -/
def d_firm_s (row_662 : List Nat) : P (Int) :=
  (O.bind (d_row_of_s (row_662)) fun x_663 _ => d_last_below (x_663) ((0 : Int)))
/-! law -/
def d_law (s_0 : Sp) : O Sp (Bool) :=
  (O.bind (O.bind (O.bind ((d_law_r_words ((4 : Int))).up s_0) fun x_671 s_672 => .ok (x_671) s_672) fun l_669 s_670 => O.bind (smL l_669 s_670) fun l_667 s_668 => mapO (fun x_30 s_31 => (O.bind ((d_law_gain (x_30)).up s_31) fun x_673 s_674 => .ok ((x_30, x_673)) s_674)) l_667 s_668) fun words_48 s_49 =>
    (O.bind (rg1 (3 : Int) s_49) fun l_733 s_734 => O.bind (forO (R := Bool) (fun i_51 (v_50 : Unit) s_52 => (O.bind (d_law_t_row ((10 : Int)) s_52) fun text_159 s_160 =>
    (O.bind (O.bind (d_law_needed_right (text_159) s_160) fun x_677 s_678 => .ok ((!x_677)) s_678) fun b_675 s_676 => if b_675 = true then (.ok (.rt false) s_676) else
    (O.bind (rg1 (5 : Int) s_676) fun l_715 s_716 => O.bind (forO (R := Bool) (fun i_603 (v_602 : Unit) s_604 => (O.bind (O.bind (d_law_r_handed (text_159) s_604) fun x_679 s_680 => (d_sure_osRowi (x_679) (i_603)).up s_680) fun told_645 s_646 =>
    (O.bind (O.bind (if (decide ((0 : Int) ≤ told_645)) = true then O.bind (ofO (lenS text_159) s_646) fun x_685 s_686 => .ok (decide (told_645 ≤ x_685)) s_686 else .ok false s_646) fun x_683 s_684 => .ok ((!x_683)) s_684) fun b_681 s_682 => if b_681 = true then (.ok (.rt false) s_682) else
    (O.bind (O.bind (smL words_48 s_682) fun l_687 s_688 => .ok ((l_687.filter fun x_648 => (decide (x_648.2 ≤ i_603))).map fun x_648 => x_648.1) s_688) fun some_650 s_651 =>
    (O.bind (if (decide ((0 : Int) < told_645)) = true then (O.bind (O.bind (smL some_650 s_651) fun l_693 s_694 => mapO (fun x_652 s_653 => (O.bind (O.bind (O.bind (ofO (addS text_159 x_652) s_653) fun x_699 s_700 => (d_law_t_both (x_699) (told_645)).up s_700) fun x_697 s_698 => .ok (x_697.2) s_698) fun x_695 s_696 => .ok ((decide ((0 : Int) ≤ x_695))) s_696)) l_693 s_694) fun x_691 s_692 => .ok (((x_691).any id)) s_692) else .ok false s_651) fun b_689 s_690 => if b_689 = true then (.ok (.rt false) s_690) else
    (O.bind (O.bind (O.bind (ofO (lenS text_159) s_690) fun x_705 s_706 => .ok ((decide (told_645 < x_705))) s_706) fun b_703 s_704 => if b_703 = true then (O.bind (O.bind (O.bind (O.bind (ofO (mulS [(Ch.mk 65).c] i_603) s_704) fun x_713 s_714 => ofO (addS text_159 x_713) s_714) fun x_711 s_712 => (d_law_t_both (x_711) ((told_645 + (1 : Int)))).up s_712) fun x_709 s_710 => .ok (x_709.2) s_710) fun x_707 s_708 => .ok ((decide (x_707 < (0 : Int)))) s_708) else .ok false s_704) fun b_701 s_702 => if b_701 = true then (.ok (.rt false) s_702) else
    (.ok (.nx ()) s_702))))))) l_715 () s_716) (flB (fun v_656 s_657 =>
    (O.bind (O.bind (O.bind ((d_sure_sn (text_159) (())).up s_657) fun x_721 s_722 => .ok ((!decide (x_721 = (0 : Int)))) s_722) fun b_719 s_720 => if b_719 = true then .ok true s_720 else (O.bind (O.bind (O.bind ((d_sure_si (text_159) ((0 : Int))).up s_720) fun x_727 s_728 => .ok ((En.e x_727)) s_728) fun x_725 s_726 => O.bind (O.bind ((d_firm_s (text_159)).up s_726) fun x_731 s_732 => .ok ((En.e x_731)) s_732) fun x_729 s_730 => (d_same (x_725) (x_729)).up s_730) fun x_723 s_724 => .ok ((!x_723)) s_724)) fun b_717 s_718 => if b_717 = true then (.ok (.rt false) s_718) else
    (.ok (.nx ()) s_718))) Fl.rt))))) l_733 () s_734) (flB (fun v_665 s_666 =>
    (O.bind (O.bind ((d_needed_si ([(Ch.mk 104).c]) ((1 : Int))).up s_666) fun x_737 s_738 => .ok ((decide (x_737 = (0 : Int)))) s_738) fun b_735 s_736 => if b_735 = true then (O.bind (O.bind ((d_needed_si ([(Ch.mk 65).c]) ((1 : Int))).up s_736) fun x_741 s_742 => .ok ((decide (x_741 = (2 : Int)))) s_742) fun b_739 s_740 => if b_739 = true then (O.bind (O.bind ((d_needed_si ([(Ch.mk 72).c]) ((1 : Int))).up s_740) fun x_745 s_746 => .ok ((decide (x_745 = (1 : Int)))) s_746) fun b_743 s_744 => if b_743 = true then (O.bind ((d_needed_si ([(Ch.mk 46).c]) ((1 : Int))).up s_744) fun x_747 s_748 => .ok ((decide (x_747 = (1 : Int)))) s_748) else .ok false s_744) else .ok false s_740) else .ok false s_736)) (fun a => a))))
end LB

set_option Elab.async false
set_option linter.all false
set_option maxRecDepth 100000
set_option maxHeartbeats 4000000
set_option autoImplicit false
namespace LB
open VS TL
open L2 (atI ixN)
theorem r_law_same : FnP (A := F × F × Unit) (R := Bool) (m__law_same 8) (fun a => d_same a.1 a.2.1) := r_same
theorem r_law_r_words : FnP (A := (Int) × (Unit)) (R := List (List Nat)) m__law_r_words (fun a => d_law_r_words a.1) := by
  refine fn_okP (fun _ => rfl) (by decide) fun B a s => ?_
  obtain ⟨most_1, _⟩ := a
  have h : J B 7 (Kfn (R := List (List Nat)) B) [(0, w_ most_1)] [] t__law_r_words s _ := (j_a2 (ja_c (α := List Nat) (c_lst (al_cons e_str (fun _ => al_nil))) (fun k_2 found_3 s_4 => (ja_v (α := List (List Nat)) (e_lst (al_cons e_str (fun _ => al_nil))) (fun last_5 s_6 => (ja_end (is := [1, 2]) (by decide) (fun _ _ => rfl) (j_for (β := Int) (S := (List (List Nat)) × (List (List Nat))) (oG := fun v => [(1, .loc (B.b + k_2)), (2, w_ v.1)]) (oC := fun v => [(k_2, cl_ v.2)]) (v0 := (last_5, found_3)) (i_rg1 (e_var (α := Int) rfl)) (tg_nm (α := Int) (by decide)) (fun i_8 v_7 s_9 => (j_setC (α := List Nat) (by decide) (c_lst al_nil) (fun k_10 longer_11 s_12 => (j_for (β := List Nat) (S := (List (List Nat))) (oG := fun v => [(1, .loc (B.b + k_2)), (2, w_ v_7.1), (4, .loc (B.b + k_10))]) (oC := fun v => [(k_10, cl_ v), (k_2, cl_ v_7.2)]) (v0 := longer_11) (i_any it_lst (e_var (α := List (List Nat)) rfl)) (tg_nm (α := List Nat) (by decide)) (fun i_14 v_13 s_15 => (j_last (j_ext (p := 0) rfl (c_frz (c_map (α := List Nat) (β := Ch) (v := fun x_16 _ => (ofO (addS i_14 [x_16.c]) ())) (i_any it_str e_str) (tg_nm (α := Ch) (by decide)) (fun _ => rfl) (fun x_16 _ _ _ => (e_op2 o_addS (E.el (e_var (α := List Nat) rfl)) (fun _ => (E.el (e_co co_chr (e_var (α := Ch) rfl)))))))) (.head _) rfl (fun longer_17 s_18 => (j_end (end_s (v := longer_17) (sub_cons rfl (sub_cons rfl (sub_cons rfl sub_nil))) (.cons₂ _ (.cons₂ _ .slnil)))))))) (sub_cons rfl (sub_cons rfl (sub_cons rfl sub_nil))) (.cons₂ _ (.cons₂ _ .slnil)) (fun v_19 s_20 => (j_set (α := List (List Nat)) (by decide) (e_cb1 o_listL (el_cell rfl (.head _))) (fun last_21 s_22 => (j_last (j_ext (p := 1) rfl (e_var (α := List (List Nat)) rfl) (.tail _ (.head _)) rfl (fun found_23 s_24 => (j_end (end_s (v := (last_21, found_23)) (sub_cons rfl (sub_cons rfl sub_nil)) (.cons _ (.cons₂ _ .slnil)))))))))))))) (sub_cons rfl (sub_cons rfl sub_nil)) (.cons₂ _ .slnil) (fun v_25 s_26 => (j_last (j_retI ret_fn (e_frz (p := 0) rfl rfl)))))))))))
  exact h
theorem r_law_gain : FnP (A := (List Nat) × (Unit)) (R := Int) m__law_gain (fun a => d_law_gain a.1) := by
  refine fn_okP (fun _ => rfl) (by decide) fun B a s => ?_
  obtain ⟨text_32, _⟩ := a
  have h : J B 4 (Kfn (R := Int) B) [(0, w_ text_32)] [] t__law_gain s _ := (j_aU (ja_v (α := Int) e_int (fun found_33 s_34 => (ja_v (α := Int) e_int (fun here_35 s_36 => (ja_end (is := [1, 2]) (by decide) (fun _ _ => rfl) (j_for (β := Ch) (S := (Int) × (Int)) (oG := fun v => [(1, w_ v.2), (2, w_ v.1)]) (oC := fun v => []) (v0 := (here_35, found_33)) (i_any it_str (e_var (α := List Nat) rfl)) (tg_nm (α := Ch) (by decide)) (fun i_38 v_37 s_39 => (j_set (α := Int) (by decide) (e_op2 o_addI (E.el (e_var (α := Int) rfl)) (fun _ => (E.el (e_dget2 (e_disp (κ := Ch) (ν := Int) (p_cons (fun _ _ => e_chr) (fun _ _ => e_int) (p_cons (fun _ _ => e_chr) (fun _ _ => e_int) p_nil))) (fun _ => (e_var (α := Ch) rfl)) (fun _ => (e_op1 o_neg (E.el e_int))))))) (fun here_40 s_41 => (j_last (j_set (α := Int) (by decide) (e_cb2 o_max2 (e_var (α := Int) rfl) (fun _ => (e_var (α := Int) rfl))) (fun found_42 s_43 => (j_end (end_s (v := (here_40, found_42)) (sub_cons rfl (sub_cons rfl sub_nil)) .slnil)))))))) (sub_cons rfl (sub_cons rfl sub_nil)) .slnil (fun v_44 s_45 => (j_last (j_retI ret_fn (e_var (α := Int) rfl)))))))))))
  exact h
theorem r_law_draw : FnG (A := (Rs) × (Int) × (Unit)) (R := Int) wS m__law_draw (fun a s => d_law_draw a.2.1 s) := by
  refine fn_ok (fun _ => rfl) (by decide) fun B a s => ?_
  obtain ⟨_, many_55, _⟩ := a
  have h : J B 5 (Kfn (R := Int) B) [(0, .loc 1), (1, w_ many_55)] [] t__law_draw s _ := (j_sp (j := 0) (up := fun s a => { s with cnt := a }) rfl (e_op2 o_addI (E.el (e_sp2 rfl)) (fun _ => (E.el e_int))) (fun _ _ _ => rfl) (fun _ => (j_ifJ (S := Unit) (oG := fun v => [(0, .loc 1), (1, w_ many_55)]) (oC := fun v => []) (t_and (t_val (e_op2 o_eqI (E.el (e_sp1 rfl)) (fun _ => (E.el e_int)))) (fun _ => (t_sp0 rfl))) (fun _ => (j_spPop (by decide) rfl (fun cell_59 _ => (j_sp (j := 0) (up := fun s a => { s with mix := a }) rfl (e_op2 o_modI (E.el (e_cb1 o_intI (E.el (e_op2 o_addI (E.el (e_op2 o_addI (E.el (e_op2 o_mulI (E.el (e_sp3 rfl)) (fun _ => (E.el e_int)))) (fun _ => (E.el (e_var (α := Int) rfl))))) (fun _ => (E.el e_int)))))) (fun _ => (E.el e_int))) (fun _ _ _ => rfl) (fun _ => (j_last (j_sp (j := 0) (up := fun s a => { s with big := a }) rfl (e_if (t_val (e_op2 o_ge (E.el (e_var (α := Int) rfl)) (fun _ => (E.el (e_op2 o_powI (E.el e_int) (fun _ => (E.el e_int))))))) (fun _ => (e_var (α := Int) rfl)) (fun _ => e_int)) (fun _ _ _ => rfl) (fun _ => (j_end (end_j (v := ()) (sub_cons rfl (sub_cons rfl sub_nil)) .slnil)))))))))) (fun _ => (j_end (end_j (v := ()) (sub_cons rfl (sub_cons rfl sub_nil)) .slnil))) (fun v_68 s_69 => (j_if (t_val (e_op2 o_gt (E.el (e_sp1 rfl)) (fun _ => (E.el e_int)))) (fun _ => (j_term (j_set (α := Int) (by decide) (e_op2 o_modI (E.el (e_cb1 o_intI (E.el (e_sp1 rfl)))) (fun _ => (E.el (e_var (α := Int) rfl)))) (fun digit_71 s_72 => (j_sp (j := 0) (up := fun s a => { s with big := a }) rfl (e_op2 o_divI (E.el (e_sp1 rfl)) (fun _ => (E.el (e_var (α := Int) rfl)))) (fun _ _ _ => rfl) (fun _ => (j_last (j_retI (ret_t ret_fn) (e_var (α := Int) rfl))))))))) (fun _ => (j_nil (j_set (α := Int) (by decide) (e_op2 o_modI (E.el (e_cb1 o_intI (E.el (e_op2 o_powI (E.el (e_op2 o_addI (E.el (e_op2 o_addI (E.el (e_sp3 rfl)) (fun _ => (E.el (e_op2 o_mulI (E.el e_int) (fun _ => (E.el (e_sp2 rfl)))))))) (fun _ => (E.el e_int)))) (fun _ => (E.el e_int)))))) (fun _ => (E.el e_int))) (fun mixed_76 s_77 => (j_last (j_retI ret_fn (e_op2 o_modI (E.el (e_op2 o_modI (E.el (e_cb1 o_intI (E.el (e_op2 o_powI (E.el (e_op2 o_addI (E.el (e_op2 o_addI (E.el (e_op2 o_mulI (E.el (e_var (α := Int) rfl)) (fun _ => (E.el e_int)))) (fun _ => (E.el (e_op2 o_mulI (E.el e_int) (fun _ => (E.el (e_sp2 rfl)))))))) (fun _ => (E.el e_int)))) (fun _ => (E.el e_int)))))) (fun _ => (E.el e_int)))) (fun _ => (E.el (e_var (α := Int) rfl)))))))))))))))
  exact h
theorem r_law_pick_sls : FnG (A := (Rs) × (List (List Nat)) × (Unit)) (R := List Nat) wS m__law_pick (fun a s => d_law_pick_sls a.2.1 s) := by
  refine fn_ok (fun _ => rfl) (by decide) fun B a s => ?_
  obtain ⟨_, some_54, _⟩ := a
  have h : J B 2 (Kfn (R := List Nat) B) [(0, .loc 1), (1, w_ some_54)] [] t__law_pick s _ := (j_last (j_retI ret_fn (e_ixL (e_var (α := List (List Nat)) rfl) (fun _ => (e_callS r_law_draw (a_sp rfl (a_cons (e_cb1 o_lenL (E.el (e_var (α := List (List Nat)) rfl))) (fun _ => a_nil))))))))
  exact h
theorem r_law_pick_ss : FnG (A := (Rs) × (List Nat) × (Unit)) (R := Ch) wS m__law_pick (fun a s => d_law_pick_ss a.2.1 s) := by
  refine fn_ok (fun _ => rfl) (by decide) fun B a s => ?_
  obtain ⟨_, some_146, _⟩ := a
  have h : J B 2 (Kfn (R := Ch) B) [(0, .loc 1), (1, w_ some_146)] [] t__law_pick s _ := (j_last (j_retI ret_fn (e_ixS (e_var (α := List Nat) rfl) (fun _ => (e_callS r_law_draw (a_sp rfl (a_cons (e_cb1 o_lenS (E.el (e_var (α := List Nat) rfl))) (fun _ => a_nil))))))))
  exact h
theorem r_law_t_row : FnG (A := (Rs) × (Int) × (Unit)) (R := List Nat) wS m__law_t_row (fun a s => d_law_t_row a.2.1 s) := by
  refine fn_ok (fun _ => rfl) (by decide) fun B a s => ?_
  obtain ⟨_, most_53, _⟩ := a
  have h : J B 4 (Kfn (R := List Nat) B) [(0, .loc 1), (1, w_ most_53)] [] t__law_t_row s _ := (j_set (α := List Nat) (by decide) (e_callS r_law_pick_sls (a_sp rfl (a_cons (e_lst (al_cons e_str (fun _ => (al_cons e_str (fun _ => (al_cons e_str (fun _ => (al_cons e_str (fun _ => (al_cons e_str (fun _ => (al_cons e_str (fun _ => (al_cons e_str (fun _ => (al_cons e_str (fun _ => (al_cons e_str (fun _ => (al_cons e_str (fun _ => (al_cons e_str (fun _ => al_nil))))))))))))))))))))))) (fun _ => a_nil)))) (fun menu_142 s_143 => (j_last (j_retI ret_fn (e_bm1 o_joinCh (E.el e_str) (fun _ => (E.el (c_frz (c_map (α := Ch) (β := Int) (v := fun x_144 s_145 => (d_law_pick_ss (menu_142) s_145)) (i_rg1 (e_callS r_law_draw (a_sp rfl (a_cons (e_op2 o_addI (E.el (e_var (α := Int) rfl)) (fun _ => (E.el e_int))) (fun _ => a_nil))))) (tg_nm (α := Int) (by decide)) (fun _ => rfl) (fun x_144 _ _ _ => (e_callS r_law_pick_ss (a_sp rfl (a_cons (e_var (α := List Nat) rfl) (fun _ => a_nil))))))))))))))
  exact h
theorem r_check_kinds_s : FnP (A := (List Nat) × (Unit)) (R := Unit) m_check_kinds (fun a => d_check_kinds_s a.1) := by
  refine fn_okP (fun _ => rfl) (by decide) fun B a s => ?_
  obtain ⟨kinds_173, _⟩ := a
  have h : J B 3 (Kfn (R := Unit) B) [(0, w_ kinds_173)] [] t_check_kinds s _ := (j_ifF (t_not (t_val (e_isi (b := true) (fun _ => rfl) (e_var (α := List Nat) rfl)))) (j_nil (j_last (j_for (β := (Int) × (Ch)) (S := Unit) (oG := fun v => []) (oC := fun v => []) (v0 := ()) (i_enum d_str (e_var (α := List Nat) rfl)) (tg_2 (tg_nm (α := Int) (by decide)) (tg_nm (α := Ch) (by decide))) (fun i_175 v_174 s_176 => (j_last (j_if (t_val (e_op2 o_ninCh (E.el (e_var (α := Ch) rfl)) (fun _ => (E.el e_str)))) (fun _ => (j_term (j_last j_never))) (fun _ => (j_nil (j_end (end_s (v := ()) sub_nil .slnil))))))) sub_nil .slnil (fun v_178 s_179 => (j_end end_fn))))))
  exact h
theorem r_Row__init_s : FnP (A := (List Nat) × (Unit)) (R := Row) (mkF 1 m_Row___init__) (fun a => d_Row__init_s a.1) := by
  refine mk_ok (fun _ => rfl) (by decide) fun B a s => ?_
  obtain ⟨text_172, _⟩ := a
  have h : J B 2 (Ki (R := Row) 1 B) [(0, .loc (B.b + 0)), (1, w_ text_172)] [(0, .ins 1 [])] t_Row___init__ s _ := (j_last (j_ifF (t_val (e_isi (b := false) (fun _ => rfl) (e_var (α := List Nat) rfl))) (j_assoc (j_expr (e_callU r_check_kinds_s (a_cons (e_var (α := List Nat) rfl) (fun _ => a_nil))) (fun s_180 => (j_attr (p := 0) rfl (by decide +kernel) (by simp) (e_ifT' (t_val (e_op2 (ne_of o_eqS) (E.el (e_var (α := List Nat) rfl)) (fun _ => (E.el e_str)))) (fun _ => (e_lst (al_cons (e_tup2 (a_cons (e_var (α := List Nat) rfl) (fun _ => (a_cons e_int (fun _ => a_nil))))) (fun _ => al_nil)))) (fun _ => (e_lst al_nil))) rfl (fun pieces_181 s_182 => (j_end (end_i (.head _) rfl)))))))))
  exact h
theorem r_row_of_Row : FnP (A := (Row) × (Unit)) (R := Row) m_row_of (fun a => d_row_of_Row a.1) := by
  refine fn_okP (fun _ => rfl) (by decide) fun B a s => ?_
  obtain ⟨thing_186, _⟩ := a
  have h : J B 1 (Kfn (R := Row) B) [(0, w_ thing_186)] [] t_row_of s _ := (j_last (j_retI ret_fn (e_ifT (t_val (e_isi (b := true) (fun _ => rfl) (e_var (α := Row) rfl))) (e_var (α := Row) rfl))))
  exact h
theorem r_Pieces__init : FnP (A := (List ((List Nat) × (Int))) × (Unit)) (R := Pieces) (mkF 0 m_Pieces___init__) (fun a => d_Pieces__init a.1) := by
  refine mk_ok (fun _ => rfl) (by decide) fun B a s => ?_
  obtain ⟨pairs_187, _⟩ := a
  have h : J B 4 (Ki (R := Pieces) 0 B) [(0, .loc (B.b + 0)), (1, w_ pairs_187)] [(0, .ins 0 [])] t_Pieces___init__ s _ := (j_last (j_attr (p := 0) rfl (by decide +kernel) (by simp) (c_frz (c_lcT (α := (List Nat) × (Int)) (β := (List Nat) × (Int)) (c := fun x_188 => ((!decide (x_188.1 = ([] : List Nat))) && (decide ((0 : Int) < x_188.2)))) (v := fun x_188 => (x_188.1, x_188.2)) (i_any it_lst (e_var (α := List ((List Nat) × (Int))) rfl)) (tg_2 (tg_nm (α := List Nat) (by decide)) (tg_nm (α := Int) (by decide))) (fun _ => rfl) (fun x_188 _ _ _ => (t_andT (t_val (e_op2 (ne_of o_eqS) (E.el (e_var (α := List Nat) rfl)) (fun _ => (E.el e_str)))) (fun _ => (t_val (e_op2 o_gt (E.el (e_var (α := Int) rfl)) (fun _ => (E.el e_int))))))) (fun x_188 _ _ _ => (e_tup2 (a_cons (e_var (α := List Nat) rfl) (fun _ => (a_cons (e_var (α := Int) rfl) (fun _ => a_nil)))))))) rfl (fun pairs_189 s_190 => (j_end (end_i (.head _) rfl)))))
  exact h
theorem r_Row__init_Pieces : FnP (A := (Pieces) × (Unit)) (R := Row) (mkF 1 m_Row___init__) (fun a => d_Row__init_Pieces a.1) := by
  refine mk_ok (fun _ => rfl) (by decide) fun B a s => ?_
  obtain ⟨text_192, _⟩ := a
  have h : J B 2 (Ki (R := Row) 1 B) [(0, .loc (B.b + 0)), (1, w_ text_192)] [(0, .ins 1 [])] t_Row___init__ s _ := (j_last (j_ifT (t_val (e_isi (b := true) (fun _ => rfl) (e_var (α := Pieces) rfl))) (j_attr (p := 0) rfl (by decide +kernel) (by simp) (e_attr (f := Pieces.pairs) (fun _ _ => rfl) (e_var (α := Pieces) rfl)) rfl (fun pieces_193 s_194 => (j_end (end_i (.head _) rfl))))))
  exact h
theorem r_Row__add_RowRow : FnP (A := (Row) × (Row) × (Unit)) (R := Row) m_Row___add__ (fun a => d_Row__add_RowRow a.1 a.2.1) := by
  refine fn_okP (fun _ => rfl) (by decide) fun B a s => ?_
  obtain ⟨self_184, other_185, _⟩ := a
  have h : J B 2 (Kfn (R := Row) B) [(0, w_ self_184), (1, w_ other_185)] [] t_Row___add__ s _ := (j_last (j_retI ret_fn (e_callU r_Row__init_Pieces (a_cons (e_callU r_Pieces__init (a_cons (e_op2 o_addL (E.el (e_attr (f := Row.pieces) (fun _ _ => rfl) (e_var (α := Row) rfl))) (fun _ => (E.el (e_attr (f := Row.pieces) (fun _ _ => rfl) (e_callU r_row_of_Row (a_cons (e_var (α := Row) rfl) (fun _ => a_nil))))))) (fun _ => a_nil))) (fun _ => a_nil)))))
  exact h
theorem r_row_of_s : FnP (A := (List Nat) × (Unit)) (R := Row) m_row_of (fun a => d_row_of_s a.1) := by
  refine fn_okP (fun _ => rfl) (by decide) fun B a s => ?_
  obtain ⟨thing_202, _⟩ := a
  have h : J B 1 (Kfn (R := Row) B) [(0, w_ thing_202)] [] t_row_of s _ := (j_last (j_retI ret_fn (e_ifF (t_val (e_isi (b := false) (fun _ => rfl) (e_var (α := List Nat) rfl))) (e_callU r_Row__init_s (a_cons (e_var (α := List Nat) rfl) (fun _ => a_nil))))))
  exact h
theorem r_Row__radd_Rows : FnP (A := (Row) × (List Nat) × (Unit)) (R := Row) m_Row___radd__ (fun a => d_Row__radd_Rows a.1 a.2.1) := by
  refine fn_okP (fun _ => rfl) (by decide) fun B a s => ?_
  obtain ⟨self_200, other_201, _⟩ := a
  have h : J B 2 (Kfn (R := Row) B) [(0, w_ self_200), (1, w_ other_201)] [] t_Row___radd__ s _ := (j_last (j_retI ret_fn (e_callU r_Row__init_Pieces (a_cons (e_callU r_Pieces__init (a_cons (e_op2 o_addL (E.el (e_attr (f := Row.pieces) (fun _ _ => rfl) (e_callU r_row_of_s (a_cons (e_var (α := List Nat) rfl) (fun _ => a_nil))))) (fun _ => (E.el (e_attr (f := Row.pieces) (fun _ _ => rfl) (e_var (α := Row) rfl))))) (fun _ => a_nil))) (fun _ => a_nil)))))
  exact h
theorem r_Row__add_Rows : FnP (A := (Row) × (List Nat) × (Unit)) (R := Row) m_Row___add__ (fun a => d_Row__add_Rows a.1 a.2.1) := by
  refine fn_okP (fun _ => rfl) (by decide) fun B a s => ?_
  obtain ⟨self_208, other_209, _⟩ := a
  have h : J B 2 (Kfn (R := Row) B) [(0, w_ self_208), (1, w_ other_209)] [] t_Row___add__ s _ := (j_last (j_retI ret_fn (e_callU r_Row__init_Pieces (a_cons (e_callU r_Pieces__init (a_cons (e_op2 o_addL (E.el (e_attr (f := Row.pieces) (fun _ _ => rfl) (e_var (α := Row) rfl))) (fun _ => (E.el (e_attr (f := Row.pieces) (fun _ _ => rfl) (e_callU r_row_of_s (a_cons (e_var (α := List Nat) rfl) (fun _ => a_nil))))))) (fun _ => a_nil))) (fun _ => a_nil)))))
  exact h
theorem r_is_integer_i : FnP (A := (Int) × (Unit)) (R := Bool) m_is_integer (fun a => d_is_integer_i a.1) := by
  refine fn_okP (fun _ => rfl) (by decide) fun B a s => ?_
  obtain ⟨thing_217, _⟩ := a
  have h : J B 1 (Kfn (R := Bool) B) [(0, w_ thing_217)] [] t_is_integer s _ := (j_last (j_retI ret_fn (e_and (e_isi (b := true) (fun _ => rfl) (e_var (α := Int) rfl)) (fun _ => (e_not (e_isi (b := false) (fun _ => rfl) (e_var (α := Int) rfl)))))))
  exact h
theorem r_Row__len : FnP (A := (Row) × (Unit)) (R := Int) m_Row___len__ (fun a => d_Row__len a.1) := by
  refine fn_okP (fun _ => rfl) (by decide) fun B a s => ?_
  obtain ⟨self_218, _⟩ := a
  have h : J B 3 (Kfn (R := Int) B) [(0, w_ self_218)] [] t_Row___len__ s _ := (j_last (j_retI ret_fn (e_op1 o_lenRg (E.el (e_cb1 o_sum (E.el (c_frz (c_map (α := Int) (β := (List Nat) × (Int)) (v := fun x_219 _ => (O.bind (ofO (lenS x_219.1) ()) fun x_224 _ => ofO (mulO x_224 x_219.2) ())) (i_any it_lst (e_attr (f := Row.pieces) (fun _ _ => rfl) (e_var (α := Row) rfl))) (tg_2 (tg_nm (α := List Nat) (by decide)) (tg_nm (α := Int) (by decide))) (fun _ => rfl) (fun x_219 _ _ _ => (e_op2 o_mulI (E.el (e_cb1 o_lenS (E.el (e_var (α := List Nat) rfl)))) (fun _ => (E.el (e_var (α := Int) rfl)))))))))))))
  exact h
theorem r_cut_piece : FnP (A := (List Nat) × (Int) × (Int) × (Int) × (Unit)) (R := List ((List Nat) × (Int))) m_cut_piece (fun a => d_cut_piece a.1 a.2.1 a.2.2.1 a.2.2.2.1) := by
  refine fn_okP (fun _ => rfl) (by decide) fun B a s => ?_
  obtain ⟨word_241, times_242, begin_243, end_244, _⟩ := a
  have h : J B 8 (Kfn (R := List ((List Nat) × (Int))) B) [(0, w_ word_241), (1, w_ times_242), (2, w_ begin_243), (3, w_ end_244)] [] t_cut_piece s _ := (j_a2 (ja_v (α := Int) (e_cb1 o_lenS (E.el (e_var (α := List Nat) rfl))) (fun size_245 s_246 => (ja_v (α := Int) (e_op2 o_modI (E.el (e_var (α := Int) rfl)) (fun _ => (E.el (e_cb1 o_lenS (E.el (e_var (α := List Nat) rfl)))))) (fun head_247 s_248 => (ja_end (is := [4, 5]) (by decide) (fun _ _ => rfl) (j_if (t_val (e_op2 o_le (E.el (e_op2 o_subI (E.el (e_var (α := Int) rfl)) (fun _ => (E.el (e_var (α := Int) rfl))))) (fun _ => (E.el (e_op2 o_mulI (E.el e_int) (fun _ => (E.el (e_var (α := Int) rfl)))))))) (fun _ => (j_term (j_last (j_retI (ret_t ret_fn) (e_lst (al_cons (e_tup2 (a_cons (e_sl sl_str (E.el (e_op2 o_mulS (E.el (e_var (α := List Nat) rfl)) (fun _ => (E.el e_int)))) (fun _ => (o_so (e_var (α := Int) rfl))) (fun _ => (o_so (e_op2 o_subI (E.el (e_op2 o_addI (E.el (e_var (α := Int) rfl)) (fun _ => (E.el (e_var (α := Int) rfl))))) (fun _ => (E.el (e_var (α := Int) rfl))))))) (fun _ => (a_cons e_int (fun _ => a_nil))))) (fun _ => al_nil))))))) (fun _ => (j_nil (j_set (α := List Nat) (by decide) (e_if (t_val (e_op2 o_gt (E.el (e_var (α := Int) rfl)) (fun _ => (E.el e_int)))) (fun _ => (e_sl sl_str (E.el (e_var (α := List Nat) rfl)) (fun _ => (o_so (e_var (α := Int) rfl))) (fun _ => o_no))) (fun _ => e_str)) (fun first_250 s_251 => (j_set (α := Int) (by decide) (e_op2 o_subI (E.el (e_op2 o_subI (E.el (e_var (α := Int) rfl)) (fun _ => (E.el (e_var (α := Int) rfl))))) (fun _ => (E.el (e_cb1 o_lenS (E.el (e_var (α := List Nat) rfl)))))) (fun left_252 s_253 => (j_last (j_retI ret_fn (e_lst (al_cons (e_tup2 (a_cons (e_var (α := List Nat) rfl) (fun _ => (a_cons e_int (fun _ => a_nil))))) (fun _ => (al_cons (e_tup2 (a_cons (e_var (α := List Nat) rfl) (fun _ => (a_cons (e_op2 o_divI (E.el (e_var (α := Int) rfl)) (fun _ => (E.el (e_var (α := Int) rfl)))) (fun _ => a_nil))))) (fun _ => (al_cons (e_tup2 (a_cons (e_sl sl_str (E.el (e_var (α := List Nat) rfl)) (fun _ => o_no) (fun _ => (o_so (e_op2 o_modI (E.el (e_var (α := Int) rfl)) (fun _ => (E.el (e_var (α := Int) rfl))))))) (fun _ => (a_cons e_int (fun _ => a_nil))))) (fun _ => al_nil))))))))))))))))))))))
  exact h
theorem r_Row_part : FnP (A := (Row) × (Int) × (Int) × (Unit)) (R := Row) m_Row_part (fun a => d_Row_part a.1 a.2.1 a.2.2.1) := by
  refine fn_okP (fun _ => rfl) (by decide) fun B a s => ?_
  obtain ⟨self_214, first_215, last_216, _⟩ := a
  have h : J B 10 (Kfn (R := Row) B) [(0, w_ self_214), (1, w_ first_215), (2, w_ last_216)] [] t_Row_part s _ := (j_if (t_or (t_not (t_val (e_callU r_is_integer_i (a_cons (e_var (α := Int) rfl) (fun _ => a_nil))))) (fun _ => (t_not (t_val (e_chain o_le o_le e_int (fun _ => (e_var (α := Int) rfl)) (fun _ => (e_op2 o_addI (E.el (e_lenOU (fun _ _ => rfl) r_Row__len (e_var (α := Row) rfl))) (fun _ => (E.el e_int))))))))) (fun _ => (j_term (j_last j_never))) (fun _ => (j_nil (j_if (t_or (t_not (t_val (e_callU r_is_integer_i (a_cons (e_var (α := Int) rfl) (fun _ => a_nil))))) (fun _ => (t_not (t_val (e_chain o_le o_le (e_op2 o_subI (E.el (e_var (α := Int) rfl)) (fun _ => (E.el e_int))) (fun _ => (e_var (α := Int) rfl)) (fun _ => (e_lenOU (fun _ _ => rfl) r_Row__len (e_var (α := Row) rfl)))))))) (fun _ => (j_term (j_last j_never))) (fun _ => (j_nil (j_a2 (ja_c (α := (List Nat) × (Int)) (c_lst al_nil) (fun k_227 found_228 s_229 => (ja_v (α := Int) e_int (fun ahead_230 s_231 => (ja_end (is := [3, 4]) (by decide) (fun _ _ => rfl) (j_for (β := (List Nat) × (Int)) (S := (List ((List Nat) × (Int))) × (Int)) (oG := fun v => [(1, w_ first_215), (2, w_ last_216), (3, .loc (B.b + k_227)), (4, w_ v.2)]) (oC := fun v => [(k_227, cl_ v.1)]) (v0 := (found_228, ahead_230)) (i_any it_lst (e_attr (f := Row.pieces) (fun _ _ => rfl) (e_var (α := Row) rfl))) (tg_2 (tg_nm (α := List Nat) (by decide)) (tg_nm (α := Int) (by decide))) (fun i_233 v_232 s_234 => (j_set (α := Int) (by decide) (e_op2 o_mulI (E.el (e_cb1 o_lenS (E.el (e_var (α := List Nat) rfl)))) (fun _ => (E.el (e_var (α := Int) rfl)))) (fun size_235 s_236 => (j_a2 (ja_v (α := Int) (e_cb2 o_max2 (e_op2 o_subI (E.el (e_op2 o_subI (E.el (e_var (α := Int) rfl)) (fun _ => (E.el e_int)))) (fun _ => (E.el (e_var (α := Int) rfl)))) (fun _ => e_int)) (fun firsthere_237 s_238 => (ja_v (α := Int) (e_cb2 o_min2 (e_op2 o_subI (E.el (e_var (α := Int) rfl)) (fun _ => (E.el (e_var (α := Int) rfl)))) (fun _ => (e_var (α := Int) rfl))) (fun end_239 s_240 => (ja_end (is := [8, 9]) (by decide) (fun _ _ => rfl) (j_ifJ (S := (List ((List Nat) × (Int)))) (oG := fun v => [(1, w_ first_215), (2, w_ last_216), (3, .loc (B.b + k_227)), (4, w_ v_232.2), (7, w_ size_235)]) (oC := fun v => [(k_227, cl_ v)]) (t_val (e_op2 o_lt (E.el (e_var (α := Int) rfl)) (fun _ => (E.el (e_var (α := Int) rfl))))) (fun _ => (j_last (j_ext (p := 0) rfl (e_callU r_cut_piece (a_cons (e_var (α := List Nat) rfl) (fun _ => (a_cons (e_var (α := Int) rfl) (fun _ => (a_cons (e_var (α := Int) rfl) (fun _ => (a_cons (e_var (α := Int) rfl) (fun _ => a_nil))))))))) (.head _) rfl (fun found_267 s_268 => (j_end (end_j (v := found_267) (sub_cons rfl (sub_cons rfl (sub_cons rfl (sub_cons rfl (sub_cons rfl sub_nil))))) (.cons₂ _ .slnil))))))) (fun _ => (j_end (end_j (v := v_232.1) (sub_cons rfl (sub_cons rfl (sub_cons rfl (sub_cons rfl (sub_cons rfl sub_nil))))) (.cons₂ _ .slnil)))) (fun v_269 s_270 => (j_last (j_aug (by decide) o_iaddI rfl (E.el (e_var (α := Int) rfl)) (fun ahead_271 s_272 => (j_end (end_s (v := (v_269, ahead_271)) (sub_cons rfl (sub_cons rfl (sub_cons rfl (sub_cons rfl sub_nil)))) (.cons₂ _ .slnil))))))))))))))))) (sub_cons rfl (sub_cons rfl (sub_cons rfl (sub_cons rfl sub_nil)))) (.cons₂ _ .slnil) (fun v_273 s_274 => (j_last (j_retI ret_fn (e_callU r_Row__init_Pieces (a_cons (e_callU r_Pieces__init (a_cons (e_frz (p := 0) rfl rfl) (fun _ => a_nil))) (fun _ => a_nil)))))))))))))))))))
  exact h
theorem r_law_r_built : FnG (A := (Rs) × (List Nat) × (Unit)) (R := Row) wS m__law_r_built (fun a s => d_law_r_built a.2.1 s) := by
  refine fn_ok (fun _ => rfl) (by decide) fun B a s => ?_
  obtain ⟨_, text_166, _⟩ := a
  have h : J B 4 (Kfn (R := Row) B) [(0, .loc 1), (1, w_ text_166)] [] t__law_r_built s _ := (j_a2 (ja_v (α := Int) (e_callS r_law_draw (a_sp rfl (a_cons e_int (fun _ => a_nil)))) (fun way_167 s_168 => (ja_v (α := Int) (e_callS r_law_draw (a_sp rfl (a_cons (e_op2 o_addI (E.el (e_cb1 o_lenS (E.el (e_var (α := List Nat) rfl)))) (fun _ => (E.el e_int))) (fun _ => a_nil)))) (fun cut_169 s_170 => (ja_end (is := [2, 3]) (by decide) (fun _ _ => rfl) (j_if (t_val (e_op2 o_eqI (E.el (e_var (α := Int) rfl)) (fun _ => (E.el e_int)))) (fun _ => (j_term (j_last (j_retI (ret_t ret_fn) (e_call r_Row__init_s (a_cons (e_var (α := List Nat) rfl) (fun _ => a_nil))))))) (fun _ => (j_nil (j_if (t_val (e_op2 o_eqI (E.el (e_var (α := Int) rfl)) (fun _ => (E.el e_int)))) (fun _ => (j_term (j_last (j_retI (ret_t ret_fn) (e_own2 (fun _ _ => rfl) (fun _ _ => rfl) r_Row__add_RowRow (e_call r_Row__init_s (a_cons (e_sl sl_str (E.el (e_var (α := List Nat) rfl)) (fun _ => o_no) (fun _ => (o_so (e_var (α := Int) rfl)))) (fun _ => a_nil))) (fun _ => (e_call r_Row__init_s (a_cons (e_sl sl_str (E.el (e_var (α := List Nat) rfl)) (fun _ => (o_so (e_var (α := Int) rfl))) (fun _ => o_no)) (fun _ => a_nil))))))))) (fun _ => (j_nil (j_if (t_val (e_op2 o_eqI (E.el (e_var (α := Int) rfl)) (fun _ => (E.el e_int)))) (fun _ => (j_term (j_last (j_retI (ret_t ret_fn) (e_ownR (fun _ _ => rfl) (fun _ _ => rfl) r_Row__radd_Rows (e_sl sl_str (E.el (e_var (α := List Nat) rfl)) (fun _ => o_no) (fun _ => (o_so (e_var (α := Int) rfl)))) (fun _ => (e_call r_Row__init_s (a_cons (e_sl sl_str (E.el (e_var (α := List Nat) rfl)) (fun _ => (o_so (e_var (α := Int) rfl))) (fun _ => o_no)) (fun _ => a_nil))))))))) (fun _ => (j_nil (j_if (t_val (e_op2 o_eqI (E.el (e_var (α := Int) rfl)) (fun _ => (E.el e_int)))) (fun _ => (j_term (j_last (j_retI (ret_t ret_fn) (e_own2 (fun _ _ => rfl) (fun _ _ => rfl) r_Row__add_Rows (e_call r_Row__init_s (a_cons (e_sl sl_str (E.el (e_var (α := List Nat) rfl)) (fun _ => o_no) (fun _ => (o_so (e_var (α := Int) rfl)))) (fun _ => a_nil))) (fun _ => (e_sl sl_str (E.el (e_var (α := List Nat) rfl)) (fun _ => (o_so (e_var (α := Int) rfl))) (fun _ => o_no)))))))) (fun _ => (j_nil (j_last (j_retI ret_fn (e_meth (fun _ _ => rfl) r_Row_part (e_call r_Row__init_s (a_cons (e_op2 o_addS (E.el (e_op2 o_addS (E.el (e_op2 o_mulS (E.el (e_co co_chr e_chr)) (fun _ => (E.el e_int)))) (fun _ => (E.el (e_var (α := List Nat) rfl))))) (fun _ => (E.el e_str))) (fun _ => a_nil))) (fun _ => (a_cons e_int (fun _ => (a_cons (e_op2 o_addI (E.el e_int) (fun _ => (E.el (e_cb1 o_lenS (E.el (e_var (α := List Nat) rfl)))))) (fun _ => a_nil))))))))))))))))))))))))))
  exact h
theorem r_law_r_handed : FnG (A := (Rs) × (List Nat) × (Unit)) (R := Ei (List Nat) (Row)) wS m__law_r_handed (fun a s => d_law_r_handed a.2.1 s) := by
  refine fn_ok (fun _ => rfl) (by decide) fun B a s => ?_
  obtain ⟨_, text_165, _⟩ := a
  have h : J B 2 (Kfn (R := Ei (List Nat) (Row)) B) [(0, .loc 1), (1, w_ text_165)] [] t__law_r_handed s _ := (j_last (j_retI ret_fn (e_if (t_val (e_op2 o_eqI (E.el (e_callS r_law_draw (a_sp rfl (a_cons e_int (fun _ => a_nil))))) (fun _ => (E.el e_int)))) (fun _ => (e_co (f := fun x => (Ei.a x : Ei (List Nat) (Row))) (fun _ => rfl) (e_var (α := List Nat) rfl))) (fun _ => (e_co (f := fun x => (Ei.b x : Ei (List Nat) (Row))) (fun _ => rfl) (e_callS r_law_r_built (a_sp rfl (a_cons (e_var (α := List Nat) rfl) (fun _ => a_nil)))))))))
  exact h
theorem r_check_slot_ii : FnP (A := (Int) × (Int) × (Unit)) (R := Unit) m_check_slot (fun a => d_check_slot_ii a.1 a.2.1) := by
  refine fn_okP (fun _ => rfl) (by decide) fun B a s => ?_
  obtain ⟨slot_338, last_339, _⟩ := a
  have h : J B 2 (Kfn (R := Unit) B) [(0, w_ slot_338), (1, w_ last_339)] [] t_check_slot s _ := (j_last (j_if (t_or (t_not (t_val (e_callU r_is_integer_i (a_cons (e_var (α := Int) rfl) (fun _ => a_nil))))) (fun _ => (t_not (t_val (e_chainT o_le o_le e_int (fun _ => (e_var (α := Int) rfl)) (fun _ => (e_var (α := Int) rfl))))))) (fun _ => (j_term (j_last j_never))) (fun _ => (j_nil (j_end end_fn)))))
  exact h
theorem r_stepped : FnP (A := ((Int) × (Int)) × (Ch) × (Unit)) (R := (Int) × (Int)) m_stepped (fun a => d_stepped a.1 a.2.1) := by
  refine fn_okP (fun _ => rfl) (by decide) fun B a s => ?_
  obtain ⟨state_366, kind_367, _⟩ := a
  have h : J B 5 (Kfn (R := (Int) × (Int)) B) [(0, w_ state_366), (1, w_ kind_367)] [] t_stepped s _ := (j_asg (α := (Int) × (Int)) (tg_2 (tg_nm (α := Int) (by decide)) (tg_nm (α := Int) (by decide))) (e_var (α := (Int) × (Int)) rfl) (fun p_368 s_369 => (j_if (t_val (e_op2 o_eqC (E.el (e_var (α := Ch) rfl)) (fun _ => (E.el e_chr)))) (fun _ => (j_term (j_last (j_retI (ret_t ret_fn) (e_tup2 (a_cons (e_op2 o_addI (E.el (e_var (α := Int) rfl)) (fun _ => (E.el e_int))) (fun _ => (a_cons (e_op2 o_addI (E.el (e_var (α := Int) rfl)) (fun _ => (E.el e_int))) (fun _ => a_nil))))))))) (fun _ => (j_nil (j_if (t_val (e_op2 o_eqC (E.el (e_var (α := Ch) rfl)) (fun _ => (E.el e_chr)))) (fun _ => (j_term (j_last (j_retI (ret_t ret_fn) (e_var (α := (Int) × (Int)) rfl))))) (fun _ => (j_nil (j_set (α := Bool) (by decide) (e_andT (e_op2 o_eqI (E.el (e_var (α := Int) rfl)) (fun _ => (E.el e_int))) (fun _ => (e_orT (e_op2 o_gt (E.el (e_var (α := Int) rfl)) (fun _ => (E.el e_int))) (fun _ => (e_op2 o_eqC (E.el (e_var (α := Ch) rfl)) (fun _ => (E.el e_chr))))))) (fun stays_372 s_373 => (j_last (j_retI ret_fn (e_tup2 (a_cons (e_cb2 o_max2 (e_op2 o_subI (E.el (e_var (α := Int) rfl)) (fun _ => (E.el e_int))) (fun _ => e_int)) (fun _ => (a_cons (e_ifT' (t_val (e_var (α := Bool) rfl)) (fun _ => (e_var (α := Int) rfl)) (fun _ => (e_op2 o_subI (E.el (e_var (α := Int) rfl)) (fun _ => (E.el e_int))))) (fun _ => a_nil)))))))))))))))))
  exact h
theorem r_states_of : FnP (A := (List Nat) × ((Int) × (Int)) × (Unit)) (R := List ((Int) × (Int))) m_states_of (fun a => d_states_of a.1 a.2.1) := by
  refine fn_okP (fun _ => rfl) (by decide) fun B a s => ?_
  obtain ⟨word_358, state_359, _⟩ := a
  have h : J B 4 (Kfn (R := List ((Int) × (Int))) B) [(0, w_ word_358), (1, w_ state_359)] [] t_states_of s _ := (j_setC (α := (Int) × (Int)) (by decide) (c_lst (al_cons (e_var (α := (Int) × (Int)) rfl) (fun _ => al_nil))) (fun k_360 found_361 s_362 => (j_for (β := Ch) (S := (List ((Int) × (Int)))) (oG := fun v => [(2, .loc (B.b + k_360))]) (oC := fun v => [(k_360, cl_ v)]) (v0 := found_361) (i_any it_str (e_var (α := List Nat) rfl)) (tg_nm (α := Ch) (by decide)) (fun i_364 v_363 s_365 => (j_last (j_app (p := 0) rfl (e_callU r_stepped (a_cons (e_ixC rfl (.head _) (e_op1 o_neg (E.el e_int))) (fun _ => (a_cons (e_var (α := Ch) rfl) (fun _ => a_nil))))) (.head _) rfl (fun found_374 s_375 => (j_end (end_s (v := found_374) (sub_cons rfl sub_nil) (.cons₂ _ .slnil))))))) (sub_cons rfl sub_nil) (.cons₂ _ .slnil) (fun v_376 s_377 => (j_last (j_retI ret_fn (e_frz (p := 0) rfl rfl)))))))
  exact h
theorem r_rounds_alike : FnP (A := (List Nat) × (List ((Int) × (Int))) × (Int) × (Unit)) (R := Int) m_rounds_alike (fun a => d_rounds_alike a.1 a.2.1 a.2.2.1) := by
  refine fn_okP (fun _ => rfl) (by decide) fun B a s => ?_
  obtain ⟨word_382, states_383, most_384, _⟩ := a
  have h : J B 11 (Kfn (R := Int) B) [(0, w_ word_382), (1, w_ states_383), (2, w_ most_384)] [] t_rounds_alike s _ := (j_set (α := List ((Int) × (Int))) (by decide) (c_frz (c_lcT (α := (Int) × (Int)) (β := ((Int) × (Int)) × (Ch)) (c := fun x_385 => (decide (x_385.2.c ∈ ([104, 72] : List Nat)))) (v := fun x_385 => x_385.1) (i_zip d_lst d_str (e_var (α := List ((Int) × (Int))) rfl) (fun _ => (e_var (α := List Nat) rfl))) (tg_2 (tg_nm (α := (Int) × (Int)) (by decide)) (tg_nm (α := Ch) (by decide))) (fun _ => rfl) (fun x_385 _ _ _ => (t_val (e_op2 o_inCh (E.el (e_var (α := Ch) rfl)) (fun _ => (E.el e_str))))) (fun x_385 _ _ _ => (e_var (α := (Int) × (Int)) rfl)))) (fun met_386 s_387 => (j_if (t_val (e_op2 (o_eq (α := List ((Int) × (Int))) (by decide)) (E.el (e_var (α := List ((Int) × (Int))) rfl)) (fun _ => (E.el (e_lst al_nil))))) (fun _ => (j_term (j_last (j_retI (ret_t ret_fn) (e_var (α := Int) rfl))))) (fun _ => (j_nil (j_a2 (ja_v (α := Int) (e_op2 o_subI (E.el (e_ixT (i := 0) (f := fun (a : (Int) × (Int)) => a.1) (fun _ _ => rfl) (e_ixL (e_var (α := List ((Int) × (Int))) rfl) (fun _ => (e_op1 o_neg (E.el e_int)))) (fun _ => e_int))) (fun _ => (E.el (e_ixT (i := 0) (f := fun (a : (Int) × (Int)) => a.1) (fun _ _ => rfl) (e_ixL (e_var (α := List ((Int) × (Int))) rfl) (fun _ => e_int)) (fun _ => e_int))))) (fun up_389 s_390 => (ja_v (α := Int) (e_op2 o_subI (E.el (e_ixT (i := 1) (f := fun (a : (Int) × (Int)) => a.2) (fun _ _ => rfl) (e_ixL (e_var (α := List ((Int) × (Int))) rfl) (fun _ => (e_op1 o_neg (E.el e_int)))) (fun _ => e_int))) (fun _ => (E.el (e_ixT (i := 1) (f := fun (a : (Int) × (Int)) => a.2) (fun _ _ => rfl) (e_ixL (e_var (α := List ((Int) × (Int))) rfl) (fun _ => e_int)) (fun _ => e_int))))) (fun more_391 s_392 => (ja_end (is := [4, 5]) (by decide) (fun _ _ => rfl) (j_set (α := Int) (by decide) (e_cb1 o_minL (E.el (c_frz (c_mapT (α := Int) (β := (Int) × (Int)) (v := fun x_393 => x_393.1) (i_any it_lst (e_var (α := List ((Int) × (Int))) rfl)) (tg_nm (α := (Int) × (Int)) (by decide)) (fun _ => rfl) (fun x_393 _ _ _ => (e_ixT (i := 0) (f := fun (a : (Int) × (Int)) => a.1) (fun _ _ => rfl) (e_var (α := (Int) × (Int)) rfl) (fun _ => e_int))))))) (fun low_394 s_395 => (j_a2 (ja_v (α := Int) (e_cb1 o_minL (E.el (c_frz (c_mapT (α := Int) (β := (Int) × (Int)) (v := fun x_396 => x_396.2) (i_any it_lst (e_var (α := List ((Int) × (Int))) rfl)) (tg_nm (α := (Int) × (Int)) (by decide)) (fun _ => rfl) (fun x_396 _ _ _ => (e_ixT (i := 1) (f := fun (a : (Int) × (Int)) => a.2) (fun _ _ => rfl) (e_var (α := (Int) × (Int)) rfl) (fun _ => e_int))))))) (fun least_397 s_398 => (ja_v (α := Int) (e_cb1 o_maxL (E.el (c_frz (c_mapT (α := Int) (β := (Int) × (Int)) (v := fun x_399 => x_399.2) (i_any it_lst (e_var (α := List ((Int) × (Int))) rfl)) (tg_nm (α := (Int) × (Int)) (by decide)) (fun _ => rfl) (fun x_399 _ _ _ => (e_ixT (i := 1) (f := fun (a : (Int) × (Int)) => a.2) (fun _ _ => rfl) (e_var (α := (Int) × (Int)) rfl) (fun _ => e_int))))))) (fun greatest_400 s_401 => (ja_end (is := [7, 8]) (by decide) (fun _ _ => rfl) (j_if (t_orT (t_andT (t_val (e_op2 (ne_of o_eqI) (E.el (e_var (α := Int) rfl)) (fun _ => (E.el e_int)))) (fun _ => (t_val (e_op2 o_eqI (E.el (e_var (α := Int) rfl)) (fun _ => (E.el e_int)))))) (fun _ => (t_andT (t_val (e_op2 (ne_of o_eqI) (E.el (e_var (α := Int) rfl)) (fun _ => (E.el e_int)))) (fun _ => (t_val (e_chainT o_le o_le (e_var (α := Int) rfl) (fun _ => e_int) (fun _ => (e_var (α := Int) rfl)))))))) (fun _ => (j_term (j_last (j_retI (ret_t ret_fn) e_int)))) (fun _ => (j_nil (j_ifJ (S := (Int)) (oG := fun v => [(2, w_ v), (5, w_ more_391), (7, w_ least_397), (8, w_ greatest_400)]) (oC := fun v => []) (t_val (e_op2 o_lt (E.el (e_var (α := Int) rfl)) (fun _ => (E.el e_int)))) (fun _ => (j_last (j_set (α := Int) (by decide) (e_cb2 o_min2 (e_var (α := Int) rfl) (fun _ => (e_op2 o_divI (E.el (e_op2 o_subI (E.el (e_var (α := Int) rfl)) (fun _ => (E.el e_int)))) (fun _ => (E.el (e_op2 o_subI (E.el e_int) (fun _ => (E.el (e_var (α := Int) rfl))))))))) (fun most_403 s_404 => (j_end (end_j (v := most_403) (sub_cons rfl (sub_cons rfl (sub_cons rfl (sub_cons rfl sub_nil)))) .slnil)))))) (fun _ => (j_end (end_j (v := most_384) (sub_cons rfl (sub_cons rfl (sub_cons rfl (sub_cons rfl sub_nil)))) .slnil))) (fun v_405 s_406 => (j_ifJ (S := (Int)) (oG := fun v => [(2, w_ v), (5, w_ more_391), (8, w_ greatest_400)]) (oC := fun v => []) (t_andT (t_val (e_op2 o_lt (E.el (e_var (α := Int) rfl)) (fun _ => (E.el e_int)))) (fun _ => (t_val (e_op2 o_gt (E.el (e_var (α := Int) rfl)) (fun _ => (E.el e_int)))))) (fun _ => (j_last (j_set (α := Int) (by decide) (e_cb2 o_min2 (e_var (α := Int) rfl) (fun _ => (e_op2 o_divI (E.el (e_op2 o_subI (E.el (e_var (α := Int) rfl)) (fun _ => (E.el e_int)))) (fun _ => (E.el (e_op2 o_subI (E.el e_int) (fun _ => (E.el (e_var (α := Int) rfl))))))))) (fun most_407 s_408 => (j_end (end_j (v := most_407) (sub_cons rfl (sub_cons rfl (sub_cons rfl sub_nil))) .slnil)))))) (fun _ => (j_end (end_j (v := v_405) (sub_cons rfl (sub_cons rfl (sub_cons rfl sub_nil))) .slnil))) (fun v_409 s_410 => (j_ifJ (S := (Int)) (oG := fun v => [(2, w_ v)]) (oC := fun v => []) (t_andT (t_val (e_op2 o_gt (E.el (e_var (α := Int) rfl)) (fun _ => (E.el e_int)))) (fun _ => (t_val (e_op2 o_lt (E.el (e_var (α := Int) rfl)) (fun _ => (E.el e_int)))))) (fun _ => (j_last (j_set (α := Int) (by decide) (e_cb2 o_min2 (e_var (α := Int) rfl) (fun _ => (e_op2 o_divI (E.el (e_op2 o_subI (E.el (e_op2 o_subI (E.el e_int) (fun _ => (E.el e_int)))) (fun _ => (E.el (e_var (α := Int) rfl))))) (fun _ => (E.el (e_var (α := Int) rfl)))))) (fun most_411 s_412 => (j_end (end_j (v := most_411) (sub_cons rfl sub_nil) .slnil)))))) (fun _ => (j_end (end_j (v := v_409) (sub_cons rfl sub_nil) .slnil))) (fun v_413 s_414 => (j_last (j_retI ret_fn (e_var (α := Int) rfl)))))))))))))))))))))))))))))))
  exact h
theorem r_powered : FnP (A := (List Nat) × (Int) × ((Int) × (Int)) × (Unit)) (R := (Int) × (Int)) m_powered (fun a => d_powered a.1 a.2.1 a.2.2.1) := by
  refine fn_okP (fun _ => rfl) (by decide) fun B a s => ?_
  obtain ⟨word_353, times_354, state_355, _⟩ := a
  have h : J B 7 (Kfn (R := (Int) × (Int)) B) [(0, w_ word_353), (1, w_ times_354), (2, w_ state_355)] [] t_powered s _ := (j_wh (S := ((Int) × (Int)) × (Int)) (oG := fun v => [(0, w_ word_353), (1, w_ v.2), (2, w_ v.1)]) (oC := fun v => [])  (v0 := (state_355, times_354))  (fun v_356 s_357 => (t_val (e_op2 o_gt (E.el (e_var (α := Int) rfl)) (fun _ => (E.el e_int))))) (fun v_356 s_357 => (j_set (α := List ((Int) × (Int))) (by decide) (e_callU r_states_of (a_cons (e_var (α := List Nat) rfl) (fun _ => (a_cons (e_var (α := (Int) × (Int)) rfl) (fun _ => a_nil))))) (fun states_380 s_381 => (j_set (α := Int) (by decide) (e_op2 o_addI (E.el e_int) (fun _ => (E.el (e_callU r_rounds_alike (a_cons (e_var (α := List Nat) rfl) (fun _ => (a_cons (e_var (α := List ((Int) × (Int))) rfl) (fun _ => (a_cons (e_op2 o_subI (E.el (e_var (α := Int) rfl)) (fun _ => (E.el e_int))) (fun _ => a_nil)))))))))) (fun many_437 s_438 => (j_a2 (ja_v (α := Int) (e_op2 o_subI (E.el (e_ixT (i := 0) (f := fun (a : (Int) × (Int)) => a.1) (fun _ _ => rfl) (e_ixL (e_var (α := List ((Int) × (Int))) rfl) (fun _ => (e_op1 o_neg (E.el e_int)))) (fun _ => e_int))) (fun _ => (E.el (e_ixT (i := 0) (f := fun (a : (Int) × (Int)) => a.1) (fun _ _ => rfl) (e_var (α := (Int) × (Int)) rfl) (fun _ => e_int))))) (fun up_439 s_440 => (ja_v (α := Int) (e_op2 o_subI (E.el (e_ixT (i := 1) (f := fun (a : (Int) × (Int)) => a.2) (fun _ _ => rfl) (e_ixL (e_var (α := List ((Int) × (Int))) rfl) (fun _ => (e_op1 o_neg (E.el e_int)))) (fun _ => e_int))) (fun _ => (E.el (e_ixT (i := 1) (f := fun (a : (Int) × (Int)) => a.2) (fun _ _ => rfl) (e_var (α := (Int) × (Int)) rfl) (fun _ => e_int))))) (fun more_441 s_442 => (ja_end (is := [5, 6]) (by decide) (fun _ _ => rfl) (j_set (α := (Int) × (Int)) (by decide) (e_tup2 (a_cons (e_op2 o_addI (E.el (e_ixT (i := 0) (f := fun (a : (Int) × (Int)) => a.1) (fun _ _ => rfl) (e_var (α := (Int) × (Int)) rfl) (fun _ => e_int))) (fun _ => (E.el (e_op2 o_mulI (E.el (e_var (α := Int) rfl)) (fun _ => (E.el (e_var (α := Int) rfl))))))) (fun _ => (a_cons (e_op2 o_addI (E.el (e_ixT (i := 1) (f := fun (a : (Int) × (Int)) => a.2) (fun _ _ => rfl) (e_var (α := (Int) × (Int)) rfl) (fun _ => e_int))) (fun _ => (E.el (e_op2 o_mulI (E.el (e_var (α := Int) rfl)) (fun _ => (E.el (e_var (α := Int) rfl))))))) (fun _ => a_nil))))) (fun state_443 s_444 => (j_last (j_aug (by decide) o_subI rfl (E.el (e_var (α := Int) rfl)) (fun times_445 s_446 => (j_end (end_s (v := (state_443, times_445)) (sub_cons rfl (sub_cons rfl (sub_cons rfl sub_nil))) .slnil)))))))))))))))))) (sub_cons rfl (sub_cons rfl (sub_cons rfl sub_nil))) .slnil (fun v_447 s_448 => (j_last (j_retI ret_fn (e_var (α := (Int) × (Int)) rfl)))))
  exact h
theorem r_through : FnP (A := (Row) × ((Int) × (Int)) × (Unit)) (R := (Int) × (Int)) m_through (fun a => d_through a.1 a.2.1) := by
  refine fn_okP (fun _ => rfl) (by decide) fun B a s => ?_
  obtain ⟨row_348, state_349, _⟩ := a
  have h : J B 4 (Kfn (R := (Int) × (Int)) B) [(0, w_ row_348), (1, w_ state_349)] [] t_through s _ := (j_for (β := (List Nat) × (Int)) (S := ((Int) × (Int))) (oG := fun v => [(1, w_ v)]) (oC := fun v => []) (v0 := state_349) (i_any it_lst (e_attr (f := Row.pieces) (fun _ _ => rfl) (e_var (α := Row) rfl))) (tg_2 (tg_nm (α := List Nat) (by decide)) (tg_nm (α := Int) (by decide))) (fun i_351 v_350 s_352 => (j_last (j_set (α := (Int) × (Int)) (by decide) (e_callU r_powered (a_cons (e_var (α := List Nat) rfl) (fun _ => (a_cons (e_var (α := Int) rfl) (fun _ => (a_cons (e_var (α := (Int) × (Int)) rfl) (fun _ => a_nil))))))) (fun state_458 s_459 => (j_end (end_s (v := state_458) (sub_cons rfl sub_nil) .slnil)))))) (sub_cons rfl sub_nil) .slnil (fun v_460 s_461 => (j_last (j_retI ret_fn (e_var (α := (Int) × (Int)) rfl)))))
  exact h
theorem r_reach_Row : FnP (A := (Row) × (Unit)) (R := Int) m_reach (fun a => d_reach_Row a.1) := by
  refine fn_okP (fun _ => rfl) (by decide) fun B a s => ?_
  obtain ⟨row_347, _⟩ := a
  have h : J B 1 (Kfn (R := Int) B) [(0, w_ row_347)] [] t_reach s _ := (j_last (j_retI ret_fn (e_ixT (i := 0) (f := fun (a : (Int) × (Int)) => a.1) (fun _ _ => rfl) (e_callU r_through (a_cons (e_callU r_row_of_Row (a_cons (e_var (α := Row) rfl) (fun _ => a_nil))) (fun _ => (a_cons (e_tup2 (a_cons e_int (fun _ => (a_cons e_int (fun _ => a_nil))))) (fun _ => a_nil))))) (fun _ => e_int))))
  exact h
theorem r_both : FnP (A := (Row) × (Int) × (Unit)) (R := (Int) × (Int)) m_both (fun a => d_both a.1 a.2.1) := by
  refine fn_okP (fun _ => rfl) (by decide) fun B a s => ?_
  obtain ⟨row_345, slot_346, _⟩ := a
  have h : J B 3 (Kfn (R := (Int) × (Int)) B) [(0, w_ row_345), (1, w_ slot_346)] [] t_both s _ := (j_set (α := Int) (by decide) (e_callU r_reach_Row (a_cons (e_methU (fun _ _ => rfl) r_Row_part (e_var (α := Row) rfl) (fun _ => (a_cons e_int (fun _ => (a_cons (e_op2 o_subI (E.el (e_var (α := Int) rfl)) (fun _ => (E.el e_int))) (fun _ => a_nil)))))) (fun _ => a_nil))) (fun begin_464 s_465 => (j_last (j_retI ret_fn (e_callU r_through (a_cons (e_methU (fun _ _ => rfl) r_Row_part (e_var (α := Row) rfl) (fun _ => (a_cons (e_var (α := Int) rfl) (fun _ => (a_cons (e_lenOU (fun _ _ => rfl) r_Row__len (e_var (α := Row) rfl)) (fun _ => a_nil)))))) (fun _ => (a_cons (e_tup2 (a_cons (e_var (α := Int) rfl) (fun _ => (a_cons (e_var (α := Int) rfl) (fun _ => a_nil))))) (fun _ => a_nil)))))))))
  exact h
theorem r_needed_si : FnP (A := (List Nat) × (Int) × (Unit)) (R := Int) m_needed (fun a => d_needed_si a.1 a.2.1) := by
  refine fn_okP (fun _ => rfl) (by decide) fun B a s => ?_
  obtain ⟨row_334, slot_335, _⟩ := a
  have h : J B 5 (Kfn (R := Int) B) [(0, w_ row_334), (1, w_ slot_335)] [] t_needed s _ := (j_set (α := Row) (by decide) (e_callU r_row_of_s (a_cons (e_var (α := List Nat) rfl) (fun _ => a_nil))) (fun whole_336 s_337 => (j_expr (e_callU r_check_slot_ii (a_cons (e_var (α := Int) rfl) (fun _ => (a_cons (e_lenOU (fun _ _ => rfl) r_Row__len (e_var (α := Row) rfl)) (fun _ => a_nil))))) (fun s_344 => (j_asg (α := (Int) × (Int)) (tg_2 (tg_nm (α := Int) (by decide)) (tg_nm (α := Int) (by decide))) (e_callU r_both (a_cons (e_var (α := Row) rfl) (fun _ => (a_cons (e_var (α := Int) rfl) (fun _ => a_nil))))) (fun p_470 s_471 => (j_last (j_retI ret_fn (e_ifT' (t_val (e_op2 o_ge (E.el (e_var (α := Int) rfl)) (fun _ => (E.el e_int)))) (fun _ => (e_op2 o_addI (E.el (e_var (α := Int) rfl)) (fun _ => (E.el e_int)))) (fun _ => e_int))))))))))
  exact h
theorem r_needed_Rowi : FnP (A := (Row) × (Int) × (Unit)) (R := Int) m_needed (fun a => d_needed_Rowi a.1 a.2.1) := by
  refine fn_okP (fun _ => rfl) (by decide) fun B a s => ?_
  obtain ⟨row_474, slot_475, _⟩ := a
  have h : J B 5 (Kfn (R := Int) B) [(0, w_ row_474), (1, w_ slot_475)] [] t_needed s _ := (j_set (α := Row) (by decide) (e_callU r_row_of_Row (a_cons (e_var (α := Row) rfl) (fun _ => a_nil))) (fun whole_476 s_477 => (j_expr (e_callU r_check_slot_ii (a_cons (e_var (α := Int) rfl) (fun _ => (a_cons (e_lenOU (fun _ _ => rfl) r_Row__len (e_var (α := Row) rfl)) (fun _ => a_nil))))) (fun s_478 => (j_asg (α := (Int) × (Int)) (tg_2 (tg_nm (α := Int) (by decide)) (tg_nm (α := Int) (by decide))) (e_callU r_both (a_cons (e_var (α := Row) rfl) (fun _ => (a_cons (e_var (α := Int) rfl) (fun _ => a_nil))))) (fun p_479 s_480 => (j_last (j_retI ret_fn (e_ifT' (t_val (e_op2 o_ge (E.el (e_var (α := Int) rfl)) (fun _ => (E.el e_int)))) (fun _ => (e_op2 o_addI (E.el (e_var (α := Int) rfl)) (fun _ => (E.el e_int)))) (fun _ => e_int))))))))))
  exact h
theorem r_needed_osRowi : FnP (A := (Ei (List Nat) (Row)) × (Int) × (Unit)) (R := Int) m_needed (fun a => d_needed_osRowi a.1 a.2.1) := fun rest s a h => by
  obtain ⟨x0, x1, u⟩ := a
  cases x0 with
  | a y => exact r_needed_si rest s (y, x1, u) h
  | b y => exact r_needed_Rowi rest s (y, x1, u) h
theorem r_law_t_step : FnP (A := ((Int) × (Int)) × (Ch) × (Unit)) (R := (Int) × (Int)) m__law_t_step (fun a => d_law_t_step a.1 a.2.1) := by
  refine fn_okP (fun _ => rfl) (by decide) fun B a s => ?_
  obtain ⟨state_501, sign_502, _⟩ := a
  have h : J B 4 (Kfn (R := (Int) × (Int)) B) [(0, w_ state_501), (1, w_ sign_502)] [] t__law_t_step s _ := (j_asg (α := (Int) × (Int)) (tg_2 (tg_nm (α := Int) (by decide)) (tg_nm (α := Int) (by decide))) (e_var (α := (Int) × (Int)) rfl) (fun p_503 s_504 => (j_if (t_val (e_op2 o_eqC (E.el (e_var (α := Ch) rfl)) (fun _ => (E.el e_chr)))) (fun _ => (j_term (j_last (j_retI (ret_t ret_fn) (e_tup2 (a_cons (e_op2 o_addI (E.el (e_var (α := Int) rfl)) (fun _ => (E.el e_int))) (fun _ => (a_cons (e_op2 o_addI (E.el (e_var (α := Int) rfl)) (fun _ => (E.el e_int))) (fun _ => a_nil))))))))) (fun _ => (j_nil (j_if (t_val (e_op2 o_eqC (E.el (e_var (α := Ch) rfl)) (fun _ => (E.el e_chr)))) (fun _ => (j_term (j_last (j_retI (ret_t ret_fn) (e_tup2 (a_cons (e_var (α := Int) rfl) (fun _ => (a_cons (e_var (α := Int) rfl) (fun _ => a_nil))))))))) (fun _ => (j_nil (j_if (t_andT (t_val (e_op2 o_eqI (E.el (e_var (α := Int) rfl)) (fun _ => (E.el e_int)))) (fun _ => (t_orT (t_val (e_op2 o_gt (E.el (e_var (α := Int) rfl)) (fun _ => (E.el e_int)))) (fun _ => (t_val (e_op2 o_eqC (E.el (e_var (α := Ch) rfl)) (fun _ => (E.el e_chr)))))))) (fun _ => (j_term (j_last (j_retI (ret_t ret_fn) (e_tup2 (a_cons (e_cb2 o_max2 (e_op2 o_subI (E.el (e_var (α := Int) rfl)) (fun _ => (E.el e_int))) (fun _ => e_int)) (fun _ => (a_cons e_int (fun _ => a_nil))))))))) (fun _ => (j_nil (j_last (j_retI ret_fn (e_tup2 (a_cons (e_cb2 o_max2 (e_op2 o_subI (E.el (e_var (α := Int) rfl)) (fun _ => (E.el e_int))) (fun _ => e_int)) (fun _ => (a_cons (e_op2 o_subI (E.el (e_var (α := Int) rfl)) (fun _ => (E.el e_int))) (fun _ => a_nil))))))))))))))))))
  exact h
theorem r_law_t_both : FnP (A := (List Nat) × (Int) × (Unit)) (R := (Int) × (Int)) m__law_t_both (fun a => d_law_t_both a.1 a.2.1) := by
  refine fn_okP (fun _ => rfl) (by decide) fun B a s => ?_
  obtain ⟨row_490, slot_491, _⟩ := a
  have h : J B 5 (Kfn (R := (Int) × (Int)) B) [(0, w_ row_490), (1, w_ slot_491)] [] t__law_t_both s _ := (j_set (α := (Int) × (Int)) (by decide) (e_tup2 (a_cons e_int (fun _ => (a_cons e_int (fun _ => a_nil))))) (fun state_492 s_493 => (j_for (β := (Int) × (Ch)) (S := ((Int) × (Int))) (oG := fun v => [(0, w_ row_490), (1, w_ slot_491), (2, w_ v)]) (oC := fun v => []) (v0 := state_492) (i_enum d_str (e_var (α := List Nat) rfl)) (tg_2 (tg_nm (α := Int) (by decide)) (tg_nm (α := Ch) (by decide))) (fun i_495 v_494 s_496 => (j_ifJ (S := ((Int) × (Int))) (oG := fun v => [(0, w_ row_490), (1, w_ slot_491), (2, w_ v), (4, w_ i_495.2)]) (oC := fun v => []) (t_val (e_op2 o_eqI (E.el (e_op2 o_addI (E.el (e_var (α := Int) rfl)) (fun _ => (E.el e_int)))) (fun _ => (E.el (e_var (α := Int) rfl))))) (fun _ => (j_last (j_set (α := (Int) × (Int)) (by decide) (e_tup2 (a_cons (e_ixT (i := 0) (f := fun (a : (Int) × (Int)) => a.1) (fun _ _ => rfl) (e_var (α := (Int) × (Int)) rfl) (fun _ => e_int)) (fun _ => (a_cons (e_ixT (i := 0) (f := fun (a : (Int) × (Int)) => a.1) (fun _ _ => rfl) (e_var (α := (Int) × (Int)) rfl) (fun _ => e_int)) (fun _ => a_nil))))) (fun state_497 s_498 => (j_end (end_j (v := state_497) (sub_cons rfl (sub_cons rfl (sub_cons rfl (sub_cons rfl sub_nil)))) .slnil)))))) (fun _ => (j_end (end_j (v := v_494) (sub_cons rfl (sub_cons rfl (sub_cons rfl (sub_cons rfl sub_nil)))) .slnil))) (fun v_499 s_500 => (j_last (j_set (α := (Int) × (Int)) (by decide) (e_callU r_law_t_step (a_cons (e_var (α := (Int) × (Int)) rfl) (fun _ => (a_cons (e_var (α := Ch) rfl) (fun _ => a_nil))))) (fun state_508 s_509 => (j_end (end_s (v := state_508) (sub_cons rfl (sub_cons rfl (sub_cons rfl sub_nil))) .slnil)))))))) (sub_cons rfl (sub_cons rfl (sub_cons rfl sub_nil))) .slnil (fun v_510 s_511 => (j_last (j_retI ret_fn (e_if (t_val (e_op2 o_le (E.el (e_var (α := Int) rfl)) (fun _ => (E.el (e_cb1 o_lenS (E.el (e_var (α := List Nat) rfl))))))) (fun _ => (e_var (α := (Int) × (Int)) rfl)) (fun _ => (e_tup2 (a_cons (e_ixT (i := 0) (f := fun (a : (Int) × (Int)) => a.1) (fun _ _ => rfl) (e_var (α := (Int) × (Int)) rfl) (fun _ => e_int)) (fun _ => (a_cons (e_ixT (i := 0) (f := fun (a : (Int) × (Int)) => a.1) (fun _ _ => rfl) (e_var (α := (Int) × (Int)) rfl) (fun _ => e_int)) (fun _ => a_nil)))))))))))))
  exact h
theorem r_margin_si : FnP (A := (List Nat) × (Int) × (Unit)) (R := Int) m_margin (fun a => d_margin_si a.1 a.2.1) := by
  refine fn_okP (fun _ => rfl) (by decide) fun B a s => ?_
  obtain ⟨row_523, slot_524, _⟩ := a
  have h : J B 3 (Kfn (R := Int) B) [(0, w_ row_523), (1, w_ slot_524)] [] t_margin s _ := (j_set (α := Row) (by decide) (e_callU r_row_of_s (a_cons (e_var (α := List Nat) rfl) (fun _ => a_nil))) (fun whole_525 s_526 => (j_expr (e_callU r_check_slot_ii (a_cons (e_var (α := Int) rfl) (fun _ => (a_cons (e_op2 o_addI (E.el (e_lenOU (fun _ _ => rfl) r_Row__len (e_var (α := Row) rfl))) (fun _ => (E.el e_int))) (fun _ => a_nil))))) (fun s_527 => (j_last (j_retI ret_fn (e_ixT (i := 1) (f := fun (a : (Int) × (Int)) => a.2) (fun _ _ => rfl) (e_callU r_both (a_cons (e_var (α := Row) rfl) (fun _ => (a_cons (e_var (α := Int) rfl) (fun _ => a_nil))))) (fun _ => e_int))))))))
  exact h
theorem r_law_needed_right : FnG (A := (Rs) × (List Nat) × (Unit)) (R := Bool) wS m__law_needed_right (fun a s => d_law_needed_right a.2.1 s) := by
  refine fn_ok (fun _ => rfl) (by decide) fun B a s => ?_
  obtain ⟨_, text_161, _⟩ := a
  have h : J B 7 (Kfn (R := Bool) B) [(0, .loc 1), (1, w_ text_161)] [] t__law_needed_right s _ := (j_forL (β := Int) (S := Unit) (oG := fun v => [(0, .loc 1), (1, w_ text_161)]) (oC := fun v => []) (R := Bool) (v0 := ()) ret_fn (i_rg2 e_int (fun _ => (e_op2 o_addI (E.el (e_cb1 o_lenS (E.el (e_var (α := List Nat) rfl)))) (fun _ => (E.el e_int))))) (tg_nm (α := Int) (by decide)) (fun i_163 v_162 s_164 => (j_set (α := Int) (by decide) (e_call r_needed_osRowi (a_cons (e_callS r_law_r_handed (a_sp rfl (a_cons (e_var (α := List Nat) rfl) (fun _ => a_nil)))) (fun _ => (a_cons (e_var (α := Int) rfl) (fun _ => a_nil))))) (fun told_485 s_486 => (j_if (t_or (t_val (e_isi (b := false) (fun _ => rfl) (e_var (α := Int) rfl))) (fun _ => (t_or (t_not (t_val (e_isi (b := true) (fun _ => rfl) (e_var (α := Int) rfl)))) (fun _ => (t_val (e_op2 o_lt (E.el (e_var (α := Int) rfl)) (fun _ => (E.el e_int)))))))) (fun _ => (j_term (j_last (j_ret (f := Fl.rt) (ret_t ret_l) e_bl)))) (fun _ => (j_nil (j_set (α := List (Int)) (by decide) (c_frz (c_map (α := Int) (β := Int) (v := fun x_488 s_489 => (O.bind (O.bind (O.bind (ofO (mulS [(Ch.mk 104).c] x_488) s_489) fun x_591 s_592 => ofO (addS text_161 x_591) s_592) fun x_589 s_590 => (d_law_t_both (x_589) (i_163)).up s_590) fun x_587 s_588 => .ok (x_587.2) s_588)) (i_rg1 (e_op2 o_addI (E.el (e_var (α := Int) rfl)) (fun _ => (E.el e_int)))) (tg_nm (α := Int) (by decide)) (fun _ => rfl) (fun x_488 _ _ _ => (e_ixT (i := 1) (f := fun (a : (Int) × (Int)) => a.2) (fun _ _ => rfl) (e_call r_law_t_both (a_cons (e_op2 o_addS (E.el (e_var (α := List Nat) rfl)) (fun _ => (E.el (e_op2 o_mulS (E.el (e_co co_chr e_chr)) (fun _ => (E.el (e_var (α := Int) rfl))))))) (fun _ => (a_cons (e_var (α := Int) rfl) (fun _ => a_nil))))) (fun _ => e_int))))) (fun left_515 s_516 => (j_if (t_or (t_val (e_op2 o_ge (E.el (e_ixL (e_var (α := List (Int)) rfl) (fun _ => (e_op1 o_neg (E.el e_int))))) (fun _ => (E.el e_int)))) (fun _ => (t_val (e_cb1 o_any (E.el (c_frz (c_mapT (α := Bool) (β := Int) (v := fun x_517 => (decide (x_517 < (0 : Int)))) (i_any it_lst (e_sl (α := List (Int)) (sl_lst (α := Int)) (E.el (e_var (α := List (Int)) rfl)) (fun _ => o_no) (fun _ => (o_so (e_op1 o_neg (E.el e_int)))))) (tg_nm (α := Int) (by decide)) (fun _ => rfl) (fun x_517 _ _ _ => (e_op2 o_lt (E.el (e_var (α := Int) rfl)) (fun _ => (E.el e_int))))))))))) (fun _ => (j_term (j_last (j_ret (f := Fl.rt) (ret_t ret_l) e_bl)))) (fun _ => (j_nil (j_if (t_and (t_val (e_op2 o_gt (E.el (e_var (α := Int) rfl)) (fun _ => (E.el e_int)))) (fun _ => (t_val (e_cb1 o_any (E.el (c_frz (c_map (α := Bool) (β := Int) (v := fun x_520 s_521 => (O.bind (O.bind (O.bind (O.bind (ofO (mulS [(Ch.mk 72).c] x_520) s_521) fun x_599 s_600 => ofO (addS text_161 x_599) s_600) fun x_597 s_598 => (d_law_t_both (x_597) (i_163)).up s_598) fun x_595 s_596 => .ok (x_595.2) s_596) fun x_593 s_594 => .ok ((decide (x_593 < (0 : Int)))) s_594)) (i_rg1 e_int) (tg_nm (α := Int) (by decide)) (fun _ => rfl) (fun x_520 _ _ _ => (e_op2 o_lt (E.el (e_ixT (i := 1) (f := fun (a : (Int) × (Int)) => a.2) (fun _ _ => rfl) (e_call r_law_t_both (a_cons (e_op2 o_addS (E.el (e_var (α := List Nat) rfl)) (fun _ => (E.el (e_op2 o_mulS (E.el (e_co co_chr e_chr)) (fun _ => (E.el (e_var (α := Int) rfl))))))) (fun _ => (a_cons (e_var (α := Int) rfl) (fun _ => a_nil))))) (fun _ => e_int))) (fun _ => (E.el e_int))))))))))) (fun _ => (j_term (j_last (j_ret (f := Fl.rt) (ret_t ret_l) e_bl)))) (fun _ => (j_nil (j_last (j_if (t_and (t_val (e_op2 o_gt (E.el (e_var (α := Int) rfl)) (fun _ => (E.el e_int)))) (fun _ => (t_val (e_op2 o_lt (E.el (e_call r_margin_si (a_cons (e_op2 o_addS (E.el (e_var (α := List Nat) rfl)) (fun _ => (E.el (e_op2 o_mulS (E.el (e_co co_chr e_chr)) (fun _ => (E.el e_int)))))) (fun _ => (a_cons (e_var (α := Int) rfl) (fun _ => a_nil)))))) (fun _ => (E.el e_int)))))) (fun _ => (j_term (j_last (j_ret (f := Fl.rt) (ret_t ret_l) e_bl)))) (fun _ => (j_nil (j_end (end_l (v := ()) (sub_cons rfl (sub_cons rfl sub_nil)) .slnil)))))))))))))))))))) (sub_cons rfl (sub_cons rfl sub_nil)) .slnil (fun v_533 s_534 => (j_last (j_retI ret_fn e_bl))))
  exact h
theorem r_last_below : FnP (A := (Row) × (Int) × (Unit)) (R := Int) m_last_below (fun a => d_last_below a.1 a.2.1) := by
  refine fn_okP (fun _ => rfl) (by decide) fun B a s => ?_
  obtain ⟨row_610, number_611, _⟩ := a
  have h : J B 5 (Kfn (R := Int) B) [(0, w_ row_610), (1, w_ number_611)] [] t_last_below s _ := (j_a2 (ja_v (α := Int) e_int (fun low_612 s_613 => (ja_v (α := Int) (e_lenOU (fun _ _ => rfl) r_Row__len (e_var (α := Row) rfl)) (fun high_614 s_615 => (ja_end (is := [2, 3]) (by decide) (fun _ _ => rfl) (j_wh (S := (Int) × (Int)) (oG := fun v => [(0, w_ row_610), (1, w_ number_611), (2, w_ v.1), (3, w_ v.2)]) (oC := fun v => [])  (v0 := (low_612, high_614))  (fun v_616 s_617 => (t_val (e_op2 o_lt (E.el (e_var (α := Int) rfl)) (fun _ => (E.el (e_var (α := Int) rfl)))))) (fun v_616 s_617 => (j_set (α := Int) (by decide) (e_op2 o_divI (E.el (e_op2 o_addI (E.el (e_op2 o_addI (E.el (e_var (α := Int) rfl)) (fun _ => (E.el (e_var (α := Int) rfl))))) (fun _ => (E.el e_int)))) (fun _ => (E.el e_int))) (fun middle_618 s_619 => (j_last (j_ifJ (S := (Int) × (Int)) (oG := fun v => [(0, w_ row_610), (1, w_ number_611), (2, w_ v.1), (3, w_ v.2)]) (oC := fun v => []) (t_val (e_op2 o_lt (E.el (e_ixT (i := 1) (f := fun (a : (Int) × (Int)) => a.2) (fun _ _ => rfl) (e_callU r_both (a_cons (e_var (α := Row) rfl) (fun _ => (a_cons (e_var (α := Int) rfl) (fun _ => a_nil))))) (fun _ => e_int))) (fun _ => (E.el (e_var (α := Int) rfl))))) (fun _ => (j_last (j_set (α := Int) (by decide) (e_var (α := Int) rfl) (fun low_620 s_621 => (j_end (end_j (v := (low_620, v_616.2)) (sub_cons rfl (sub_cons rfl (sub_cons rfl (sub_cons rfl sub_nil)))) .slnil)))))) (fun _ => (j_last (j_set (α := Int) (by decide) (e_op2 o_subI (E.el (e_var (α := Int) rfl)) (fun _ => (E.el e_int))) (fun high_622 s_623 => (j_end (end_j (v := (v_616.1, high_622)) (sub_cons rfl (sub_cons rfl (sub_cons rfl (sub_cons rfl sub_nil)))) .slnil)))))) (fun v_624 s_625 => (j_end (end_s (v := (v_624.1, v_624.2)) (sub_cons rfl (sub_cons rfl (sub_cons rfl (sub_cons rfl sub_nil)))) .slnil)))))))) (sub_cons rfl (sub_cons rfl (sub_cons rfl (sub_cons rfl sub_nil)))) .slnil (fun v_626 s_627 => (j_last (j_retI ret_fn (e_var (α := Int) rfl)))))))))))
  exact h
theorem r_sure_si : FnP (A := (List Nat) × (Int) × (Unit)) (R := Int) m_sure (fun a => d_sure_si a.1 a.2.1) := by
  refine fn_okP (fun _ => rfl) (by decide) fun B a s => ?_
  obtain ⟨row_605, gain_606, _⟩ := a
  have h : J B 3 (Kfn (R := Int) B) [(0, w_ row_605), (1, w_ gain_606)] [] t_sure s _ := (j_set (α := Row) (by decide) (e_callU r_row_of_s (a_cons (e_var (α := List Nat) rfl) (fun _ => a_nil))) (fun whole_607 s_608 => (j_if (t_and (t_val (e_op2 o_notF (E.el (e_var (α := Int) rfl)) (fun _ => (E.el e_non)))) (fun _ => (t_or (t_not (t_val (e_callU r_is_integer_i (a_cons (e_var (α := Int) rfl) (fun _ => a_nil))))) (fun _ => (t_val (e_op2 o_lt (E.el (e_var (α := Int) rfl)) (fun _ => (E.el e_int)))))))) (fun _ => (j_term (j_last j_never))) (fun _ => (j_nil (j_last (j_retI ret_fn (e_ifF (t_val (e_op2 o_isF (E.el (e_var (α := Int) rfl)) (fun _ => (E.el e_non)))) (e_callU r_last_below (a_cons (e_var (α := Row) rfl) (fun _ => (a_cons (e_op1 o_neg (E.el (e_var (α := Int) rfl))) (fun _ => a_nil)))))))))))))
  exact h
theorem r_sure_Rowi : FnP (A := (Row) × (Int) × (Unit)) (R := Int) m_sure (fun a => d_sure_Rowi a.1 a.2.1) := by
  refine fn_okP (fun _ => rfl) (by decide) fun B a s => ?_
  obtain ⟨row_635, gain_636, _⟩ := a
  have h : J B 3 (Kfn (R := Int) B) [(0, w_ row_635), (1, w_ gain_636)] [] t_sure s _ := (j_set (α := Row) (by decide) (e_callU r_row_of_Row (a_cons (e_var (α := Row) rfl) (fun _ => a_nil))) (fun whole_637 s_638 => (j_if (t_and (t_val (e_op2 o_notF (E.el (e_var (α := Int) rfl)) (fun _ => (E.el e_non)))) (fun _ => (t_or (t_not (t_val (e_callU r_is_integer_i (a_cons (e_var (α := Int) rfl) (fun _ => a_nil))))) (fun _ => (t_val (e_op2 o_lt (E.el (e_var (α := Int) rfl)) (fun _ => (E.el e_int)))))))) (fun _ => (j_term (j_last j_never))) (fun _ => (j_nil (j_last (j_retI ret_fn (e_ifF (t_val (e_op2 o_isF (E.el (e_var (α := Int) rfl)) (fun _ => (E.el e_non)))) (e_callU r_last_below (a_cons (e_var (α := Row) rfl) (fun _ => (a_cons (e_op1 o_neg (E.el (e_var (α := Int) rfl))) (fun _ => a_nil)))))))))))))
  exact h
theorem r_sure_osRowi : FnP (A := (Ei (List Nat) (Row)) × (Int) × (Unit)) (R := Int) m_sure (fun a => d_sure_osRowi a.1 a.2.1) := fun rest s a h => by
  obtain ⟨x0, x1, u⟩ := a
  cases x0 with
  | a y => exact r_sure_si rest s (y, x1, u) h
  | b y => exact r_sure_Rowi rest s (y, x1, u) h
theorem r_sure_sn : FnP (A := (List Nat) × (Unit) × (Unit)) (R := Int) m_sure (fun a => d_sure_sn a.1 a.2.1) := by
  refine fn_okP (fun _ => rfl) (by decide) fun B a s => ?_
  obtain ⟨row_658, gain_659, _⟩ := a
  have h : J B 3 (Kfn (R := Int) B) [(0, w_ row_658), (1, w_ gain_659)] [] t_sure s _ := (j_set (α := Row) (by decide) (e_callU r_row_of_s (a_cons (e_var (α := List Nat) rfl) (fun _ => a_nil))) (fun whole_660 s_661 => (j_ifF (t_and (t_val (e_op2 o_notU (E.el (e_var (α := Unit) rfl)) (fun _ => (E.el e_non)))) (fun _ => t_dead)) (j_nil (j_last (j_retI ret_fn (e_ifT (t_val (e_op2 o_isU (E.el (e_var (α := Unit) rfl)) (fun _ => (E.el e_non)))) e_int)))))))
  exact h
theorem r_firm_s : FnP (A := (List Nat) × (Unit)) (R := Int) m_firm (fun a => d_firm_s a.1) := by
  refine fn_okP (fun _ => rfl) (by decide) fun B a s => ?_
  obtain ⟨row_662, _⟩ := a
  have h : J B 1 (Kfn (R := Int) B) [(0, w_ row_662)] [] t_firm s _ := (j_last (j_retI ret_fn (e_callU r_last_below (a_cons (e_callU r_row_of_s (a_cons (e_var (α := List Nat) rfl) (fun _ => a_nil))) (fun _ => (a_cons e_int (fun _ => a_nil)))))))
  exact h
theorem r_law (ns : List Int) (h : ∃ s', d_law ⟨ns, 0, 0, 11⟩ = .ok true s') : ∃ st, m_law [.f (.scr ns)] [] = .ok (.f (.bl true)) st :=
  law_run (n := 10) (i := 1) (ms := m__law_start) (by decide) (by decide) rfl (fun B => J.cast (j_set (α := List ((List Nat) × (Int))) (by decide) (c_frz (c_map (α := (List Nat) × (Int)) (β := List Nat) (v := fun x_30 s_31 => (O.bind ((d_law_gain (x_30)).up s_31) fun x_749 s_750 => .ok ((x_30, x_749)) s_750)) (i_any it_lst (e_call r_law_r_words (a_cons e_int (fun _ => a_nil)))) (tg_nm (α := List Nat) (by decide)) (fun _ => rfl) (fun x_30 _ _ _ => (e_tup2 (a_cons (e_var (α := List Nat) rfl) (fun _ => (a_cons (e_call r_law_gain (a_cons (e_var (α := List Nat) rfl) (fun _ => a_nil))) (fun _ => a_nil)))))))) (fun words_48 s_49 => (j_forL (β := Int) (S := Unit) (oG := fun v => [(1, .loc 1), (2, w_ words_48)]) (oC := fun v => []) (R := Bool) (v0 := ()) ret_fn (i_rg1 e_int) (tg_nm (α := Int) (by decide)) (fun i_51 v_50 s_52 => (j_set (α := List Nat) (by decide) (e_callS r_law_t_row (a_sp rfl (a_cons e_int (fun _ => a_nil)))) (fun text_159 s_160 => (j_if (t_not (t_val (e_callS r_law_needed_right (a_sp rfl (a_cons (e_var (α := List Nat) rfl) (fun _ => a_nil)))))) (fun _ => (j_term (j_last (j_ret (f := Fl.rt) (ret_t ret_l) e_bl)))) (fun _ => (j_nil (j_forL (β := Int) (S := Unit) (oG := fun v => [(1, .loc 1), (2, w_ words_48), (4, w_ text_159)]) (oC := fun v => []) (R := Bool) (v0 := ()) ret_l (i_rg1 e_int) (tg_nm (α := Int) (by decide)) (fun i_603 v_602 s_604 => (j_set (α := Int) (by decide) (e_call r_sure_osRowi (a_cons (e_callS r_law_r_handed (a_sp rfl (a_cons (e_var (α := List Nat) rfl) (fun _ => a_nil)))) (fun _ => (a_cons (e_var (α := Int) rfl) (fun _ => a_nil))))) (fun told_645 s_646 => (j_if (t_or (t_val (e_isi (b := false) (fun _ => rfl) (e_var (α := Int) rfl))) (fun _ => (t_or (t_not (t_val (e_isi (b := true) (fun _ => rfl) (e_var (α := Int) rfl)))) (fun _ => (t_not (t_val (e_chain o_le o_le e_int (fun _ => (e_var (α := Int) rfl)) (fun _ => (e_cb1 o_lenS (E.el (e_var (α := List Nat) rfl))))))))))) (fun _ => (j_term (j_last (j_ret (f := Fl.rt) (ret_t ret_l) e_bl)))) (fun _ => (j_nil (j_set (α := List (List Nat)) (by decide) (c_frz (c_lcT (α := List Nat) (β := (List Nat) × (Int)) (c := fun x_648 => (decide (x_648.2 ≤ i_603))) (v := fun x_648 => x_648.1) (i_any it_lst (e_var (α := List ((List Nat) × (Int))) rfl)) (tg_2 (tg_nm (α := List Nat) (by decide)) (tg_nm (α := Int) (by decide))) (fun _ => rfl) (fun x_648 _ _ _ => (t_val (e_op2 o_le (E.el (e_var (α := Int) rfl)) (fun _ => (E.el (e_var (α := Int) rfl)))))) (fun x_648 _ _ _ => (e_var (α := List Nat) rfl)))) (fun some_650 s_651 => (j_if (t_and (t_val (e_op2 o_gt (E.el (e_var (α := Int) rfl)) (fun _ => (E.el e_int)))) (fun _ => (t_val (e_cb1 o_any (E.el (c_frz (c_map (α := Bool) (β := List Nat) (v := fun x_652 s_653 => (O.bind (O.bind (O.bind (ofO (addS text_159 x_652) s_653) fun x_755 s_756 => (d_law_t_both (x_755) (told_645)).up s_756) fun x_753 s_754 => .ok (x_753.2) s_754) fun x_751 s_752 => .ok ((decide ((0 : Int) ≤ x_751))) s_752)) (i_any it_lst (e_var (α := List (List Nat)) rfl)) (tg_nm (α := List Nat) (by decide)) (fun _ => rfl) (fun x_652 _ _ _ => (e_op2 o_ge (E.el (e_ixT (i := 1) (f := fun (a : (Int) × (Int)) => a.2) (fun _ _ => rfl) (e_call r_law_t_both (a_cons (e_op2 o_addS (E.el (e_var (α := List Nat) rfl)) (fun _ => (E.el (e_var (α := List Nat) rfl)))) (fun _ => (a_cons (e_var (α := Int) rfl) (fun _ => a_nil))))) (fun _ => e_int))) (fun _ => (E.el e_int))))))))))) (fun _ => (j_term (j_last (j_ret (f := Fl.rt) (ret_t ret_l) e_bl)))) (fun _ => (j_nil (j_last (j_if (t_and (t_val (e_op2 o_lt (E.el (e_var (α := Int) rfl)) (fun _ => (E.el (e_cb1 o_lenS (E.el (e_var (α := List Nat) rfl))))))) (fun _ => (t_val (e_op2 o_lt (E.el (e_ixT (i := 1) (f := fun (a : (Int) × (Int)) => a.2) (fun _ _ => rfl) (e_call r_law_t_both (a_cons (e_op2 o_addS (E.el (e_var (α := List Nat) rfl)) (fun _ => (E.el (e_op2 o_mulS (E.el (e_co co_chr e_chr)) (fun _ => (E.el (e_var (α := Int) rfl))))))) (fun _ => (a_cons (e_op2 o_addI (E.el (e_var (α := Int) rfl)) (fun _ => (E.el e_int))) (fun _ => a_nil))))) (fun _ => e_int))) (fun _ => (E.el e_int)))))) (fun _ => (j_term (j_last (j_ret (f := Fl.rt) (ret_t ret_l) e_bl)))) (fun _ => (j_nil (j_end (end_l (v := ()) (sub_cons rfl (sub_cons rfl (sub_cons rfl sub_nil))) .slnil))))))))))))))))) (sub_cons rfl (sub_cons rfl (sub_cons rfl sub_nil))) .slnil (fun v_656 s_657 => (j_last (j_if (t_or (t_val (e_op2 (ne_of o_eqI) (E.el (e_call r_sure_sn (a_cons (e_var (α := List Nat) rfl) (fun _ => (a_cons e_non (fun _ => a_nil)))))) (fun _ => (E.el e_int)))) (fun _ => (t_not (t_val (e_call r_law_same (a_cons (e_co (f := fun a => En.e a) co_any (e_call r_sure_si (a_cons (e_var (α := List Nat) rfl) (fun _ => (a_cons e_int (fun _ => a_nil)))))) (fun _ => (a_cons (e_co (f := fun a => En.e a) co_any (e_call r_firm_s (a_cons (e_var (α := List Nat) rfl) (fun _ => a_nil)))) (fun _ => a_nil))))))))) (fun _ => (j_term (j_last (j_ret (f := Fl.rt) (ret_t ret_l) e_bl)))) (fun _ => (j_nil (j_end (end_l (v := ()) (sub_cons rfl (sub_cons rfl sub_nil)) .slnil)))))))))))))) (sub_cons rfl (sub_cons rfl sub_nil)) .slnil (fun v_665 s_666 => (j_last (j_retI ret_fn (e_and (e_op2 o_eqI (E.el (e_call r_needed_si (a_cons (e_co co_chr e_chr) (fun _ => (a_cons e_int (fun _ => a_nil)))))) (fun _ => (E.el e_int))) (fun _ => (e_and (e_op2 o_eqI (E.el (e_call r_needed_si (a_cons (e_co co_chr e_chr) (fun _ => (a_cons e_int (fun _ => a_nil)))))) (fun _ => (E.el e_int))) (fun _ => (e_and (e_op2 o_eqI (E.el (e_call r_needed_si (a_cons (e_co co_chr e_chr) (fun _ => (a_cons e_int (fun _ => a_nil)))))) (fun _ => (E.el e_int))) (fun _ => (e_op2 o_eqI (E.el (e_call r_needed_si (a_cons (e_co co_chr e_chr) (fun _ => (a_cons e_int (fun _ => a_nil)))))) (fun _ => (E.el e_int))))))))))))))) rfl) h
end LB

set_option Elab.async false
set_option linter.all false
set_option maxRecDepth 100000
set_option maxHeartbeats 4000000
set_option autoImplicit false
/-! M1: the step by itself: kinds 104 h, 72 H, 46 ., 65 A; states (reach, left). -/
namespace LM
abbrev S2 := Int × Int
def isK (k : Nat) : Bool := k == 104 || k == 72 || k == 46 || k == 65
def isTr (k : Nat) : Bool := k == 104 || k == 72
def stp (s : S2) (k : Nat) : S2 :=
  if k = 65 then (s.1 + 1, s.2 + 1) else if k = 46 then s
  else (if s.1 - 1 < 0 then 0 else s.1 - 1, if s.2 = 0 ∧ (0 < s.1 ∨ k = 72) then s.2 else s.2 - 1)
def run (s : S2) : List Nat → S2
  | [] => s
  | k :: t => run (stp s k) t
theorem run_append (s : S2) : ∀ (a b : List Nat), run s (a ++ b) = run (run s a) b
  | [], b => rfl
  | k :: a, b => by rw [List.cons_append, run, run, run_append _ a b]
  termination_by a => a.length
/-- a word n times -/
def pow (w : List Nat) : Nat → List Nat
  | 0 => []
  | n + 1 => w ++ pow w n
theorem pow_add (w : List Nat) (m : Nat) : ∀ n, pow w (n + m) = pow w n ++ pow w m
  | 0 => by simp [pow]
  | n + 1 => by rw [show n + 1 + m = (n + m) + 1 from by omega, pow, pow, pow_add w m n, List.append_assoc]
theorem pow_length (w : List Nat) : ∀ n, (pow w n).length = n * w.length
  | 0 => by simp [pow]
  | n + 1 => by rw [pow, List.length_append, pow_length w n, Nat.succ_mul]; omega
/-- the states ahead of each sign -/
def befores (s : S2) : List Nat → List S2
  | [] => []
  | k :: t => s :: befores (stp s k) t
/-- those ahead of h and H -/
def met (s : S2) : List Nat → List S2
  | [] => []
  | k :: t => if isTr k = true then s :: met (stp s k) t else met (stp s k) t
/-- two states go alike at every true sign -/
def likes (u v : Int) (p : S2) : Prop := (0 < p.1 ↔ 0 < p.1 + u) ∧ (p.1 ≤ 0 → u = 0) ∧ (p.2 = 0 ↔ p.2 + v = 0)
theorem stp_nonneg {s : S2} (h : 0 ≤ s.1) (k : Nat) : 0 ≤ (stp s k).1 := by
  unfold stp
  split
  · show 0 ≤ s.1 + 1; omega
  · split
    · exact h
    · show 0 ≤ (if s.1 - 1 < 0 then 0 else s.1 - 1); split <;> omega
theorem run_nonneg : ∀ (t : List Nat) {s : S2}, 0 ≤ s.1 → 0 ≤ (run s t).1
  | [], _, h => h
  | k :: t, _, h => run_nonneg t (stp_nonneg h k)
theorem stp_shift {s : S2} {u v : Int} {k : Nat} (hk : isK k = true) (h : isTr k = true → likes u v s) (h0 : 0 ≤ s.1) (h1 : 0 ≤ s.1 + u) : stp (s.1 + u, s.2 + v) k = ((stp s k).1 + u, (stp s k).2 + v) := by
  unfold stp
  by_cases e1 : k = 65
  · simp [e1]; omega
  · by_cases e2 : k = 46
    · simp [e1, e2]
    · have ht : isTr k = true := by
        unfold isK at hk; unfold isTr
        simp only [Bool.or_eq_true, beq_iff_eq] at hk ⊢
        omega
      obtain ⟨a, b, c⟩ := h ht
      simp only [e1, e2, if_false]
      refine Prod.ext ?_ ?_
      · show (if s.1 + u - 1 < 0 then 0 else s.1 + u - 1) = (if s.1 - 1 < 0 then 0 else s.1 - 1) + u
        by_cases q : 0 < s.1
        · have := a.mp q
          rw [if_neg (by omega), if_neg (by omega)]; omega
        · have := b (by omega)
          subst this
          rw [if_pos (by omega), if_pos (by omega)]; rfl
      · show (if s.2 + v = 0 ∧ (0 < s.1 + u ∨ k = 72) then s.2 + v else s.2 + v - 1) = (if s.2 = 0 ∧ (0 < s.1 ∨ k = 72) then s.2 else s.2 - 1) + v
        by_cases q : s.2 = 0 ∧ (0 < s.1 ∨ k = 72)
        · rw [if_pos q, if_pos ⟨c.mp q.1, q.2.elim (fun z => .inl (a.mp z)) .inr⟩]
        · rw [if_neg q, if_neg fun z => q ⟨c.mpr z.1, z.2.elim (fun y => .inl (a.mpr y)) .inr⟩]; omega
theorem run_shift {u v : Int} : ∀ (t : List Nat) {s : S2}, (∀ k ∈ t, isK k = true) → (∀ p ∈ met s t, likes u v p) → 0 ≤ s.1 → 0 ≤ s.1 + u → run (s.1 + u, s.2 + v) t = ((run s t).1 + u, (run s t).2 + v) ∧ met (s.1 + u, s.2 + v) t = (met s t).map fun p => (p.1 + u, p.2 + v)
  | [], s, _, _, _, _ => ⟨rfl, rfl⟩
  | k :: t, s, hk, hm, h0, h1 => by
    have e := stp_shift (u := u) (v := v) (hk k (by simp)) (fun ht => hm s (by simp [met, ht])) h0 h1
    have h1' : 0 ≤ (stp s k).1 + u := by
      have := stp_nonneg (s := (s.1 + u, s.2 + v)) h1 k
      rw [e] at this
      exact this
    have ih := run_shift t (s := stp s k) (u := u) (v := v) (fun x hx => hk x (by simp [hx])) (fun p hp => hm p (by
      unfold met
      split
      · simp [hp]
      · exact hp)) (stp_nonneg h0 k) h1'
    refine ⟨by rw [run, run, e]; exact ih.1, ?_⟩
    unfold met
    rw [e, ih.2]
    split <;> simp
theorem run_le {t : List Nat} : ∀ {s : S2}, 0 ≤ s.1 → (run s t).1 ≤ s.1 + t.length ∧ s.1 - t.length ≤ (run s t).1 ∧ (run s t).2 ≤ s.2 + t.length ∧ s.2 - t.length ≤ (run s t).2 := by
  induction t with
  | nil => intro s h; simp [run]
  | cons k t ih =>
    intro s h
    have h1 := stp_nonneg h k
    obtain ⟨a, b, c, d⟩ := ih h1
    have e : (stp s k).1 ≤ s.1 + 1 ∧ s.1 - 1 ≤ (stp s k).1 ∧ (stp s k).2 ≤ s.2 + 1 ∧ s.2 - 1 ≤ (stp s k).2 := by
      unfold stp
      split
      · simp; omega
      · split
        · omega
        · refine ⟨?_, ?_, ?_, ?_⟩
          · show (if s.1 - 1 < 0 then 0 else s.1 - 1) ≤ _; split <;> omega
          · show _ ≤ (if s.1 - 1 < 0 then 0 else s.1 - 1); split <;> omega
          · show (if s.2 = 0 ∧ (0 < s.1 ∨ k = 72) then s.2 else s.2 - 1) ≤ s.2 + 1; split <;> omega
          · show s.2 - 1 ≤ (if s.2 = 0 ∧ (0 < s.1 ∨ k = 72) then s.2 else s.2 - 1); split <;> omega
    simp only [run, List.length_cons, Int.natCast_add, Int.natCast_one]
    omega
theorem met_nonneg : ∀ (t : List Nat) {s p : S2}, 0 ≤ s.1 → p ∈ met s t → 0 ≤ p.1
  | [], _, _, _, hp => by simp [met] at hp
  | k :: t, s, p, h, hp => by
    unfold met at hp
    split at hp
    · rcases List.mem_cons.mp hp with q | q
      · subst q; exact h
      · exact met_nonneg t (stp_nonneg h k) q
    · exact met_nonneg t (stp_nonneg h k) hp
/-- rounds that go alike -/
theorem rounds {t : List Nat} {s : S2} {u v : Int} (hk : ∀ k ∈ t, isK k = true) (h0 : 0 ≤ s.1) (hu : (run s t).1 = s.1 + u) (hv : (run s t).2 = s.2 + v) : ∀ n : Nat, (∀ i : Nat, i ≤ n → ∀ p ∈ met s t, likes (i * u) (i * v) p) →
    run s (pow t (n + 1)) = (s.1 + (n + 1 : Nat) * u, s.2 + (n + 1 : Nat) * v)
  | 0, _ => by
    rw [pow, pow, List.append_nil]
    refine Prod.ext ?_ ?_
    · rw [hu]; simp
    · rw [hv]; simp
  | n + 1, h => by
    have ih := rounds hk h0 hu hv n fun i hi => h i (by omega)
    have e : pow t (n + 1 + 1) = pow t (n + 1) ++ t := by
      rw [pow_add t 1 (n + 1)]
      simp [pow]
    rw [e, run_append, ih]
    have hn := run_nonneg (pow t (n + 1)) h0
    rw [ih] at hn
    have sh := (run_shift (u := (n + 1 : Nat) * u) (v := (n + 1 : Nat) * v) t hk (h (n + 1) (Nat.le_refl _)) h0 hn).1
    rw [sh, hu, hv]
    have e1 : ((n + 1 + 1 : Nat) : Int) * u = (n + 1 : Nat) * u + u := by
      rw [show ((n + 1 + 1 : Nat) : Int) = ((n + 1 : Nat) : Int) + 1 from by omega, Int.add_mul, Int.one_mul]
    have e2 : ((n + 1 + 1 : Nat) : Int) * v = (n + 1 : Nat) * v + v := by
      rw [show ((n + 1 + 1 : Nat) : Int) = ((n + 1 : Nat) : Int) + 1 from by omega, Int.add_mul, Int.one_mul]
    refine Prod.ext ?_ ?_
    · simp only [e1]; omega
    · simp only [e2]; omega
theorem div_bound {a b i : Int} (hb : 0 < b) (h : i ≤ a / b) : i * b ≤ a := by
  have h1 : i * b ≤ (a / b) * b := Int.mul_le_mul_of_nonneg_right h (Int.le_of_lt hb)
  have h2 := Int.ediv_mul_le a (b := b) (by omega)
  omega
/-- from what rounds_alike looks at -/
theorem likes_of {ps : List S2} {u v low least great i : Int} (h0 : ∀ p ∈ ps, 0 ≤ p.1) (hi : 0 ≤ i)
    (hl : ∀ p ∈ ps, low ≤ p.1) (hl0 : 0 ≤ low) (hs : ∀ p ∈ ps, least ≤ p.2) (hg : ∀ p ∈ ps, p.2 ≤ great)
    (hz : ¬ ((u ≠ 0 ∧ low = 0) ∨ (v ≠ 0 ∧ least ≤ 0 ∧ 0 ≤ great)))
    (c1 : u < 0 → i * (0 - u) ≤ low - 1) (c2 : v < 0 → 0 < least → i * (0 - v) ≤ least - 1) (c3 : 0 < v → great < 0 → i * v ≤ 0 - 1 - great) :
    ∀ p ∈ ps, likes (i * u) (i * v) p := by
  intro p hp
  have a1 := hl p hp
  have a2 := hs p hp
  have a3 := hg p hp
  have a0 := h0 p hp
  have hz1 : u = 0 ∨ low ≠ 0 := by
    rcases Int.lt_trichotomy u 0 with q | q | q
    · exact .inr fun z => hz (.inl ⟨by omega, z⟩)
    · exact .inl q
    · exact .inr fun z => hz (.inl ⟨by omega, z⟩)
  have hz2 : v = 0 ∨ 0 < least ∨ great < 0 := by
    by_cases q : v = 0
    · exact .inl q
    · by_cases q1 : 0 < least
      · exact .inr (.inl q1)
      · by_cases q2 : great < 0
        · exact .inr (.inr q2)
        · exact absurd (.inr ⟨q, by omega, by omega⟩) hz
  have key1 : u = 0 ∨ (0 < p.1 ∧ 0 < p.1 + i * u) := by
    rcases hz1 with q | q
    · exact .inl q
    · right
      refine ⟨by omega, ?_⟩
      rcases Int.lt_or_le u 0 with z | z
      · have := c1 z
        have e : i * (0 - u) = - (i * u) := by rw [Int.zero_sub, Int.mul_neg]
        omega
      · have := Int.mul_nonneg hi z
        omega
  have key2 : v = 0 ∨ (p.2 ≠ 0 ∧ p.2 + i * v ≠ 0) := by
    rcases hz2 with q | q | q
    · exact .inl q
    · right
      refine ⟨by omega, ?_⟩
      rcases Int.lt_or_le v 0 with z | z
      · have := c2 z q
        have e : i * (0 - v) = - (i * v) := by rw [Int.zero_sub, Int.mul_neg]
        omega
      · have := Int.mul_nonneg hi z
        omega
    · right
      refine ⟨by omega, ?_⟩
      rcases Int.lt_or_le 0 v with z | z
      · have := c3 z q
        omega
      · have : i * v ≤ 0 := by
          have := Int.mul_nonneg hi (show 0 ≤ -v by omega)
          rw [Int.mul_neg] at this
          omega
        omega
  unfold likes
  refine ⟨?_, ?_, ?_⟩
  · rcases key1 with q | q
    · subst q; simp
    · exact ⟨fun _ => q.2, fun _ => q.1⟩
  · intro z
    rcases key1 with q | q
    · subst q; simp
    · omega
  · rcases key2 with q | q
    · subst q; simp
    · exact ⟨fun z => absurd z q.1, fun z => absurd z q.2⟩
end LM

set_option Elab.async false
set_option linter.all false
set_option maxRecDepth 100000
set_option maxHeartbeats 4000000
set_option autoImplicit false
/-! A1: reach and margins by themselves. -/
namespace LM
def rank (k : Nat) : Nat := if k = 104 then 0 else if k = 72 then 1 else if k = 46 then 2 else 3
theorem isK_cases {k : Nat} (h : isK k = true) : k = 104 ∨ k = 72 ∨ k = 46 ∨ k = 65 := by
  unfold isK at h
  simp only [Bool.or_eq_true, beq_iff_eq] at h
  omega
def le2 (a b : S2) : Prop := a.1 ≤ b.1 ∧ a.2 ≤ b.2
theorem le2.refl {a : S2} : le2 a a := ⟨Int.le_refl _, Int.le_refl _⟩
theorem le2.trans {a b c : S2} (h : le2 a b) (h' : le2 b c) : le2 a c := ⟨Int.le_trans h.1 h'.1, Int.le_trans h.2 h'.2⟩
theorem stp_A (s : S2) : stp s 65 = (s.1 + 1, s.2 + 1) := by simp [stp]
theorem stp_d (s : S2) : stp s 46 = s := by simp [stp]
theorem stp_h (s : S2) : stp s 104 = (if s.1 - 1 < 0 then 0 else s.1 - 1, if s.2 = 0 ∧ 0 < s.1 then s.2 else s.2 - 1) := by simp [stp]
theorem stp_H (s : S2) : stp s 72 = (if s.1 - 1 < 0 then 0 else s.1 - 1, if s.2 = 0 then s.2 else s.2 - 1) := by simp [stp]
theorem stp_mono1 {s s' : S2} (h : le2 s s') (h0 : 0 ≤ s.1) {k : Nat} (hk : isK k = true) : le2 (stp s k) (stp s' k) := by
  obtain ⟨h1, h2⟩ := h
  rcases isK_cases hk with rfl | rfl | rfl | rfl
  · rw [stp_h, stp_h]
    refine ⟨?_, ?_⟩
    · show (if s.1 - 1 < 0 then 0 else s.1 - 1) ≤ (if s'.1 - 1 < 0 then 0 else s'.1 - 1)
      split <;> split <;> omega
    · show (if s.2 = 0 ∧ 0 < s.1 then s.2 else s.2 - 1) ≤ (if s'.2 = 0 ∧ 0 < s'.1 then s'.2 else s'.2 - 1)
      split <;> split <;> omega
  · rw [stp_H, stp_H]
    refine ⟨?_, ?_⟩
    · show (if s.1 - 1 < 0 then 0 else s.1 - 1) ≤ (if s'.1 - 1 < 0 then 0 else s'.1 - 1)
      split <;> split <;> omega
    · show (if s.2 = 0 then s.2 else s.2 - 1) ≤ (if s'.2 = 0 then s'.2 else s'.2 - 1)
      split <;> split <;> omega
  · rw [stp_d, stp_d]; exact ⟨h1, h2⟩
  · rw [stp_A, stp_A]; exact ⟨by simpa using h1, by simpa using h2⟩
theorem stp_mono2 {s : S2} (h0 : 0 ≤ s.1) {k k' : Nat} (hk : isK k = true) (hk' : isK k' = true) (hr : rank k ≤ rank k') : le2 (stp s k) (stp s k') := by
  rcases isK_cases hk with rfl | rfl | rfl | rfl <;> rcases isK_cases hk' with rfl | rfl | rfl | rfl <;> simp [rank] at hr <;>
    simp only [stp_h, stp_H, stp_d, stp_A, le2] <;> refine ⟨?_, ?_⟩ <;> (try dsimp only) <;> (try split) <;> (try split) <;> omega
theorem stp_mono {s s' : S2} (h : le2 s s') (h0 : 0 ≤ s.1) {k k' : Nat} (hk : isK k = true) (hk' : isK k' = true) (hr : rank k ≤ rank k') : le2 (stp s k) (stp s' k') :=
  (stp_mono1 h h0 hk).trans (stp_mono2 (Int.le_trans h0 h.1) hk hk' hr)
/-- each kind is no worse -/
def nw : List Nat → List Nat → Prop
  | [], [] => True
  | a :: x, b :: y => rank a ≤ rank b ∧ nw x y
  | _, _ => False
theorem nw.refl : ∀ t : List Nat, nw t t
  | [] => trivial
  | _ :: t => ⟨Nat.le_refl _, nw.refl t⟩
theorem nw.len : ∀ {a b : List Nat}, nw a b → a.length = b.length
  | [], [], _ => rfl
  | _ :: x, _ :: y, h => by simp [nw.len h.2]
  | [], _ :: _, h => h.elim
  | _ :: _, [], h => h.elim
theorem nw.app : ∀ {a b c d : List Nat}, nw a b → nw c d → nw (a ++ c) (b ++ d)
  | [], [], _, _, _, h => h
  | _ :: x, _ :: y, _, _, h, h' => ⟨h.1, nw.app h.2 h'⟩
  | [], _ :: _, _, _, h, _ => h.elim
  | _ :: _, [], _, _, h, _ => h.elim
theorem nw.pow {a b : List Nat} (h : nw a b) : ∀ n, nw (pow a n) (pow b n)
  | 0 => trivial
  | n + 1 => by rw [LM.pow, LM.pow]; exact h.app (nw.pow h n)
theorem nw.take : ∀ {a b : List Nat} (n : Nat), nw a b → nw (a.take n) (b.take n)
  | _, _, 0, _ => by simp [nw]
  | [], [], _ + 1, _ => by simp [nw]
  | _ :: x, _ :: y, n + 1, h => ⟨h.1, nw.take n h.2⟩
  | [], _ :: _, _ + 1, h => h.elim
  | _ :: _, [], _ + 1, h => h.elim
theorem nw.drop : ∀ {a b : List Nat} (n : Nat), nw a b → nw (a.drop n) (b.drop n)
  | _, _, 0, h => h
  | [], [], _ + 1, _ => by simp [nw]
  | _ :: x, _ :: y, n + 1, h => nw.drop n h.2
  | [], _ :: _, _ + 1, h => h.elim
  | _ :: _, [], _ + 1, h => h.elim
abbrev Ks (t : List Nat) : Prop := ∀ k ∈ t, isK k = true
theorem run_mono : ∀ {a b : List Nat} {s s' : S2}, nw a b → Ks a → Ks b → 0 ≤ s.1 → le2 s s' → le2 (run s a) (run s' b)
  | [], [], _, _, _, _, _, _, h => h
  | k :: x, k' :: y, s, s', h, ha, hb, h0, hs => run_mono (a := x) (b := y) h.2 (fun z hz => ha z (by simp [hz])) (fun z hz => hb z (by simp [hz])) (stp_nonneg h0 k) (stp_mono hs h0 (ha k (by simp)) (hb k' (by simp)) h.1)
  | [], _ :: _, _, _, h, _, _, _, _ => h.elim
  | _ :: _, [], _, _, h, _, _, _, _ => h.elim
theorem stp_inv {s : S2} (h0 : 0 ≤ s.1) (h : s.2 ≤ s.1) {k : Nat} (hk : isK k = true) : (stp s k).2 ≤ (stp s k).1 := by
  rcases isK_cases hk with rfl | rfl | rfl | rfl
  · rw [stp_h]; show (if s.2 = 0 ∧ 0 < s.1 then s.2 else s.2 - 1) ≤ (if s.1 - 1 < 0 then 0 else s.1 - 1); split <;> split <;> omega
  · rw [stp_H]; show (if s.2 = 0 then s.2 else s.2 - 1) ≤ (if s.1 - 1 < 0 then 0 else s.1 - 1); split <;> split <;> omega
  · rw [stp_d]; exact h
  · rw [stp_A]; simpa using h
theorem run_inv : ∀ {t : List Nat} {s : S2}, Ks t → 0 ≤ s.1 → s.2 ≤ s.1 → (run s t).2 ≤ (run s t).1
  | [], _, _, _, h => h
  | k :: t, s, ht, h0, h => run_inv (t := t) (fun z hz => ht z (by simp [hz])) (stp_nonneg h0 k) (stp_inv h0 h (ht k (by simp)))
theorem stp_fst {s s' : S2} (h : s.1 = s'.1) (k : Nat) : (stp s k).1 = (stp s' k).1 := by
  unfold stp
  split
  · show s.1 + 1 = s'.1 + 1; omega
  · split
    · exact h
    · show (if s.1 - 1 < 0 then 0 else s.1 - 1) = (if s'.1 - 1 < 0 then 0 else s'.1 - 1); rw [h]
/-- the reach goes its own way -/
theorem run_fst : ∀ {t : List Nat} {s s' : S2}, s.1 = s'.1 → (run s t).1 = (run s' t).1
  | [], _, _, h => h
  | k :: t, _, _, h => run_fst (t := t) (stp_fst h k)
/-- the reach, the margin of the slot behind i slots -/
def rea (t : List Nat) : Int := (run (0, 0) t).1
def st0 (t : List Nat) (i : Nat) : S2 := run (rea (t.take i), rea (t.take i)) (t.drop i)
def mar (t : List Nat) (i : Nat) : Int := (st0 t i).2
theorem rea_nonneg (t : List Nat) : 0 ≤ rea t := run_nonneg t (by decide)
theorem st0_fst (t : List Nat) (i : Nat) : (st0 t i).1 = rea t := by
  unfold st0 rea
  have e : (run ((run (0, 0) (t.take i)).1, (run (0, 0) (t.take i)).1) (t.drop i)).1 = (run (run (0, 0) (t.take i)) (t.drop i)).1 := run_fst rfl
  rw [e, ← run_append, List.take_append_drop]
theorem st0_eq (t : List Nat) (i : Nat) : st0 t i = (rea t, mar t i) := Prod.ext (st0_fst t i) rfl
theorem Ks.take {t : List Nat} (h : Ks t) (n : Nat) : Ks (t.take n) := fun k hk => h k (List.mem_of_mem_take hk)
theorem Ks.drop {t : List Nat} (h : Ks t) (n : Nat) : Ks (t.drop n) := fun k hk => h k (List.mem_of_mem_drop hk)
theorem Ks.app {a b : List Nat} (h : Ks a) (h' : Ks b) : Ks (a ++ b) := fun k hk => (List.mem_append.mp hk).elim (h k) (h' k)
theorem Ks.pow {w : List Nat} (h : Ks w) : ∀ n, Ks (pow w n)
  | 0 => fun k hk => by simp [LM.pow] at hk
  | n + 1 => by rw [LM.pow]; exact h.app (Ks.pow h n)
theorem mar_le_rea {t : List Nat} (h : Ks t) (i : Nat) : mar t i ≤ rea t := by
  rw [← st0_fst t i]
  exact run_inv (h.drop i) (rea_nonneg _) (Int.le_refl _)
theorem mar_mono {t : List Nat} (h : Ks t) {i j : Nat} (hij : i ≤ j) : mar t i ≤ mar t j := by
  have e1 : t.drop i = (t.drop i).take (j - i) ++ t.drop j := by
    have := (List.take_append_drop (j - i) (t.drop i)).symm
    rw [List.drop_drop, show i + (j - i) = j from by omega] at this
    exact this
  have e2 : t.take j = t.take i ++ (t.drop i).take (j - i) := by
    rw [← List.take_append_drop i (t.take j)]
    congr 1
    · rw [List.take_take, Nat.min_eq_left hij]
    · rw [List.drop_take]
  unfold mar st0
  rw [e1, run_append]
  have hf : (run (rea (t.take i), rea (t.take i)) ((t.drop i).take (j - i))).1 = rea (t.take j) := by
    unfold rea
    rw [e2, run_append]
    exact run_fst rfl
  have hi := run_inv (t := (t.drop i).take (j - i)) (s := (rea (t.take i), rea (t.take i))) ((h.drop i).take _) (rea_nonneg _) (Int.le_refl _)
  have h0 : 0 ≤ (run (rea (t.take i), rea (t.take i)) ((t.drop i).take (j - i))).1 := run_nonneg _ (rea_nonneg _)
  refine (run_mono (s' := (rea (t.take j), rea (t.take j))) (nw.refl _) (h.drop j) (h.drop j) h0 ⟨?_, ?_⟩).2
  · rw [hf]; exact Int.le_refl _
  · show _ ≤ rea (t.take j)
    rw [← hf]; exact hi
theorem rea_nw {a b : List Nat} (h : nw a b) (ha : Ks a) (hb : Ks b) : rea a ≤ rea b := (run_mono h ha hb (by decide) le2.refl).1
theorem mar_nw {a b : List Nat} (h : nw a b) (ha : Ks a) (hb : Ks b) (i : Nat) : mar a i ≤ mar b i := by
  have hr := rea_nw (h.take i) (ha.take i) (hb.take i)
  exact (run_mono (s := (rea (a.take i), rea (a.take i))) (s' := (rea (b.take i), rea (b.take i))) (h.drop i) (ha.drop i) (hb.drop i) (rea_nonneg _) ⟨hr, hr⟩).2
theorem rea_app (t u : List Nat) (m : Int) : rea (t ++ u) = (run (rea t, m) u).1 := by
  unfold rea
  rw [run_append]
  exact run_fst rfl
theorem mar_app {t u : List Nat} {i : Nat} (hi : i ≤ t.length) : mar (t ++ u) i = (run (rea t, mar t i) u).2 := by
  unfold mar st0
  rw [List.drop_append_of_le_length hi, run_append, List.take_append_of_le_length hi]
  have e := st0_eq t i
  unfold mar st0 at e
  rw [e]
/-- the greatest slot whose margin is below a number -/
theorem st_bound {t : List Nat} : -(t.length : Int) ≤ rea t ∧ rea t ≤ t.length := by
  have := run_le (t := t) (s := (0, 0)) (by decide)
  unfold rea
  omega
end LM

set_option Elab.async false
set_option linter.all false
set_option maxRecDepth 100000
set_option maxHeartbeats 4000000
set_option autoImplicit false
/-! B1: the steps' functions. -/
namespace LB
open VS TL LM
open L2 (atI ixN)
theorem smL_ok {σ β : Type} {xs : List β} {s : σ} (h : xs.length ≤ 1000000) : smL xs s = .ok xs s := by
  unfold smL
  rw [if_pos h]; rfl
theorem appO_ok {σ α : Type} [En α] {l : List α} {a : α} {s : σ} (h : l.length < 1000000) : appO l a s = .ok (l ++ [a]) s := by
  unfold appO
  rw [if_pos (show small (l.length + 1) = true from decide_eq_true h)]; rfl
theorem lenI_ok {σ : Type} {i : Int} {s : σ} (h : 0 ≤ i) (h' : i < 2 ^ 63) : lenI i s = .ok i s := by
  unfold lenI
  rw [if_pos (by rw [Bool.and_eq_true, posB_iff, inRg_iff]; omega)]; rfl
theorem rg1_ok {σ : Type} {j : Int} {s : σ} (h : 0 ≤ j) (h' : j < 2 ^ 62) : rg1 j s = .ok (rgI 0 j.toNat) s := by
  unfold rg1
  rw [if_pos (by unfold smI; rw [inRg_iff]; omega)]; rfl
theorem atI_last {α : Type} {x : α} {xs : List α} : atI (xs ++ [x]) (-(1 : Int)) = some x := by
  unfold atI ixN
  have h : (-1 + ((xs ++ [x]).length : Int)).toNat = xs.length := by simp; omega
  have h1 : -((xs ++ [x]).length : Int) ≤ -1 := by simp; omega
  simp only [show ¬ (0 : Int) ≤ -1 by decide, if_false, if_pos h1, h, Option.bind_some]
  simp
theorem atI_zero {α : Type} {x : α} {xs : List α} : atI (x :: xs) (0 : Int) = some x := by
  unfold atI ixN
  simp
theorem atI_get {α : Type} {xs : List α} {i : Int} (h : 0 ≤ i) (h' : i < xs.length) : atI xs i = xs[i.toNat]? := by
  unfold atI ixN
  simp [h, h']
theorem v_stepped (p : S2) (c : Ch) (hk : isK c.c = true) : d_stepped p c = .ok (stp p c.c) () := by
  obtain ⟨k⟩ := c
  unfold d_stepped
  rcases isK_cases hk with h | h | h | h <;> have h : k = _ := h <;> subst h
  · rw [stp_h]; simp
  · rw [stp_H]; simp
  · rw [stp_d]; simp
  · rw [stp_A]; simp
def sts (p : S2) : List Nat → List S2
  | [] => [p]
  | k :: t => p :: sts (stp p k) t
theorem sts_length (p : S2) (w : List Nat) : (sts p w).length = w.length + 1 := by
  induction w generalizing p with
  | nil => rfl
  | cons k t ih => simp [sts, ih]
theorem sts_last (p : S2) (w : List Nat) : ∃ l, sts p w = l ++ [run p w] := by
  induction w generalizing p with
  | nil => exact ⟨[], rfl⟩
  | cons k t ih => obtain ⟨l, e⟩ := ih (stp p k); exact ⟨p :: l, by rw [sts, e]; rfl⟩
theorem sts_head (p : S2) (w : List Nat) : ∃ l, sts p w = p :: l := by cases w <;> exact ⟨_, rfl⟩
theorem v_states_loop : ∀ (w : List Nat) (l : List S2) (q : S2), Ks w → l.length + w.length < 900000 → foldO (fun i_310 (v_309 : (List ((Int) × (Int)))) (_ : Unit) => (O.bind (O.bind (ofO (atI v_309 (-(1 : Int))) ()) fun x_325 _ => d_stepped (x_325) (i_310)) fun y_324 _ => O.bind (appO v_309 y_324 ()) fun found_320 _ => (.ok found_320 ()))) (w.map Ch.mk) (l ++ [q]) () = .ok (l ++ sts q w) ()
  | [], l, q, _, _ => rfl
  | k :: w, l, q, hk, hl => by
    simp only [List.length_cons] at hl
    rw [List.map_cons, foldO]
    simp only [atI_last, ofO_some, bind_ok, v_stepped q ⟨k⟩ (hk k (by simp)), appO_ok (l := l ++ [q]) (a := stp q k) (s := ()) (by simp; omega)]
    have ih := v_states_loop w (l ++ [q]) (stp q k) (fun z hz => hk z (by simp [hz])) (by simp; omega)
    rw [ih]
    simp [sts]
theorem v_states_of (w : List Nat) (p : S2) (hk : Ks w) (hl : w.length ≤ 800000) : d_states_of w p = .ok (sts p w) () := by
  unfold d_states_of
  have h := v_states_loop w [] p hk (by simp; omega)
  simp only [List.nil_append] at h
  simp only [h, bind_ok]
theorem zip_met : ∀ (w : List Nat) (p : S2), (((sts p w).zip (w.map Ch.mk)).filter fun x => decide (x.2.c ∈ ([104, 72] : List Nat))).map (fun x => x.1) = met p w
  | [], p => by simp [sts, met]
  | k :: w, p => by
    have e : isTr k = decide (k ∈ ([104, 72] : List Nat)) := by unfold isTr; rw [Bool.eq_iff_iff]; simp
    have ih := zip_met w (stp p k)
    rw [sts, List.map_cons, List.zip_cons_cons, List.filter_cons]
    unfold met
    cases h : isTr k with
    | true => rw [h] at e; dsimp only; rw [← e, if_pos rfl, List.map_cons, ih, if_pos rfl]
    | false => rw [h] at e; dsimp only; rw [← e, if_neg Bool.false_ne_true, ih, if_neg Bool.false_ne_true]
theorem met_length (p : S2) (w : List Nat) : (met p w).length ≤ w.length := by
  induction w generalizing p with
  | nil => simp [met]
  | cons k t ih =>
    unfold met
    have := ih (stp p k)
    split <;> simp <;> omega
theorem eqO_pairs (a b : List (Int × Int)) : eqO a b = some (decide (a = b)) := by
  have h : ∀ l : List (Int × Int), EqT.ok l = true := fun l => List.all_eq_true.mpr fun x _ => rfl
  unfold eqO
  rw [if_pos ⟨h a, h b⟩]
theorem eqO_ints (a b : List Int) : eqO a b = some (decide (a = b)) := by
  have h : ∀ l : List Int, EqT.ok l = true := fun l => List.all_eq_true.mpr fun x _ => rfl
  unfold eqO
  rw [if_pos ⟨h a, h b⟩]
theorem min_ite (x y : Int) : (if y < x then y else x) ≤ x ∧ (if y < x then y else x) ≤ y ∧ (0 ≤ x → 0 ≤ y → 0 ≤ if y < x then y else x) := by
  refine ⟨?_, ?_, ?_⟩ <;> split <;> omega
theorem v_rounds_alike (w : List Nat) (p : S2) (hk : Ks w) (hl : w.length ≤ 800000) (h0 : 0 ≤ p.1) (most : Int) (hm : 0 ≤ most) :
    ∃ q : Int, d_rounds_alike w (sts p w) most = .ok q () ∧ 0 ≤ q ∧ q ≤ most ∧ ∀ i : Int, 0 ≤ i → i ≤ q → ∀ a ∈ met p w, likes (i * ((run p w).1 - p.1)) (i * ((run p w).2 - p.2)) a := by
  have hz : (((sts p w).zip (w.map Ch.mk)).length) ≤ 1000000 := by simp [sts_length]; omega
  unfold d_rounds_alike
  simp only [smL_ok hz, bind_ok, zip_met, eqO_pairs, ofO_some]
  cases hmet : met p w with
  | nil => exact ⟨most, by simp, hm, Int.le_refl _, fun i _ _ a ha => by cases ha⟩
  | cons a r =>
    have hml : (a :: r).length ≤ 1000000 := by rw [← hmet]; have := met_length p w; omega
    obtain ⟨la, ea⟩ := sts_last p w
    obtain ⟨lb, eb⟩ := sts_head p w
    have e1 : atI (sts p w) (-(1 : Int)) = some (run p w) := by rw [ea]; exact atI_last
    have e2 : atI (sts p w) (0 : Int) = some p := by rw [eb]; exact atI_zero
    simp only [e1, e2, ofO_some, bind_ok, smL_ok hml, List.map_cons, minO, maxO]
    have hrun := run_le (t := w) h0
    have hmem := fun b (hb : b ∈ a :: r) => met_nonneg w h0 (hmet ▸ hb)
    obtain ⟨l1, l2⟩ := minL_spec (r.map (·.1)) a.1
    obtain ⟨s1, s2⟩ := minL_spec (r.map (·.2)) a.2
    obtain ⟨g1, g2⟩ := maxL_spec (r.map (·.2)) a.2
    have hlow0 : 0 ≤ minL a.1 (r.map (·.1)) := by
      rcases List.mem_cons.mp l1 with q | q
      · rw [q]; exact hmem a (by simp)
      · obtain ⟨b, hb, e⟩ := List.mem_map.mp q
        rw [← e]; exact hmem b (by simp [hb])
    have hlo : ∀ b ∈ a :: r, minL a.1 (r.map (·.1)) ≤ b.1 := fun b hb => l2 b.1 (by
      rcases List.mem_cons.mp hb with q | q
      · simp [q]
      · exact List.mem_cons_of_mem _ (List.mem_map_of_mem q))
    have hs : ∀ b ∈ a :: r, minL a.2 (r.map (·.2)) ≤ b.2 := fun b hb => s2 b.2 (by
      rcases List.mem_cons.mp hb with q | q
      · simp [q]
      · exact List.mem_cons_of_mem _ (List.mem_map_of_mem q))
    have hg : ∀ b ∈ a :: r, b.2 ≤ maxL a.2 (r.map (·.2)) := fun b hb => g2 b.2 (by
      rcases List.mem_cons.mp hb with q | q
      · simp [q]
      · exact List.mem_cons_of_mem _ (List.mem_map_of_mem q))
    generalize minL a.1 (r.map (·.1)) = low at hlow0 hlo ⊢
    generalize minL a.2 (r.map (·.2)) = least at hs ⊢
    generalize maxL a.2 (r.map (·.2)) = gr at hg ⊢
    have hu1 : (run p w).1 - p.1 < 2 ^ 60 ∧ -(2 ^ 60) < (run p w).1 - p.1 := by omega
    have hv1 : (run p w).2 - p.2 < 2 ^ 60 ∧ -(2 ^ 60) < (run p w).2 - p.2 := by omega
    clear l1 l2 s1 s2 g1 g2 hrun
    generalize (run p w).1 - p.1 = u at hu1 ⊢
    generalize (run p w).2 - p.2 = v at hv1 ⊢
    simp only [reduceCtorEq, decide_false, Bool.false_eq_true, if_false]
    by_cases hz : (u ≠ 0 ∧ low = 0) ∨ (v ≠ 0 ∧ least ≤ 0 ∧ 0 ≤ gr)
    · refine ⟨0, ?_, Int.le_refl _, hm, fun i h1 h2 b hb => ?_⟩
      · rw [if_pos]
        simp only [Bool.or_eq_true, Bool.and_eq_true, Bool.not_eq_true', decide_eq_true_iff, decide_eq_false_iff_not]
        exact hz
      · have e : i = 0 := by omega
        subst e
        simp [likes]
    · have dn : ∀ q : Int, 0 ≤ q → q ≤ most → (u < 0 → q ≤ (low - 1) / (0 - u)) → (v < 0 → 0 < least → q ≤ (least - 1) / (0 - v)) → (0 < v → gr < 0 → q ≤ (0 - 1 - gr) / v) → 0 ≤ q ∧ q ≤ most ∧ ∀ i : Int, 0 ≤ i → i ≤ q → ∀ b ∈ a :: r, likes (i * u) (i * v) b := by
        intro q h1 h2 c1 c2 c3
        refine ⟨h1, h2, fun i i0 iq => likes_of hmem i0 hlo hlow0 hs hg hz (fun z => div_bound (by omega) (Int.le_trans iq (c1 z))) (fun z y => div_bound (by omega) (Int.le_trans iq (c2 z y))) (fun z y => div_bound z (Int.le_trans iq (c3 z y)))⟩
      have hlow : u < 0 → 0 ≤ low - 1 := fun z => by
        have : low ≠ 0 := fun e => hz (.inl ⟨by omega, e⟩)
        omega
      rw [if_neg (by
        simp only [Bool.or_eq_true, Bool.and_eq_true, Bool.not_eq_true', decide_eq_true_iff, decide_eq_false_iff_not]
        exact hz)]
      have c1 : ∃ m1 : Int, (if decide (u < 0) = true then O.bind (O.bind (ofO (divO (low - (1 : Int)) ((0 : Int) - u)) ()) fun x _ => .ok (if x < most then x else most) ()) fun m _ => .ok m () else (.ok most () : P Int)) = .ok m1 () ∧ 0 ≤ m1 ∧ m1 ≤ most ∧ (u < 0 → m1 ≤ (low - 1) / (0 - u)) := by
        by_cases b1 : u < 0
        · have q1 := Int.ediv_nonneg (hlow b1) (show 0 ≤ 0 - u by omega)
          have f1 := min_ite most ((low - 1) / (0 - u))
          refine ⟨_, by rw [if_pos (decide_eq_true b1), divO_ok (by omega) (by omega)]; rfl, f1.2.2 hm q1, f1.1, fun _ => f1.2.1⟩
        · exact ⟨most, by rw [if_neg (by simpa using b1)], hm, Int.le_refl _, fun z => absurd z b1⟩
      obtain ⟨m1, e1, p1, p2, p3⟩ := c1
      simp only [e1, bind_ok]
      have c2 : ∃ m2 : Int, (if (decide (v < 0) && decide (0 < least)) = true then O.bind (O.bind (ofO (divO (least - (1 : Int)) ((0 : Int) - v)) ()) fun x _ => .ok (if x < m1 then x else m1) ()) fun m _ => .ok m () else (.ok m1 () : P Int)) = .ok m2 () ∧ 0 ≤ m2 ∧ m2 ≤ m1 ∧ (v < 0 → 0 < least → m2 ≤ (least - 1) / (0 - v)) := by
        by_cases b1 : v < 0 ∧ 0 < least
        · have q1 := Int.ediv_nonneg (show 0 ≤ least - 1 by omega) (show 0 ≤ 0 - v by omega)
          have f1 := min_ite m1 ((least - 1) / (0 - v))
          refine ⟨_, by rw [if_pos (by simpa using b1), divO_ok (by omega) (by omega)]; rfl, f1.2.2 p1 q1, f1.1, fun _ _ => f1.2.1⟩
        · exact ⟨m1, by rw [if_neg (by simpa using b1)], p1, Int.le_refl _, fun z y => absurd ⟨z, y⟩ b1⟩
      obtain ⟨m2, e2, p4, p5, p6⟩ := c2
      simp only [e2, bind_ok]
      have c3 : ∃ m3 : Int, (if (decide (0 < v) && decide (gr < 0)) = true then O.bind (O.bind (ofO (divO ((0 : Int) - (1 : Int) - gr) v) ()) fun x _ => .ok (if x < m2 then x else m2) ()) fun m _ => .ok m () else (.ok m2 () : P Int)) = .ok m3 () ∧ 0 ≤ m3 ∧ m3 ≤ m2 ∧ (0 < v → gr < 0 → m3 ≤ (0 - 1 - gr) / v) := by
        by_cases b1 : 0 < v ∧ gr < 0
        · have q1 := Int.ediv_nonneg (show 0 ≤ 0 - 1 - gr by omega) (show 0 ≤ v by omega)
          have f1 := min_ite m2 ((0 - 1 - gr) / v)
          refine ⟨_, by rw [if_pos (by simpa using b1), divO_ok (by omega) (by omega)]; rfl, f1.2.2 p4 q1, f1.1, fun _ _ => f1.2.1⟩
        · exact ⟨m2, by rw [if_neg (by simpa using b1)], p4, Int.le_refl _, fun z y => absurd ⟨z, y⟩ b1⟩
      obtain ⟨m3, e3, p7, p8, p9⟩ := c3
      simp only [e3, bind_ok]
      exact ⟨m3, rfl, dn m3 p7 (by omega) (fun z => by have := p3 z; omega) (fun z y => by have := p6 z y; omega) p9⟩
theorem fuel_big {n : Nat} (h : n < 2 ^ 64) : n < fuel := by
  unfold fuel
  exact Nat.lt_of_lt_of_le h (by decide)
theorem v_powered_loop (w : List Nat) (hk : Ks w) (hl : w.length ≤ 800000) (c : ((Int) × (Int)) × (Int) → Unit → P Bool) (body : ((Int) × (Int)) × (Int) → Unit → P (((Int) × (Int)) × (Int)))
    (hc : ∀ v s, c v s = .ok (decide (0 < v.2)) ())
    (hb : ∀ v s, body v s = O.bind (d_states_of w v.1) fun states _ => O.bind (O.bind (d_rounds_alike w states (v.2 - (1 : Int))) fun x _ => .ok ((1 : Int) + x) ()) fun many _ =>
      O.bind (O.bind (O.bind (ofO (atI states (-(1 : Int))) ()) fun x _ => .ok x.1 ()) fun x _ => .ok (x - v.1.1) ()) fun up _ => O.bind (O.bind (O.bind (ofO (atI states (-(1 : Int))) ()) fun x _ => .ok x.2 ()) fun x _ => .ok (x - v.1.2) ()) fun more _ =>
      O.bind (O.bind (O.bind (ofO (mulO many up) ()) fun x _ => .ok (v.1.1 + x) ()) fun x _ => O.bind (O.bind (ofO (mulO many more) ()) fun y _ => .ok (v.1.2 + y) ()) fun y _ => .ok (x, y) ()) fun state _ => .ok (state, v.2 - many) ()) :
    ∀ (f n : Nat) (p : S2), n < f → n < 2 ^ 62 → 0 ≤ p.1 → whO c body f (p, (n : Int)) () = .ok (run p (pow w n), (0 : Int)) () := by
  intro f
  induction f with
  | zero => intro n p hf; omega
  | succ f ihf =>
    intro n p hf hn h0
    rw [whO, hc]
    simp only [bind_ok]
    by_cases hz : n = 0
    · subst hz
      rw [if_neg (by simp)]
      rfl
    · rw [if_pos (by simp; omega), hb]
      obtain ⟨q, hq, q0, q1, hlk⟩ := v_rounds_alike w p hk hl h0 ((n : Int) - 1) (by omega)
      obtain ⟨m, rfl⟩ : ∃ m : Nat, q = m := ⟨q.toNat, by omega⟩
      have hr := rounds (t := w) (s := p) (u := (run p w).1 - p.1) (v := (run p w).2 - p.2) hk h0 (by omega) (by omega) m fun i hi => hlk i (by omega) (by omega)
      obtain ⟨la, ea⟩ := sts_last p w
      have e1 : atI (sts p w) (-(1 : Int)) = some (run p w) := by rw [ea]; exact atI_last
      have mu : ∀ y : Int, mulO (1 + (m : Int)) y = some ((1 + (m : Int)) * y) := fun y => mulO_ok (.inl (by omega))
      simp only [v_states_of w p hk hl, bind_ok, hq, e1, ofO_some, mu]
      have hp2 := run_nonneg (pow w (m + 1)) h0
      have ih := ihf (n - (m + 1)) (run p (pow w (m + 1))) (by omega) (by omega) hp2
      have en : ((n - (m + 1) : Nat) : Int) = (n : Int) - (1 + m) := by omega
      have es : run p (pow w n) = run (run p (pow w (m + 1))) (pow w (n - (m + 1))) := by
        rw [← run_append, ← pow_add, show m + 1 + (n - (m + 1)) = n from by omega]
      rw [es, ← ih, en, hr]
      have e2 : ((m + 1 : Nat) : Int) = 1 + m := by omega
      simp only [e2]
theorem v_powered (w : List Nat) (hk : Ks w) (hl : w.length ≤ 800000) (n : Nat) (hn : n < 2 ^ 62) (p : S2) (h0 : 0 ≤ p.1) : d_powered w n p = .ok (run p (pow w n)) () := by
  unfold d_powered
  rw [v_powered_loop w hk hl _ _ (fun _ _ => rfl) (fun _ _ => rfl) fuel n p (fuel_big (by omega)) hn h0]
  rfl
end LB

set_option Elab.async false
set_option linter.all false
set_option maxRecDepth 100000
set_option maxHeartbeats 4000000
set_option autoImplicit false
/-! B2: rows: what their functions tell. -/
namespace LB
open VS TL LM
open L2 (atI ixN)
abbrev Ps := List (List Nat × Int)
def den : Ps → List Nat
  | [] => []
  | p :: ps => pow p.1 p.2.toNat ++ den ps
theorem den_app (a b : Ps) : den (a ++ b) = den a ++ den b := by
  induction a with
  | nil => rfl
  | cons p a ih => rw [List.cons_append, den, den, ih, List.append_assoc]
structure Okp (m : Nat) (p : List Nat × Int) : Prop where
  ne : p.1 ≠ []
  len : p.1.length ≤ m
  ks : Ks p.1
  pos : 1 ≤ p.2
structure WF (m : Nat) (ps : Ps) : Prop where
  ok : ∀ p ∈ ps, Okp m p
  m : m ≤ 250000
  cnt : ps.length ≤ 300000
  tot : (den ps).length < 2 ^ 60
theorem den_ks {m : Nat} {ps : Ps} (h : ∀ p ∈ ps, Okp m p) : Ks (den ps) := by
  induction ps with
  | nil => intro k hk; cases hk
  | cons p ps ih => rw [den]; exact ((h p (by simp)).ks.pow _).app (ih fun q hq => h q (by simp [hq]))
theorem mapO_ok {σ α β : Type} {v : β → σ → O σ α} (f : β → α) : ∀ (xs : List β) (s : σ), (∀ x ∈ xs, ∀ s, v x s = .ok (f x) s) → mapO v xs s = .ok (xs.map f) s
  | [], _, _ => rfl
  | x :: xs, s, h => by
    rw [mapO, h x (by simp) s, bind_ok, mapO_ok f xs s fun y hy => h y (by simp [hy]), bind_ok]
    rfl
def sz (p : List Nat × Int) : Int := (p.1.length : Int) * p.2
theorem sz_len {p : List Nat × Int} (h : 0 ≤ p.2) : sz p = ((pow p.1 p.2.toNat).length : Nat) := by
  unfold sz
  rw [pow_length, Int.natCast_mul, Int.toNat_of_nonneg h, Int.mul_comm]
theorem sum_sz {ps : Ps} (h : ∀ p ∈ ps, 0 ≤ p.2) : (ps.map sz).sum = ((den ps).length : Nat) := by
  induction ps with
  | nil => rfl
  | cons p ps ih => rw [List.map_cons, List.sum_cons, ih fun q hq => h q (by simp [hq]), sz_len (h p (by simp)), den, List.length_append]; omega
theorem piece_size {m : Nat} {p : List Nat × Int} (h : Okp m p) (hm : m ≤ 250000) {σ : Type} (s : σ) : (O.bind (ofO (lenS p.1) s) fun x s1 => ofO (mulO x p.2) s1) = .ok (sz p) s := by
  have := h.len
  rw [lenS_ok (by omega), ofO_some, bind_ok, mulO_ok (.inl (by omega)), ofO_some]
  rfl
theorem v_len {m : Nat} {ps : Ps} (h : WF m ps) : d_Row__len ⟨ps⟩ = .ok ((den ps).length : Nat) () := by
  have hc := h.cnt
  have ht := h.tot
  unfold d_Row__len
  rw [smL_ok (show (Row.mk ps).pieces.length ≤ 1000000 by show ps.length ≤ 1000000; omega)]
  simp only [bind_ok]
  rw [mapO_ok sz ps () fun p hp s => piece_size (h.ok p hp) h.m ()]
  simp only [bind_ok, sum_sz fun p hp => by have := (h.ok p hp).pos; omega]
  rw [lenRg_ok (by omega) (by omega), ofO_some]
theorem lenI_len {m : Nat} {ps : Ps} (h : WF m ps) : (O.bind (d_Row__len ⟨ps⟩) fun n _ => lenI n ()) = .ok ((den ps).length : Nat) () := by
  have ht := h.tot
  rw [v_len h, bind_ok, lenI_ok (by omega) (by omega)]
theorem v_kinds_loop : ∀ (t : List Nat) (n : Nat), Ks t → foldO (fun i_152 (v_151 : Unit) (_ : Unit) => (if (!decide (i_152.2.c ∈ ([104, 72, 46, 65] : List Nat))) = true then .no else
    (.ok () ()))) (enI n (t.map Ch.mk)) () () = .ok () ()
  | [], _, _ => rfl
  | k :: t, n, h => by
    rw [List.map_cons, enI, foldO]
    have : k ∈ ([104, 72, 46, 65] : List Nat) := by
      rcases isK_cases (h k (by simp)) with h | h | h | h <;> simp [h]
    rw [decide_eq_true this]
    exact v_kinds_loop t (n + 1) fun z hz => h z (by simp [hz])
theorem v_kinds {t : List Nat} (h : Ks t) : d_check_kinds_s t = .ok () () := by
  unfold d_check_kinds_s
  rw [v_kinds_loop t 0 h]
  rfl
def psOf (t : List Nat) : Ps := if t = [] then [] else [(t, 1)]
theorem v_init {t : List Nat} (h : Ks t) : d_Row__init_s t = .ok ⟨psOf t⟩ () := by
  unfold d_Row__init_s psOf
  rw [v_kinds h]
  by_cases e : t = [] <;> simp [e, bind_ok]
theorem den_psOf (t : List Nat) : den (psOf t) = t := by
  unfold psOf
  by_cases e : t = [] <;> simp [e, den, LM.pow]
theorem wf_psOf {m : Nat} {t : List Nat} (h : Ks t) (hl : t.length ≤ m) (hm : m ≤ 250000) : WF m (psOf t) := by
  refine ⟨fun p hp => ?_, hm, by unfold psOf; split <;> simp, by rw [den_psOf]; omega⟩
  unfold psOf at hp
  by_cases e : t = []
  · simp [e] at hp
  · simp only [e, if_false, List.mem_singleton] at hp
    subst hp
    exact ⟨e, hl, h, Int.le_refl 1⟩
/-- pieces as they are handed in -/
structure Okr (m : Nat) (p : List Nat × Int) : Prop where
  len : p.1.length ≤ m
  ks : Ks p.1
  pos : 0 ≤ p.2
def keep (ps : Ps) : Ps := ps.filter fun x => (!decide (x.1 = [])) && decide (0 < x.2)
theorem v_pieces {ps : Ps} (h : ps.length ≤ 1000000) : d_Pieces__init ps = .ok ⟨keep ps⟩ () := by
  unfold d_Pieces__init
  rw [smL_ok h]
  simp only [bind_ok]
  congr 2
  show List.map (fun x => (x.1, x.2)) (keep ps) = keep ps
  rw [show (fun x : List Nat × Int => (x.1, x.2)) = id from rfl, List.map_id]
theorem pow_nil (n : Nat) : pow [] n = [] := by
  induction n with
  | zero => rfl
  | succ n ih => rw [LM.pow, ih]; rfl
theorem den_keep {ps : Ps} (h : ∀ p ∈ ps, 0 ≤ p.2) : den (keep ps) = den ps := by
  induction ps with
  | nil => rfl
  | cons p ps ih =>
    have ih := ih fun q hq => h q (by simp [hq])
    have hp := h p (by simp)
    unfold keep at ih ⊢
    rw [List.filter_cons]
    by_cases c : ((!decide (p.1 = [])) && decide (0 < p.2)) = true
    · rw [if_pos c, den, ih, den]
    · rw [if_neg c, ih, den]
      simp only [Bool.and_eq_true, Bool.not_eq_true', decide_eq_false_iff_not, decide_eq_true_iff] at c
      by_cases e : p.1 = []
      · rw [e, pow_nil]; rfl
      · have : p.2.toNat = 0 := by
          have : ¬ 0 < p.2 := fun z => c ⟨e, z⟩
          omega
        rw [this]; rfl
theorem wf_keep {m : Nat} {ps : Ps} (h : ∀ p ∈ ps, Okr m p) (hm : m ≤ 250000) (hc : ps.length ≤ 300000) (ht : (den ps).length < 2 ^ 60) : WF m (keep ps) := by
  refine ⟨fun p hp => ?_, hm, Nat.le_trans (List.length_filter_le _ _) hc, by rw [den_keep fun p hp => (h p hp).pos]; exact ht⟩
  unfold keep at hp
  rw [List.mem_filter] at hp
  have := h p hp.1
  have hc := hp.2
  simp only [Bool.and_eq_true, Bool.not_eq_true', decide_eq_false_iff_not, decide_eq_true_iff] at hc
  exact ⟨hc.1, this.len, this.ks, by omega⟩
theorem Okp.r {m : Nat} {p : List Nat × Int} (h : Okp m p) : Okr m p := ⟨h.len, h.ks, by have := h.pos; omega⟩
theorem v_row {ps : Ps} (h : ps.length ≤ 1000000) : (O.bind (d_Pieces__init ps) fun x _ => d_Row__init_Pieces x) = .ok ⟨keep ps⟩ () := by
  rw [v_pieces h]; rfl
theorem keep_wf {m : Nat} {ps : Ps} (h : WF m ps) : keep ps = ps := by
  unfold keep
  rw [List.filter_eq_self]
  intro p hp
  have := h.ok p hp
  have := this.pos
  simp [(h.ok p hp).ne]; omega
/-! through -/
theorem v_through_loop {m : Nat} (hm : m ≤ 250000) : ∀ (ps : Ps) (s : S2), (∀ p ∈ ps, Okp m p) → (den ps).length < 2 ^ 60 → 0 ≤ s.1 → foldO (fun i_297 (v_296 : ((Int) × (Int))) (_ : Unit) => (O.bind (d_powered (i_297.1) (i_297.2) (v_296)) fun state_404 _ => (.ok state_404 ()))) ps s () = .ok (run s (den ps)) ()
  | [], s, _, _, _ => rfl
  | p :: ps, s, h, ht, h0 => by
    have hp := h p (by simp)
    have h1 := hp.pos
    have h2 := hp.len
    have h3 : 1 ≤ p.1.length := List.length_pos_iff.mpr hp.ne
    rw [den, List.length_append, pow_length] at ht
    have hn : p.2.toNat < 2 ^ 60 := by
      have : p.2.toNat * 1 ≤ p.2.toNat * p.1.length := Nat.mul_le_mul_left _ h3
      omega
    have e : ((p.2.toNat : Nat) : Int) = p.2 := by omega
    rw [foldO]
    have hv := v_powered p.1 hp.ks (by omega) p.2.toNat (by omega) s h0
    rw [e] at hv
    simp only [hv, bind_ok]
    rw [v_through_loop hm ps _ (fun q hq => h q (by simp [hq])) (by omega) (run_nonneg _ h0), den, run_append]
theorem v_through {m : Nat} {ps : Ps} (h : WF m ps) (s : S2) (h0 : 0 ≤ s.1) : d_through ⟨ps⟩ s = .ok (run s (den ps)) () := by
  unfold d_through
  show (foldO _ ps s ()).bind _ = _
  rw [v_through_loop h.m ps s h.ok h.tot h0]
  rfl
theorem v_reach {m : Nat} {ps : Ps} (h : WF m ps) : d_reach_Row ⟨ps⟩ = .ok (rea (den ps)) () := by
  unfold d_reach_Row d_row_of_Row
  simp only [bind_ok, v_through h (0, 0) (by decide)]
  rfl
/-! cuts of a power -/
def Per (w : List Nat) (c : Nat) (L : List Nat) : Prop := ∀ i, i < L.length → L[i]? = w[(c + i) % w.length]?
theorem Per.app {w A B : List Nat} {c : Nat} (h : Per w c A) (h' : Per w (c + A.length) B) : Per w c (A ++ B) := fun i hi => by
  by_cases hA : i < A.length
  · rw [List.getElem?_append_left hA]; exact h i hA
  · rw [List.getElem?_append_right (by omega), h' (i - A.length) (by rw [List.length_append] at hi; omega)]
    congr 2
    omega
theorem Per.mod {w L : List Nat} {c d : Nat} (h : Per w c L) (e : c % w.length = d % w.length) : Per w d L := fun i hi => by
  rw [h i hi, Nat.add_mod, e, ← Nat.add_mod]
theorem Per.self (w : List Nat) : Per w 0 w := fun i hi => by rw [Nat.zero_add, Nat.mod_eq_of_lt hi]
theorem Per.pow (w : List Nat) : ∀ n, Per w 0 (pow w n)
  | 0 => fun i hi => by simp [LM.pow] at hi
  | n + 1 => by
    rw [LM.pow]
    exact (Per.self w).app ((Per.pow w n).mod (by simp))
theorem Per.drop {w L : List Nat} {c : Nat} (h : Per w c L) (k : Nat) : Per w (c + k) (L.drop k) := fun i hi => by
  rw [List.length_drop] at hi
  rw [List.getElem?_drop, h (k + i) (by omega)]
  congr 2
  omega
theorem Per.take {w L : List Nat} {c : Nat} (h : Per w c L) (k : Nat) : Per w c (L.take k) := fun i hi => by
  rw [List.length_take] at hi
  rw [List.getElem?_take_of_lt (by omega), h i (by omega)]
theorem Per.eq {w A B : List Nat} {c d : Nat} (h : Per w c A) (h' : Per w d B) (e : c % w.length = d % w.length) (hl : A.length = B.length) : A = B := by
  apply List.ext_getElem?
  intro i
  by_cases hi : i < A.length
  · rw [h i hi, (h'.mod e.symm) i (by omega)]
  · rw [List.getElem?_eq_none (by omega), List.getElem?_eq_none (by omega)]
theorem sIx_nat (n d k : Nat) (h : k ≤ n) : HT.sIx n d (some (k : Int)) = k := by
  rw [HT.sIx_nat, Nat.min_eq_left h]
theorem cutL_nn {α : Type} (l : List α) {a b : Nat} (ha : a ≤ l.length) (hb : b ≤ l.length) : cutL l (some (a : Int)) (some (b : Int)) = (l.drop a).take (b - a) := by
  unfold cutL
  rw [sIx_nat _ _ _ ha, sIx_nat _ _ _ hb]
theorem cutL_from {α : Type} (l : List α) {a : Nat} (ha : a ≤ l.length) : cutL l (some (a : Int)) none = l.drop a := by
  unfold cutL
  rw [sIx_nat _ _ _ ha]
  show (l.drop a).take (l.length - a) = _
  rw [List.take_of_length_le (by simp)]
theorem cutL_to {α : Type} (l : List α) {b : Nat} (hb : b ≤ l.length) : cutL l none (some (b : Int)) = l.take b := by
  unfold cutL
  rw [sIx_nat _ _ _ hb]
  show (l.drop 0).take (b - 0) = _
  rw [List.drop_zero, Nat.sub_zero]
theorem slS_ok {l : List Nat} (h : l.length ≤ 1000000) (lo hi : Option Int) : slS lo hi l = some (cutL l lo hi) := by
  unfold slS
  rw [if_pos (show small l.length = true from decide_eq_true h)]
theorem rep_pow (w : List Nat) (n : Nat) : repS (n : Int) w = pow w n := by
  unfold repS
  rw [Int.toNat_natCast]
  induction n with
  | zero => rfl
  | succ n ih => rw [List.replicate_succ, List.flatten_cons, ih, LM.pow]
theorem mulS_ok {w : List Nat} {n : Nat} (h : n ≤ 1000000) (hl : w.length * n ≤ 1000000) : mulS w (n : Int) = some (pow w n) := by
  unfold mulS
  rw [if_pos ⟨decide_eq_true (by omega), decide_eq_true (by omega), show small (w.length * (n : Int).toNat) = true from decide_eq_true (by rw [Int.toNat_natCast]; exact hl)⟩, rep_pow]
theorem v_cut {m : Nat} {w : List Nat} {t : Int} {b e : Nat} (hw : w ≠ []) (hl : w.length ≤ m) (hm : m ≤ 250000) (hk : Ks w) (ht : 0 ≤ t) (hbe : b < e) (he : e ≤ t.toNat * w.length) (hb : e < 2 ^ 60) :
    ∃ L : Ps, d_cut_piece w t (b : Int) (e : Int) = .ok L () ∧ (∀ p ∈ L, Okr (2 * m) p) ∧ L.length ≤ 3 ∧ den L = ((pow w t.toNat).take e).drop b := by
  have hn : 0 < w.length := List.length_pos_iff.mpr hw
  have hm' : b % w.length < w.length := Nat.mod_lt _ hn
  have ee : (b : Int) % (w.length : Int) = ((b % w.length : Nat) : Int) := by omega
  have hlen : (((pow w t.toNat).take e).drop b).length = e - b := by
    rw [List.length_drop, List.length_take, pow_length]; omega
  have hper : Per w b (((pow w t.toNat).take e).drop b) := by
    have := (((Per.pow w t.toNat).take e).drop b)
    rwa [Nat.zero_add] at this
  unfold d_cut_piece
  simp only [lenS_ok (show w.length ≤ 1000000 by omega), ofO_some, bind_ok, modO_ok (show (0 : Int) < (w.length : Int) by omega), mulO_ok (i := 2) (j := (w.length : Int)) (.inl (by omega)), ee]
  generalize hh : b % w.length = h at hm'
  by_cases c : (e : Int) - b ≤ 2 * w.length
  · rw [if_pos (decide_eq_true c)]
    have e4 : mulS w (4 : Int) = some (pow w 4) := mulS_ok (n := 4) (by decide) (by omega)
    have e5 : ((h : Int) + e) - b = ((h + (e - b) : Nat) : Int) := by omega
    have l4 : (pow w 4).length = 4 * w.length := pow_length w 4
    simp only [e4, ofO_some, bind_ok, e5, slS_ok (show (pow w 4).length ≤ 1000000 by omega), cutL_nn (pow w 4) (show h ≤ (pow w 4).length by omega) (show h + (e - b) ≤ (pow w 4).length by omega)]
    have hq : ((pow w 4).drop h).take (h + (e - b) - h) = ((pow w t.toNat).take e).drop b := by
      refine Per.eq (w := w) (c := h) (d := b) ?_ hper (by rw [← hh, Nat.mod_mod]) ?_
      · have := (((Per.pow w 4).drop h).take (h + (e - b) - h))
        rwa [Nat.zero_add] at this
      · rw [hlen, List.length_take, List.length_drop, l4]; omega
    refine ⟨[(((pow w 4).drop h).take (h + (e - b) - h), 1)], rfl, fun p hp => ?_, by simp, ?_⟩
    · rw [List.mem_singleton] at hp
      subst hp
      refine ⟨?_, ((hk.pow 4).drop h).take _, Int.zero_le_ofNat 1⟩
      show (((pow w 4).drop h).take (h + (e - b) - h)).length ≤ 2 * m
      rw [hq, hlen]
      omega
    · rw [hq]
      simp [den, LM.pow]
  · rw [if_neg (by simpa using c)]
    have key : ∀ F : List Nat, Per w h F → F.length ≤ w.length → (h + F.length) % w.length = 0 → ∃ L : Ps, (O.bind (O.bind (ofO (lenS F) ()) fun x _ => .ok ((e : Int) - b - x) ()) fun left _ => O.bind (O.bind (ofO (divO left (w.length : Int)) ()) fun x _ => .ok (w, x) ()) fun x _ =>
        O.bind (O.bind (ofO (slS none (some (left % (w.length : Int))) w) ()) fun x _ => .ok (x, (1 : Int)) ()) fun y _ => lstO [(F, (1 : Int)), x, y] ()) = (.ok L () : P Ps) ∧ (∀ p ∈ L, Okr (2 * m) p) ∧ L.length ≤ 3 ∧ den L = ((pow w t.toNat).take e).drop b := by
      intro F hF hFl hFm
      have hFks : Ks F := fun k hkF => by
        obtain ⟨i, hi, e1⟩ := List.getElem_of_mem hkF
        have e2 := hF i hi
        rw [List.getElem?_eq_getElem hi, e1] at e2
        exact hk k (List.mem_of_getElem? e2.symm)
      have el : (e : Int) - b - F.length = ((e - b - F.length : Nat) : Int) := by omega
      generalize hle : e - b - F.length = left at el
      have ed : (left : Int) / (w.length : Int) = ((left / w.length : Nat) : Int) := by omega
      have em : (left : Int) % (w.length : Int) = ((left % w.length : Nat) : Int) := by omega
      have hml : left % w.length < w.length := Nat.mod_lt _ hn
      simp only [lenS_ok (show F.length ≤ 1000000 by omega), ofO_some, bind_ok, el, divO_ok (i := (left : Int)) (show (0 : Int) < (w.length : Int) by omega) (by omega), ed, em, slS_ok (show w.length ≤ 1000000 by omega), cutL_to w (show left % w.length ≤ w.length by omega)]
      refine ⟨[(F, 1), (w, ((left / w.length : Nat) : Int)), (w.take (left % w.length), 1)], rfl, fun p hp => ?_, by simp, ?_⟩
      · simp only [List.mem_cons, List.not_mem_nil, or_false] at hp
        rcases hp with rfl | rfl | rfl
        · exact ⟨by show F.length ≤ _; omega, hFks, Int.zero_le_ofNat 1⟩
        · exact ⟨by show w.length ≤ _; omega, hk, Int.natCast_nonneg _⟩
        · exact ⟨by show (w.take _).length ≤ _; rw [List.length_take]; omega, hk.take _, Int.zero_le_ofNat 1⟩
      · have hd : den [(F, 1), (w, ((left / w.length : Nat) : Int)), (w.take (left % w.length), 1)] = F ++ (pow w (left / w.length) ++ w.take (left % w.length)) := by
          rw [den, den, den, den, Int.toNat_natCast]
          show (F ++ []) ++ (pow w (left / w.length) ++ ((w.take (left % w.length) ++ []) ++ [])) = _
          simp
        rw [hd]
        have hdm := Nat.div_add_mod left w.length
        refine Per.eq (w := w) (c := h) (d := b) (hF.app (((Per.pow w (left / w.length)).app ?_).mod ?_)) hper (by rw [← hh, Nat.mod_mod]) ?_
        · rw [Nat.zero_add, pow_length]
          exact ((Per.self w).take _).mod (by simp)
        · rw [Nat.zero_mod]; exact hFm.symm
        · rw [hlen, List.length_append, List.length_append, pow_length, List.length_take, Nat.min_eq_left (by omega), Nat.mul_comm]
          omega
    by_cases hz : 0 < h
    · have hs : slS (some (h : Int)) none w = some (w.drop h) := by rw [slS_ok (by omega), cutL_from w (by omega)]
      simp only [show decide ((0 : Int) < (h : Int)) = true from decide_eq_true (by omega), if_true, hs, ofO_some, bind_ok]
      refine key (w.drop h) ?_ (by simp) (by rw [List.length_drop]; rw [show h + (w.length - h) = w.length from by omega]; exact Nat.mod_self _)
      have := (Per.self w).drop h
      rwa [Nat.zero_add] at this
    · have hz' : h = 0 := by omega
      subst hz'
      simp only [show decide ((0 : Int) < ((0 : Nat) : Int)) = false from rfl, Bool.false_eq_true, if_false, bind_ok]
      exact key [] (fun i hi => by simp at hi) (by simp) (by simp)
end LB

set_option Elab.async false
set_option linter.all false
set_option maxRecDepth 100000
set_option maxHeartbeats 4000000
set_option autoImplicit false
/-! B3: parts of rows, margins, the firm slot. -/
namespace LB
open VS TL LM
open L2 (atI ixN)
theorem extO_ok {σ α : Type} [En α] {l a : List α} {s : σ} (h : l.length + a.length ≤ 1000000) : extO l a s = .ok (l ++ a) s := by
  unfold extO
  rw [if_pos (show small (l.length + a.length) = true from decide_eq_true h)]; rfl
theorem addL_ok {α : Type} {a b : List α} (h : a.length + b.length ≤ 1000000) : addL a b = some (a ++ b) := by
  unfold addL
  rw [if_pos (show small (a.length + b.length) = true from decide_eq_true h)]
theorem take_drop_app (A B : List Nat) (L F : Nat) : ((A ++ B).take L).drop F = (A.take L).drop F ++ (B.take (L - A.length)).drop (F - A.length) := by
  rw [List.take_append]
  by_cases h : A.length ≤ L
  · rw [List.take_of_length_le h, List.drop_append]
  · have : L - A.length = 0 := by omega
    rw [this]
    simp
theorem is_int (i : Int) : d_is_integer_i i = .ok true () := rfl
theorem v_part_loop {m : Nat} (hm : m ≤ 125000) (F L : Nat) (hL : L < 2 ^ 60) : ∀ (ps : Ps) (done : Ps) (found : Ps), (∀ p ∈ ps, Okp m p) → (∀ p ∈ found, Okr (2 * m) p) → found.length + 3 * ps.length ≤ 900000 → (den done).length + (den ps).length < 2 ^ 60 → den found = ((den done).take L).drop F →
    ∃ r : Ps, foldO (fun i_434 (v_433 : (List ((List Nat) × (Int))) × (Int)) (_ : Unit) => (O.bind (O.bind (ofO (lenS i_434.1) ()) fun x_489 _ => ofO (mulO x_489 i_434.2) ()) fun size_436 _ =>
    (let firsthere_438 := (if (0 : Int) > (((F : Int) + 1 - (1 : Int)) - v_433.2) then (0 : Int) else (((F : Int) + 1 - (1 : Int)) - v_433.2)); (let end_440 := (if size_436 < ((L : Int) - v_433.2) then size_436 else ((L : Int) - v_433.2)); (O.bind (if (decide (firsthere_438 < end_440)) = true then (O.bind (d_cut_piece (i_434.1) (i_434.2) (firsthere_438) (end_440)) fun y_491 _ => O.bind (extO v_433.1 y_491 ()) fun found_468 _ =>
    (.ok found_468 ())) else (.ok v_433.1 ())) fun v_470 _ =>
    (let ahead_472 := (v_433.2 + size_436); (.ok (v_470, ahead_472) ()))))))) ps (found, ((den done).length : Int)) () = .ok (r, ((den (done ++ ps)).length : Int)) () ∧ (∀ p ∈ r, Okr (2 * m) p) ∧ r.length ≤ found.length + 3 * ps.length ∧ den r = ((den (done ++ ps)).take L).drop F
  | [], done, found, _, hf, _, _, hd => ⟨found, by rw [List.append_nil]; rfl, hf, by simp, by rw [List.append_nil]; exact hd⟩
  | p :: ps, done, found, hp, hf, hc, ht, hd => by
    have op := hp p (by simp)
    have hpos := op.pos
    have hsz := piece_size op (by omega) ()
    have hszl : sz p = ((pow p.1 p.2.toNat).length : Nat) := sz_len (by omega)
    simp only [List.length_cons] at hc
    rw [den, List.length_append] at ht
    generalize hA : (den done).length = A at ht
    have hS : (pow p.1 p.2.toNat).length = p.2.toNat * p.1.length := pow_length _ _
    generalize hSz : (pow p.1 p.2.toNat).length = Z at hszl hS ht
    have hnext : den (done ++ [p]) = den done ++ pow p.1 p.2.toNat := by rw [den_app, den, den, List.append_nil]
    have hlen : (den (done ++ [p])).length = A + Z := by rw [hnext, List.length_append, hA, hSz]
    have fin : ∀ f2 : Ps, (∀ q ∈ f2, Okr (2 * m) q) → f2.length ≤ found.length + 3 → den f2 = ((den (done ++ [p])).take L).drop F → _ := fun f2 h1 h2 h3 =>
      v_part_loop hm F L hL ps (done ++ [p]) f2 (fun q hq => hp q (by simp [hq])) h1 (by omega) (by rw [hlen]; omega) h3
    rw [foldO]
    simp only [hsz, bind_ok, hszl]
    have e1 : ((F : Int) + 1 - 1 - (A : Nat)) = (F : Int) - A := by omega
    rw [show done ++ p :: ps = done ++ [p] ++ ps from by simp]
    have eF : (if (0 : Int) > ((F : Int) + 1 - 1 - (A : Nat)) then (0 : Int) else ((F : Int) + 1 - 1 - (A : Nat))) = ((F - A : Nat) : Int) := by split <;> omega
    simp only [eF]
    have hcut : ((den (done ++ [p])).take L).drop F = den found ++ ((pow p.1 p.2.toNat).take (L - A)).drop (F - A) := by
      rw [hnext, take_drop_app, hd, hA]
    by_cases c : (F - A : Nat) < min (L - A) Z
    · have hLA : A ≤ L := by omega
      have eE : (if ((Z : Nat) : Int) < (L : Int) - (A : Nat) then ((Z : Nat) : Int) else (L : Int) - (A : Nat)) = ((min (L - A) Z : Nat) : Int) := by split <;> omega
      obtain ⟨c1, c2, c3, c4, c5⟩ := v_cut (m := m) (w := p.1) (t := p.2) (b := F - A) (e := min (L - A) Z) op.ne op.len (by omega) op.ks (by omega) c (by rw [← hS]; exact Nat.min_le_right _ _) (by omega)
      simp only [eE, show decide (((F - A : Nat) : Int) < ((min (L - A) Z : Nat) : Int)) = true from decide_eq_true (by omega), if_true, c2, bind_ok, extO_ok (l := found) (a := c1) (s := ()) (by omega)]
      have hz : (A : Int) + (Z : Nat) = (((den (done ++ [p])).length : Nat) : Int) := by rw [hlen]; omega
      rw [hz]
      obtain ⟨r, g1, g2, g3, g4⟩ := fin (found ++ c1) (fun q hq => (List.mem_append.mp hq).elim (hf q) (c3 q)) (by rw [List.length_append]; omega) (by
        rw [hcut, den_app, c5]
        congr 2
        by_cases q : L - A ≤ Z
        · rw [Nat.min_eq_left q]
        · rw [Nat.min_eq_right (by omega), List.take_of_length_le (by omega), List.take_of_length_le (by omega)])
      refine ⟨r, g1, g2, ?_, g4⟩
      rw [List.length_append] at g3
      simp only [List.length_cons]
      omega
    · have hno : decide (((F - A : Nat) : Int) < (if ((Z : Nat) : Int) < (L : Int) - (A : Nat) then ((Z : Nat) : Int) else (L : Int) - (A : Nat))) = false := decide_eq_false (by split <;> omega)
      simp only [hno, Bool.false_eq_true, if_false, bind_ok]
      have hz : (A : Int) + (Z : Nat) = (((den (done ++ [p])).length : Nat) : Int) := by rw [hlen]; omega
      rw [hz]
      obtain ⟨r, g1, g2, g3, g4⟩ := fin found hf (by omega) (by
        rw [hcut, List.drop_of_length_le (by rw [List.length_take]; omega), List.append_nil])
      refine ⟨r, g1, g2, ?_, g4⟩
      simp only [List.length_cons]
      omega
theorem v_part {m : Nat} (hm : m ≤ 125000) {ps : Ps} (h : WF m ps) (hc : ps.length ≤ 100000) {F L : Nat} (h1 : F ≤ L) (h2 : L ≤ (den ps).length) :
    ∃ qs, d_Row_part ⟨ps⟩ ((F : Int) + 1) (L : Int) = .ok ⟨qs⟩ () ∧ WF (2 * m) qs ∧ qs.length ≤ 3 * ps.length ∧ den qs = ((den ps).take L).drop F := by
  have ht := h.tot
  obtain ⟨r, g1, g2, g3, g4⟩ := v_part_loop hm F L (by omega) ps [] [] h.ok (fun p hp => by cases hp) (by simp; omega) (by simpa [den] using ht) (by simp [den])
  simp only [List.nil_append, List.length_nil, Nat.zero_add] at g1 g3 g4
  have hz : ((den ([] : Ps)).length : Int) = 0 := rfl
  rw [hz] at g1
  have hden : (den r).length < 2 ^ 60 := by rw [g4, List.length_drop, List.length_take]; omega
  refine ⟨keep r, ?_, wf_keep g2 (by omega) (by omega) hden, Nat.le_trans (List.length_filter_le _ _) g3, by rw [den_keep fun p hp => (g2 p hp).pos]; exact g4⟩
  unfold d_Row_part
  simp only [is_int, bind_ok, Bool.not_true, Bool.false_eq_true, if_false, lenI_len h]
  have t1 : decide ((1 : Int) ≤ (F : Int) + 1) = true := decide_eq_true (by omega)
  have t2 : decide ((F : Int) + 1 ≤ ((den ps).length : Nat) + 1) = true := decide_eq_true (by omega)
  have t3 : decide (((F : Int) + 1 - 1) ≤ (L : Int)) = true := decide_eq_true (by omega)
  have t4 : decide ((L : Int) ≤ ((den ps).length : Nat)) = true := decide_eq_true (by omega)
  simp only [t1, t2, t3, t4, if_true, bind_ok, Bool.not_true, Bool.false_eq_true, if_false, g1, v_pieces (show r.length ≤ 1000000 by omega)]
  rfl
theorem v_both {m : Nat} (hm : m ≤ 125000) {ps : Ps} (h : WF m ps) (hc : ps.length ≤ 100000) {i : Nat} (hi : i ≤ (den ps).length) : d_both ⟨ps⟩ ((i : Int) + 1) = .ok (st0 (den ps) i) () := by
  obtain ⟨q1, a1, a2, _, a4⟩ := v_part hm h hc (F := 0) (L := i) (by omega) hi
  obtain ⟨q2, b1, b2, _, b4⟩ := v_part hm h hc (F := i) (L := (den ps).length) hi (Nat.le_refl _)
  unfold d_both
  have e1 : ((0 : Nat) : Int) + 1 = 1 := rfl
  rw [e1] at a1
  have e2 : (i : Int) + 1 - 1 = (i : Int) := by omega
  simp only [e2, a1, bind_ok, v_reach a2, lenI_len h, b1]
  rw [v_through b2 (rea (den q1), rea (den q1)) (rea_nonneg _), a4, b4]
  unfold st0
  rw [List.drop_zero, List.take_of_length_le (Nat.le_refl _)]
theorem v_last_loop {m : Nat} (hm : m ≤ 125000) {ps : Ps} (h : WF m ps) (hc : ps.length ≤ 100000) (number : Int) (c : (Int) × (Int) → Unit → P Bool) (body : (Int) × (Int) → Unit → P ((Int) × (Int)))
    (hcc : ∀ v s, c v s = .ok (decide (v.1 < v.2)) ())
    (hb : ∀ v s, body v s = O.bind (ofO (divO ((v.1 + v.2) + (1 : Int)) (2 : Int)) ()) fun middle _ => O.bind (O.bind (O.bind (d_both ⟨ps⟩ middle) fun x _ => .ok x.2 ()) fun x _ => .ok (decide (x < number)) ()) fun b _ => O.bind (if b = true then .ok (middle, v.2) () else .ok (v.1, middle - (1 : Int)) ()) fun w _ => .ok (w.1, w.2) ()) :
    ∀ (f lo hi : Nat), hi - lo < f → lo ≤ hi → hi ≤ (den ps).length → (∀ i, i < lo → mar (den ps) i < number) → (∀ i, hi ≤ i → i < (den ps).length → number ≤ mar (den ps) i) →
      ∃ l : Nat, whO c body f ((lo : Int), (hi : Int)) () = .ok ((l : Int), (l : Int)) () ∧ l ≤ (den ps).length ∧ (∀ i, i < l → mar (den ps) i < number) ∧ (∀ i, l ≤ i → i < (den ps).length → number ≤ mar (den ps) i) := by
  have ks := den_ks h.ok
  intro f
  induction f with
  | zero => intro lo hi hf; omega
  | succ f ihf =>
    intro lo hi hf hlh hh hlo hhi
    have ht := h.tot
    rw [whO, hcc]
    simp only [bind_ok]
    by_cases c : lo < hi
    · rw [if_pos (by simpa using c), hb]
      have hd : divO ((lo : Int) + (hi : Int) + 1) 2 = some ((((lo + hi + 1) / 2 - 1 : Nat) : Int) + 1) := by
        rw [divO_ok (by decide) (by decide)]
        congr 1
        omega
      generalize hmid : (lo + hi + 1) / 2 - 1 = mid at hd
      have hmi : mid < hi ∧ lo ≤ mid := by omega
      simp only [hd, ofO_some, bind_ok, v_both hm h hc (i := mid) (by omega)]
      rw [show (st0 (den ps) mid).2 = mar (den ps) mid from rfl]
      by_cases q : mar (den ps) mid < number
      · rw [if_pos (decide_eq_true q)]
        simp only [bind_ok]
        have e : ((mid : Int) + 1) = ((mid + 1 : Nat) : Int) := by omega
        rw [e]
        exact ihf (mid + 1) hi (by omega) (by omega) hh (fun i hi' => Int.lt_of_le_of_lt (mar_mono ks (show i ≤ mid by omega)) q) hhi
      · rw [if_neg (by simpa using q)]
        simp only [bind_ok]
        have e : ((mid : Int) + 1 - 1) = (mid : Int) := by omega
        rw [e]
        exact ihf lo mid (by omega) (by omega) (by omega) hlo (fun i hi' _ => Int.le_trans (by omega) (mar_mono ks hi'))
    · rw [if_neg (by simpa using c)]
      have : hi = lo := by omega
      subst this
      exact ⟨hi, rfl, hh, hlo, hhi⟩
theorem v_last_below {m : Nat} (hm : m ≤ 125000) {ps : Ps} (h : WF m ps) (hc : ps.length ≤ 100000) (number : Int) :
    ∃ l : Nat, d_last_below ⟨ps⟩ number = .ok (l : Int) () ∧ l ≤ (den ps).length ∧ (∀ i, i < l → mar (den ps) i < number) ∧ (∀ i, l ≤ i → i < (den ps).length → number ≤ mar (den ps) i) := by
  have ht := h.tot
  unfold d_last_below
  simp only [lenI_len h, bind_ok]
  obtain ⟨l, e, r⟩ := v_last_loop hm h hc number _ _ (fun _ _ => rfl) (fun _ _ => rfl) fuel 0 (den ps).length (fuel_big (by omega)) (by omega) (Nat.le_refl _) (fun i hi => by omega) (fun i h1 h2 => by omega)
  refine ⟨l, ?_, r⟩
  have e0 : ((0 : Nat) : Int) = 0 := rfl
  rw [e0] at e
  rw [e]
  rfl
end LB

set_option Elab.async false
set_option linter.all false
set_option maxRecDepth 100000
set_option maxHeartbeats 4000000
set_option autoImplicit false
/-! B4: draws. -/
namespace LB
open VS TL LM
open L2 (atI ixN)
structure SpOk (b : Nat) (s : Sp) : Prop where
  mix0 : 0 ≤ s.mix
  mix1 : s.mix < 2147483647
  c0 : 0 ≤ s.cnt
  c1 : s.cnt ≤ b
  big : 0 ≤ s.big
theorem SpOk.mono {b c : Nat} {s : Sp} (h : SpOk b s) (hbc : b ≤ c) : SpOk c s := ⟨h.mix0, h.mix1, h.c0, by have := h.c1; omega, h.big⟩
theorem spOk0 (ns : List Int) : SpOk 0 ⟨ns, 0, 0, 11⟩ := ⟨show (0 : Int) ≤ 11 by decide, show (11 : Int) < 2147483647 by decide, Int.le_refl 0, Int.le_refl 0, Int.le_refl 0⟩
theorem pow18 : powO (10 : Int) (18 : Int) = some 1000000000000000000 := by
  rw [show (18 : Int) = ((18 : Nat) : Int) from rfl, powO_ok (by decide) (by decide)]; rfl
theorem v_draw {b : Nat} {many : Int} {s : Sp} (h : SpOk b s) (hb : b < 2 ^ 40) (h1 : 1 ≤ many) (h2 : many < 2 ^ 60) : ∃ d s', d_law_draw many s = .ok d s' ∧ 0 ≤ d ∧ d < many ∧ SpOk (b + 1) s' := by
  obtain ⟨m0, m1, c0, c1, bg⟩ := h
  obtain ⟨cells, big, cnt, mix⟩ := s
  dsimp only at m0 m1 c0 c1 bg
  have tail : ∀ s1 : Sp, SpOk (b + 1) s1 → ∃ d s', (if decide (0 < s1.big) = true then O.bind (ofO (modO s1.big many) s1) fun d s_23 => O.bind (ofO (divO s_23.big many) s_23) fun a s_25 => .ok d { s_25 with big := a }
      else O.bind (ofO (mulO 7919 s1.cnt) s1) fun a s => O.bind (ofO (powO (s1.mix + a + 104729) 5) s) fun a s => O.bind (ofO (modO a 2147483629) s) fun mixed s_28 => O.bind (ofO (mulO mixed 48271) s_28) fun a s => O.bind (ofO (mulO 30011 s.cnt) s) fun a_1 s => O.bind (ofO (powO (a + a_1 + 29) 3) s) fun a s => O.bind (ofO (modO a 1000000007) s) fun x s => ofO (modO x many) s) = .ok d s' ∧ 0 ≤ d ∧ d < many ∧ SpOk (b + 1) s' := by
    intro s1 ⟨m0', m1', c0', c1', bg'⟩
    by_cases q : 0 < s1.big
    · rw [if_pos (decide_eq_true q)]
      have e1 := Int.emod_nonneg s1.big (show many ≠ 0 by omega)
      have e2 := Int.emod_lt_of_pos s1.big (show 0 < many by omega)
      rw [modO_ok (show 0 < many by omega), ofO_some, bind_ok, divO_ok (show 0 < many by omega) (by omega), ofO_some, bind_ok]
      exact ⟨_, _, rfl, e1, e2, m0', m1', c0', c1', Int.ediv_nonneg bg' (by omega)⟩
    · rw [if_neg (by simpa using q)]
      have p1 : mulO 7919 s1.cnt = some (7919 * s1.cnt) := mulO_ok (.inl (by decide))
      have p2 : mulO 30011 s1.cnt = some (30011 * s1.cnt) := mulO_ok (.inl (by decide))
      have p3 : powO (s1.mix + 7919 * s1.cnt + 104729) 5 = some ((s1.mix + 7919 * s1.cnt + 104729) ^ 5) := powO_ok (j := 5) (by decide) (by omega)
      simp only [p1, p2, p3, ofO_some, bind_ok, modO_ok (show (0 : Int) < 2147483629 by decide)]
      generalize hx : (s1.mix + 7919 * s1.cnt + 104729) ^ 5 % 2147483629 = x
      have x0 : 0 ≤ x := by rw [← hx]; exact Int.emod_nonneg _ (by decide)
      have x1 : x < 2147483629 := by rw [← hx]; exact Int.emod_lt_of_pos _ (by decide)
      have p4 : mulO x 48271 = some (x * 48271) := mulO_ok (.inr (by decide))
      have p5 : powO (x * 48271 + 30011 * s1.cnt + 29) 3 = some ((x * 48271 + 30011 * s1.cnt + 29) ^ 3) := powO_ok (j := 3) (by decide) (by omega)
      simp only [p2, p4, p5, ofO_some, bind_ok, modO_ok (show (0 : Int) < 1000000007 by decide), modO_ok (show (0 : Int) < many by omega)]
      exact ⟨_, _, rfl, Int.emod_nonneg _ (by omega), Int.emod_lt_of_pos _ (by omega), m0', m1', c0', c1', bg'⟩
  have fin : ∀ {o : O Sp Int} (s1 : Sp), SpOk (b + 1) s1 → (o = (if decide (0 < s1.big) = true then O.bind (ofO (modO s1.big many) s1) fun d s_23 => O.bind (ofO (divO s_23.big many) s_23) fun a s_25 => .ok d { s_25 with big := a }
      else O.bind (ofO (mulO 7919 s1.cnt) s1) fun a s => O.bind (ofO (powO (s1.mix + a + 104729) 5) s) fun a s => O.bind (ofO (modO a 2147483629) s) fun mixed s_28 => O.bind (ofO (mulO mixed 48271) s_28) fun a s => O.bind (ofO (mulO 30011 s.cnt) s) fun a_1 s => O.bind (ofO (powO (a + a_1 + 29) 3) s) fun a s => O.bind (ofO (modO a 1000000007) s) fun x s => ofO (modO x many) s)) → ∃ d s', o = .ok d s' ∧ 0 ≤ d ∧ d < many ∧ SpOk (b + 1) s' := fun s1 h e => by rw [e]; exact tail s1 h
  unfold d_law_draw
  simp only [bind_assoc, bind_ok, pow18, ofO_some]
  by_cases q : big = 0
  · cases cells with
    | nil =>
      simp only [q, decide_true, if_true, List.isEmpty_nil, Bool.not_true, bind_ok, Bool.false_eq_true, if_false]
      exact fin ⟨[], 0, cnt + 1, mix⟩ ⟨m0, m1, by show 0 ≤ cnt + 1; omega, by show cnt + 1 ≤ _; omega, Int.le_refl 0⟩ rfl
    | cons cell l =>
      have hmod0 := Int.emod_nonneg (mix * 8191 + cell + 3) (show (2147483647 : Int) ≠ 0 by decide)
      have hmod1 := Int.emod_lt_of_pos (mix * 8191 + cell + 3) (show (0 : Int) < 2147483647 by decide)
      simp only [q, decide_true, if_true, List.isEmpty_cons, Bool.not_false, bind_ok, mulO_ok (i := mix) (j := 8191) (.inr (by decide)), ofO_some, modO_ok (show (0 : Int) < 2147483647 by decide)]
      by_cases r : (1000000000000000000 : Int) ≤ cell
      · simp only [decide_eq_true r, if_true, bind_ok]
        exact fin ⟨l, cell, cnt + 1, (mix * 8191 + cell + 3) % 2147483647⟩ ⟨hmod0, hmod1, by show 0 ≤ cnt + 1; omega, by show cnt + 1 ≤ _; omega, by show 0 ≤ cell; omega⟩ rfl
      · simp only [decide_eq_false r, Bool.false_eq_true, if_false, bind_ok]
        exact fin ⟨l, 0, cnt + 1, (mix * 8191 + cell + 3) % 2147483647⟩ ⟨hmod0, hmod1, by show 0 ≤ cnt + 1; omega, by show cnt + 1 ≤ _; omega, Int.le_refl 0⟩ rfl
  · simp only [decide_eq_false q, Bool.false_eq_true, if_false, bind_ok]
    exact fin ⟨cells, big, cnt + 1, mix⟩ ⟨m0, m1, by show 0 ≤ cnt + 1; omega, by show cnt + 1 ≤ _; omega, bg⟩ rfl
end LB

set_option Elab.async false
set_option linter.all false
set_option maxRecDepth 100000
set_option maxHeartbeats 4000000
set_option autoImplicit false
/-! B5: drawn texts. -/
namespace LB
open VS TL LM
open L2 (atI ixN)
theorem atI_mem {α : Type} {xs : List α} {i : Int} (h : 0 ≤ i) (h' : i < xs.length) : ∃ x, atI xs i = some x ∧ x ∈ xs := by
  have hi : i.toNat < xs.length := by omega
  exact ⟨xs[i.toNat], by rw [atI_get h h', List.getElem?_eq_getElem hi], List.getElem_mem hi⟩
theorem v_pick_sls {b : Nat} {l : List (List Nat)} {s : Sp} (h : SpOk b s) (hb : b < 2 ^ 40) (hl : l ≠ []) (hl' : l.length < 2 ^ 50) : ∃ x s', d_law_pick_sls l s = .ok x s' ∧ x ∈ l ∧ SpOk (b + 1) s' := by
  have := List.length_pos_iff.mpr hl
  obtain ⟨d, s', e, d0, d1, k⟩ := v_draw (many := (l.length : Int)) h hb (by omega) (by omega)
  obtain ⟨x, ex, hx⟩ := atI_mem (xs := l) d0 d1
  refine ⟨x, s', ?_, hx, k⟩
  unfold d_law_pick_sls
  rw [e, bind_ok, ex, ofO_some]
theorem v_pick_ss {b : Nat} {l : List Nat} {s : Sp} (h : SpOk b s) (hb : b < 2 ^ 40) (hl : l ≠ []) (hl' : l.length ≤ 1000000) : ∃ x s', d_law_pick_ss l s = .ok x s' ∧ x.c ∈ l ∧ SpOk (b + 1) s' := by
  have := List.length_pos_iff.mpr hl
  obtain ⟨d, s', e, d0, d1, k⟩ := v_draw (many := (l.length : Int)) h hb (by omega) (by omega)
  obtain ⟨x, ex, hx⟩ := atI_mem (xs := l) d0 d1
  refine ⟨⟨x⟩, s', ?_, hx, k⟩
  unfold d_law_pick_ss
  rw [lenS_ok hl', ofO_some, bind_ok, e, bind_ok]
  unfold ixS
  rw [if_pos hl', ex]; rfl
theorem mapO_sp {α β : Type} {v : β → Sp → O Sp α} (P : α → Prop) (c : Nat) (M : Nat) : ∀ (xs : List β) (b : Nat) (s : Sp), (∀ x ∈ xs, ∀ b s, SpOk b s → b < M → ∃ a s', v x s = .ok a s' ∧ P a ∧ SpOk (b + c) s') → SpOk b s → b + c * xs.length < M →
    ∃ l s', mapO v xs s = .ok l s' ∧ l.length = xs.length ∧ (∀ a ∈ l, P a) ∧ SpOk (b + c * xs.length) s'
  | [], b, s, _, h, _ => ⟨[], s, rfl, rfl, (fun a ha => nomatch ha), by simpa using h⟩
  | x :: xs, b, s, hv, h, hb => by
    rw [List.length_cons, Nat.mul_add, Nat.mul_one] at hb
    obtain ⟨a, s1, e1, p1, k1⟩ := hv x (by simp) b s h (by omega)
    obtain ⟨l, s2, e2, l2, p2, k2⟩ := mapO_sp P c M xs (b + c) s1 (fun y hy => hv y (by simp [hy])) k1 (by omega)
    refine ⟨a :: l, s2, ?_, by simp [l2], fun z hz => ?_, ?_⟩
    · rw [mapO, e1, bind_ok, e2, bind_ok]
    · rcases List.mem_cons.mp hz with q | q
      · rw [q]; exact p1
      · exact p2 z q
    · rw [List.length_cons, Nat.mul_add, Nat.mul_one]
      have : b + c + c * xs.length = b + (c * xs.length + c) := by omega
      rw [← this]; exact k2
theorem joinL_nil : ∀ ts : List (List Nat), VS.joinL [] ts = ts.flatten
  | [] => rfl
  | [x] => by simp [VS.joinL]
  | x :: y :: r => by
    have := joinL_nil (y :: r)
    show x ++ [] ++ VS.joinL [] (y :: r) = _
    rw [this]; simp
theorem flat_ch (l : List Ch) : (l.map fun c => [c.c]).flatten = l.map (·.c) := by
  induction l with
  | nil => rfl
  | cons c l ih => rw [List.map_cons, List.flatten_cons, ih]; rfl
theorem sum_ch (l : List Ch) : ((l.map fun c => [c.c]).map List.length).sum = l.length := by
  induction l with
  | nil => rfl
  | cons c l ih => rw [List.map_cons, List.map_cons, List.sum_cons, ih]; simp; omega
theorem joinCh_ok {l : List Ch} (h : l.length ≤ 1000000) : joinCh [] l = some (l.map (·.c)) := by
  unfold joinCh joinS
  rw [if_pos (show small (((l.map fun c => [c.c]).map List.length).sum + (l.map fun c => [c.c]).length * ([] : List Nat).length) = true from decide_eq_true (by rw [sum_ch]; simpa using h)), joinL_nil, flat_ch]
theorem rgI_length (lo : Int) (n : Nat) : (rgI lo n).length = n := by unfold rgI; simp
/-- n drawn signs of a menu -/
theorem v_signs {b : Nat} {menu : List Nat} {s : Sp} {n : Nat} (h : SpOk b s) (hm : menu ≠ []) (hk : Ks menu) (hl : menu.length ≤ 1000000) (hn : n ≤ 1000) (hb : b + n < 2 ^ 40) :
    ∃ l s', mapO (fun (_ : Int) s => d_law_pick_ss menu s) (rgI 0 n) s = .ok l s' ∧ joinCh [] l = some (l.map (·.c)) ∧ Ks (l.map (·.c)) ∧ (l.map (·.c)).length = n ∧ SpOk (b + n) s' := by
  obtain ⟨l, s', e, hl', hp, k⟩ := mapO_sp (v := fun (_ : Int) s => d_law_pick_ss menu s) (fun c => isK c.c = true) 1 (2 ^ 40) (rgI 0 n) b s (fun x _ b s h hb => by
    obtain ⟨x, s', e, hx, k⟩ := v_pick_ss h hb hm hl
    exact ⟨x, s', e, hk _ hx, k⟩) h (by rw [rgI_length]; omega)
  rw [rgI_length] at hl' k
  rw [Nat.one_mul] at k
  refine ⟨l, s', e, joinCh_ok (by omega), fun c hc => ?_, by simp [hl'], k⟩
  obtain ⟨x, hx, rfl⟩ := List.mem_map.mp hc
  exact hp x hx
theorem menu_ok (l : List (List Nat)) (h : (l.all fun t => (!t.isEmpty) && (decide (t.length ≤ 1000) && t.all isK)) = true) {t : List Nat} (ht : t ∈ l) : t ≠ [] ∧ t.length ≤ 1000 ∧ Ks t := by
  have := List.all_eq_true.mp h t ht
  rw [Bool.and_eq_true, Bool.and_eq_true, decide_eq_true_iff, List.all_eq_true] at this
  exact ⟨by intro e; rw [e] at this; simp at this, this.2.1, this.2.2⟩
theorem v_t_row {b : Nat} {most : Nat} {s : Sp} (h : SpOk b s) (h2 : most ≤ 900) (hb : b + 2000 < 2 ^ 40) : ∃ t s', d_law_t_row most s = .ok t s' ∧ Ks t ∧ t.length ≤ most ∧ SpOk (b + most + 2) s' := by
  unfold d_law_t_row
  obtain ⟨menu, s1, e1, hm, k1⟩ := v_pick_sls (l := [([104, 72, 46, 65] : List Nat), ([104, 65] : List Nat), ([104, 104, 65] : List Nat), ([104, 72, 65] : List Nat), ([72, 65] : List Nat), ([104, 46, 65] : List Nat), ([104, 104, 104, 72, 46, 65] : List Nat), ([65, 46] : List Nat), ([104, 72] : List Nat), ([104, 65, 65] : List Nat), ([72, 72, 65, 65] : List Nat)]) h (by omega) (by simp) (by simp)
  obtain ⟨m1, m2, m3⟩ := menu_ok _ (by decide) hm
  obtain ⟨d, s2, e2, d0, d1, k2⟩ := v_draw (many := (most : Int) + 1) k1 (by omega) (by omega) (by omega)
  obtain ⟨n, rfl⟩ : ∃ n : Nat, d = n := ⟨d.toNat, by omega⟩
  obtain ⟨l, s3, e4, e5, e6, e7, k3⟩ := v_signs (n := n) k2 m1 m3 (by omega) (by omega) (by omega)
  simp only [e1, bind_ok, e2, rg1_ok (j := (n : Int)) (s := s2) (by omega) (by omega), Int.toNat_natCast, smL_ok (xs := rgI 0 n) (s := s2) (by rw [rgI_length]; omega), e4, e5, ofO_some]
  exact ⟨_, _, rfl, e6, by omega, k3.mono (by omega)⟩
theorem sidx_k {k : Nat} (h : isK k = true) : sidx [104, 72, 46, 65] ⟨k⟩ = some (rank k : Int) := by
  rcases isK_cases h with rfl | rfl | rfl | rfl <;> decide +kernel
def kd : List Nat := [104, 72, 46, 65]
theorem ixS_kd {j : Int} (h0 : 0 ≤ j) (h1 : j ≤ 3) : ∃ k, ixS [104, 72, 46, 65] j = some ⟨k⟩ ∧ isK k = true ∧ (rank k : Int) = j := by
  unfold ixS
  have : j = 0 ∨ j = 1 ∨ j = 2 ∨ j = 3 := by omega
  rcases this with rfl | rfl | rfl | rfl
  · exact ⟨104, rfl, rfl, rfl⟩
  · exact ⟨72, rfl, rfl, rfl⟩
  · exact ⟨46, rfl, rfl, rfl⟩
  · exact ⟨65, rfl, rfl, rfl⟩
theorem rank_le (k : Nat) : rank k ≤ 3 := by unfold rank; split <;> (try split) <;> (try split) <;> omega
theorem addS_ok {a b : List Nat} (h : a.length + b.length ≤ 1000000) : addS a b = some (a ++ b) := by
  unfold addS
  rw [if_pos (show small (a.length + b.length) = true from decide_eq_true h)]
theorem v_worse_loop : ∀ (t : List Nat) (b : Nat) (s : Sp) (f : List Nat), Ks t → SpOk b s → f.length + t.length ≤ 1000 → b + 2 * t.length + 10 < 2 ^ 40 →
    ∃ u s', foldO (fun i_125 (v_124 : (List Nat)) s_126 => (O.bind (ofO (sidx [104, 72, 46, 65] i_125) s_126) fun at_127 s_128 =>
    (O.bind (O.bind (O.bind (d_law_draw (((4 : Int) - at_127)) s_128) fun x_137 s_138 => .ok ((at_127 + x_137)) s_138) fun x_135 s_136 => ofO (ixS [104, 72, 46, 65] x_135) s_136) fun worsehere_129 s_130 =>
    (O.bind (O.bind (O.bind (O.bind (O.bind (d_law_draw ((3 : Int)) s_130) fun x_145 s_146 => .ok ((decide (x_145 = (0 : Int)))) s_146) fun b_143 s_144 => if b_143 = true then (.ok worsehere_129 s_144) else (.ok i_125 s_144)) fun x_141 s_142 => .ok ([x_141.c]) s_142) fun x_139 s_140 => ofO (addS v_124 x_139) s_140) fun found_131 s_132 =>
    (.ok found_131 s_132))))) (t.map Ch.mk) f s = .ok (f ++ u) s' ∧ nw t u ∧ Ks u ∧ SpOk (b + 2 * t.length) s'
  | [], b, s, f, _, h, _, _ => ⟨[], s, by rw [List.append_nil]; rfl, trivial, (fun _ q => by cases q), by simpa using h⟩
  | k :: t, b, s, f, hk, h, hl, hb => by
    simp only [List.length_cons] at hl hb
    have kk := hk k (by simp)
    have r3 := rank_le k
    obtain ⟨d, s1, e1, d0, d1, k1⟩ := v_draw (many := (4 : Int) - (rank k : Int)) h (by omega) (by omega) (by omega)
    obtain ⟨k', ek, kk', rk⟩ := ixS_kd (j := (rank k : Int) + d) (by omega) (by omega)
    obtain ⟨d2, s2, e2, d20, d21, k2⟩ := v_draw (many := 3) k1 (by omega) (by decide) (by decide)
    have ih := fun (z : Nat) (hz : isK z = true) (hr : rank k ≤ rank z) => v_worse_loop t (b + 1 + 1) s2 (f ++ [z]) (fun y hy => hk y (by simp [hy])) k2 (by simp; omega) (by omega)
    rw [List.map_cons, foldO]
    simp only [sidx_k kk, ofO_some, bind_ok, e1, ek, e2]
    have go : ∀ z : Nat, isK z = true → rank k ≤ rank z → ∃ u s', foldO (fun i_125 (v_124 : (List Nat)) s_126 => (O.bind (ofO (sidx [104, 72, 46, 65] i_125) s_126) fun at_127 s_128 =>
        (O.bind (O.bind (O.bind (d_law_draw (((4 : Int) - at_127)) s_128) fun x_137 s_138 => .ok ((at_127 + x_137)) s_138) fun x_135 s_136 => ofO (ixS [104, 72, 46, 65] x_135) s_136) fun worsehere_129 s_130 =>
        (O.bind (O.bind (O.bind (O.bind (O.bind (d_law_draw ((3 : Int)) s_130) fun x_145 s_146 => .ok ((decide (x_145 = (0 : Int)))) s_146) fun b_143 s_144 => if b_143 = true then (.ok worsehere_129 s_144) else (.ok i_125 s_144)) fun x_141 s_142 => .ok ([x_141.c]) s_142) fun x_139 s_140 => ofO (addS v_124 x_139) s_140) fun found_131 s_132 =>
        (.ok found_131 s_132))))) (t.map Ch.mk) (f ++ [z]) s2 = .ok (f ++ u) s' ∧ nw (k :: t) u ∧ Ks u ∧ SpOk (b + 2 * (t.length + 1)) s' := by
      intro z hz hr
      obtain ⟨u, s', g1, g2, g3, g4⟩ := ih z hz hr
      refine ⟨z :: u, s', by rw [g1]; simp, ⟨hr, g2⟩, fun y hy => ?_, g4.mono (by omega)⟩
      rcases List.mem_cons.mp hy with q | q
      · rw [q]; exact hz
      · exact g3 y q
    by_cases q : d2 = 0
    · simp only [decide_eq_true q, if_true, bind_ok, addS_ok (a := f) (b := [k']) (by simp; omega), ofO_some]
      exact go k' kk' (by omega)
    · simp only [decide_eq_false q, Bool.false_eq_true, if_false, bind_ok, addS_ok (a := f) (b := [k]) (by simp; omega), ofO_some]
      exact go k kk (Nat.le_refl _)
end LB

set_option Elab.async false
set_option linter.all false
set_option maxRecDepth 100000
set_option maxHeartbeats 4000000
set_option autoImplicit false
/-! B6: law k09. -/
namespace LB
open VS TL LM
open L2 (atI ixN)
theorem forO_nx {σ β S R : Type} {body : β → S → σ → O σ (Fl S R)} {v : S} {s : σ} : ∀ (xs : List β), (∀ x ∈ xs, body x v s = .ok (.nx v) s) → forO body xs v s = .ok (.nx v) s
  | [], _ => rfl
  | x :: xs, h => by
    rw [forO, h x (by simp), bind_ok]
    exact forO_nx xs fun y hy => h y (by simp [hy])
theorem forO_sp {β R : Type} {body : β → Unit → Sp → O Sp (Fl Unit R)} (c M : Nat) : ∀ (xs : List β) (b : Nat) (s : Sp), (∀ x ∈ xs, ∀ b s, SpOk b s → b < M → ∃ s', body x () s = .ok (.nx ()) s' ∧ SpOk (b + c) s') → SpOk b s → b + c * xs.length < M →
    ∃ s', forO body xs () s = .ok (.nx ()) s' ∧ SpOk (b + c * xs.length) s'
  | [], b, s, _, h, _ => ⟨s, rfl, by simpa using h⟩
  | x :: xs, b, s, hv, h, hb => by
    rw [List.length_cons, Nat.mul_add, Nat.mul_one] at hb
    obtain ⟨s1, e1, k1⟩ := hv x (by simp) b s h (by omega)
    obtain ⟨s2, e2, k2⟩ := forO_sp c M xs (b + c) s1 (fun y hy => hv y (by simp [hy])) k1 (by omega)
    refine ⟨s2, ?_, ?_⟩
    · rw [forO, e1, bind_ok]; exact e2
    · rw [List.length_cons, Nat.mul_add, Nat.mul_one]
      have : b + c + c * xs.length = b + (c * xs.length + c) := by omega
      rw [← this]; exact k2
/-! one piece -/
structure One (w : List Nat) (t : Int) : Prop where
  ne : w ≠ []
  len : w.length ≤ 1000
  ks : Ks w
  pos : 1 ≤ t
  top : t ≤ 1000000000000
theorem one_pow {w : List Nat} {t : Int} (h : One w t) : (pow w t.toNat).length < 2 ^ 60 ∧ (pow w t.toNat).length = t.toNat * w.length := by
  have h1 := h.len
  have h2 := h.top
  have e := pow_length w t.toNat
  have : t.toNat * w.length ≤ 1000000000000 * 1000 := Nat.mul_le_mul (by omega) h1
  omega
theorem den_one (w : List Nat) (t : Int) : den [(w, t)] = pow w t.toNat := by rw [den, den, List.append_nil]
theorem wf_one {w : List Nat} {t : Int} (h : One w t) : WF 1000 [(w, t)] :=
  ⟨fun p hp => by rw [List.mem_singleton] at hp; subst hp; exact ⟨h.ne, h.len, h.ks, h.pos⟩, by decide, by simp, by rw [den_one]; exact (one_pow h).1⟩
theorem sz_pos {w : List Nat} {t : Int} (h : One w t) : 0 < sz (w, t) := by
  have := List.length_pos_iff.mpr h.ne
  have := h.pos
  exact Int.mul_pos (by show (0 : Int) < (w.length : Int); omega) (by show (0 : Int) < t; omega)
theorem ix_mod {w : List Nat} (hw : w ≠ []) (hl : w.length ≤ 1000000) (hk : Ks w) {x : Int} (hx : 0 ≤ x) : ∃ k, ixS w ((0 + x) % (w.length : Int)) = some ⟨k⟩ ∧ w[x.toNat % w.length]? = some k ∧ isK k = true := by
  have hn := List.length_pos_iff.mpr hw
  obtain ⟨n, rfl⟩ : ∃ n : Nat, x = n := ⟨x.toNat, by omega⟩
  rw [Int.toNat_natCast]
  have e : ((0 : Int) + (n : Int)) % (w.length : Int) = ((n % w.length : Nat) : Int) := by rw [Int.zero_add]; rfl
  have hlt : n % w.length < w.length := Nat.mod_lt _ hn
  refine ⟨w[n % w.length], ?_, List.getElem?_eq_getElem hlt, hk _ (List.getElem_mem hlt)⟩
  unfold ixS
  rw [e, if_pos hl, atI_get (by omega) (by omega), Int.toNat_natCast, List.getElem?_eq_getElem hlt]
  rfl
theorem nw_get : ∀ {a b : List Nat} (i : Nat) {x y : Nat}, nw a b → a[i]? = some x → b[i]? = some y → rank x ≤ rank y
  | [], _, _, _, _, _, h, _ => by simp at h
  | _ :: _, [], _, _, _, h, _, _ => h.elim
  | p :: a, q :: b, 0, x, y, h, h1, h2 => by simp at h1 h2; subst h1 h2; exact h.1
  | p :: a, q :: b, i + 1, x, y, h, h1, h2 => nw_get i h.2 (by simpa using h1) (by simpa using h2)
theorem v_t_step (p : S2) (c : Ch) (hk : isK c.c = true) : d_law_t_step p c = .ok (stp p c.c) () := by
  obtain ⟨k⟩ := c
  obtain ⟨a, b⟩ := p
  unfold d_law_t_step
  rcases isK_cases hk with h | h | h | h <;> have h : k = _ := h <;> subst h
  · rw [stp_h]
    by_cases q : b = 0 ∧ 0 < a
    · simp [q]
    · have : ¬ (b = 0 ∧ (0 < a ∨ False)) := by simpa using q
      simp [q]
  · rw [stp_H]
    by_cases q : b = 0 <;> simp [q]
  · rw [stp_d]; simp
  · rw [stp_A]; simp
theorem v_step_fold {σ : Type} : ∀ (t : List Nat) (p : S2) (s : σ), Ks t → foldO (fun i_559 (v_558 : ((Int) × (Int))) s_560 => (O.bind ((d_law_t_step (v_558) (i_559)).up s_560) fun state_568 s_569 => (.ok state_568 s_569))) (t.map Ch.mk) p s = .ok (run p t) s
  | [], p, s, _ => rfl
  | k :: t, p, s, h => by
    rw [List.map_cons, foldO]
    simp only [v_t_step p ⟨k⟩ (h k (by simp)), up_ok, bind_ok]
    exact v_step_fold t (stp p k) s fun z hz => h z (by simp [hz])
theorem v_add1 {w : List Nat} {t : Int} (h : One w t) {u : List Nat} (hu : Ks u) (hl : u.length ≤ 1000) : ∃ ps, d_Row__add_Rows ⟨[(w, t)]⟩ u = .ok ⟨ps⟩ () ∧ WF 1000 ps ∧ ps.length ≤ 2 ∧ den ps = pow w t.toNat ++ u := by
  have hp := one_pow h
  have h1 := h.len
  have h2 := h.top
  have w1 := wf_one h
  have w2 := wf_psOf (m := 1000) hu hl (by decide)
  have hpl : (psOf u).length ≤ 1 := by unfold psOf; split <;> simp
  have hd : den ([(w, t)] ++ psOf u) = pow w t.toNat ++ u := by rw [den_app, den_one, den_psOf]
  have wf : WF 1000 ([(w, t)] ++ psOf u) := ⟨fun p hp => (List.mem_append.mp hp).elim (w1.ok p) (w2.ok p), by decide, by rw [List.length_append]; simp; omega, by
    rw [hd, List.length_append]
    have : t.toNat * w.length ≤ 1000000000000 * 1000 := Nat.mul_le_mul (by omega) h1
    omega⟩
  refine ⟨[(w, t)] ++ psOf u, ?_, wf, by rw [List.length_append]; simp; omega, hd⟩
  unfold d_Row__add_Rows d_row_of_s
  simp only [v_init hu, bind_ok]
  rw [addL_ok (by simp; omega)]
  simp only [ofO_some, bind_ok]
  rw [v_pieces (by rw [List.length_append]; simp; omega), bind_ok, keep_wf wf]
  rfl
theorem sortI_id {l : List Int} (h : l.Pairwise (· ≤ ·)) : sortI l = l := sorted_unique (sortI_perm l) (sortI_sorted l) h
theorem same_ints {a b : Int} : d_same (En.e [a, b]) (En.e [a, b]) = .ok true () := same_refl (by simp [En.e, okP, okPs, small])
end LB

set_option Elab.async false
set_option linter.all false
set_option maxRecDepth 100000
set_option maxHeartbeats 4000000
set_option autoImplicit false
/-! B8: rows of texts, put together in some way. -/
namespace LB
open VS TL LM
open L2 (atI ixN)
theorem Okp.mono {m n : Nat} {p : List Nat × Int} (h : Okp m p) (hmn : m ≤ n) : Okp n p := { h with len := Nat.le_trans h.len hmn }
theorem WF.mono {m n : Nat} {ps : Ps} (h : WF m ps) (hmn : m ≤ n) (hn : n ≤ 250000) : WF n ps := ⟨fun p hp => (h.ok p hp).mono hmn, hn, h.cnt, h.tot⟩
/-- a row of a text -/
structure RowOf (t : List Nat) (ps : Ps) : Prop where
  wf : WF 4000 ps
  cnt : ps.length ≤ 10
  den : den ps = t
theorem psOf_len (t : List Nat) : (psOf t).length ≤ 1 := by unfold psOf; split <;> simp
theorem rowOf_s {t : List Nat} (hk : Ks t) (hl : t.length ≤ 4000) : RowOf t (psOf t) := ⟨wf_psOf hk hl (by decide), Nat.le_trans (psOf_len t) (by decide), den_psOf t⟩
theorem rowOf_app {t u : List Nat} (hk : Ks t) (hu : Ks u) (hl : t.length + u.length ≤ 4000) : RowOf (t ++ u) (psOf t ++ psOf u) := by
  have h1 := rowOf_s hk (by omega)
  have h2 := rowOf_s hu (by omega)
  have hd : LB.den (psOf t ++ psOf u) = t ++ u := by rw [den_app, den_psOf, den_psOf]
  have := psOf_len t
  have := psOf_len u
  exact ⟨⟨fun p hp => (List.mem_append.mp hp).elim (h1.wf.ok p) (h2.wf.ok p), by decide, by rw [List.length_append]; omega, by rw [hd, List.length_append]; omega⟩, by rw [List.length_append]; omega, hd⟩
theorem v_addP {t u : List Nat} (hk : Ks t) (hu : Ks u) (hl : t.length + u.length ≤ 4000) : (O.bind (O.bind (ofO (addL (psOf t) (psOf u)) ()) fun x _ => d_Pieces__init x) fun x _ => d_Row__init_Pieces x) = .ok ⟨psOf t ++ psOf u⟩ () := by
  have := psOf_len t
  have := psOf_len u
  rw [addL_ok (by omega)]
  simp only [ofO_some, bind_ok]
  rw [v_pieces (by rw [List.length_append]; omega), bind_ok, keep_wf (rowOf_app hk hu hl).wf]
  rfl
theorem v_addRR {t u : List Nat} (hk : Ks t) (hu : Ks u) (hl : t.length + u.length ≤ 4000) : d_Row__add_RowRow ⟨psOf t⟩ ⟨psOf u⟩ = .ok ⟨psOf t ++ psOf u⟩ () := by
  unfold d_Row__add_RowRow d_row_of_Row
  simp only [bind_ok]
  exact v_addP hk hu hl
theorem v_addRs {t u : List Nat} (hk : Ks t) (hu : Ks u) (hl : t.length + u.length ≤ 4000) : d_Row__add_Rows ⟨psOf t⟩ u = .ok ⟨psOf t ++ psOf u⟩ () := by
  unfold d_Row__add_Rows d_row_of_s
  simp only [v_init hu, bind_ok]
  exact v_addP hk hu hl
theorem v_raddRs {t u : List Nat} (hk : Ks t) (hu : Ks u) (hl : t.length + u.length ≤ 4000) : d_Row__radd_Rows ⟨psOf u⟩ t = .ok ⟨psOf t ++ psOf u⟩ () := by
  unfold d_Row__radd_Rows d_row_of_s
  simp only [v_init hk, bind_ok]
  exact v_addP hk hu hl
theorem v_built {b : Nat} {t : List Nat} {s : Sp} (hk : Ks t) (hl : t.length ≤ 1000) (h : SpOk b s) (hb : b + 10 < 2 ^ 40) : ∃ ps s', d_law_r_built t s = .ok ⟨ps⟩ s' ∧ RowOf t ps ∧ SpOk (b + 2) s' := by
  obtain ⟨way, s1, e1, w0, w1, k1⟩ := v_draw (many := 5) h (by omega) (by decide) (by decide)
  obtain ⟨cut, s2, e2, c0, c1, k2⟩ := v_draw (many := (t.length : Int) + 1) k1 (by omega) (by omega) (by omega)
  obtain ⟨c, rfl⟩ := Int.eq_ofNat_of_zero_le c0
  have hc : c ≤ t.length := by omega
  have ht : Ks (t.take c) := hk.take c
  have hd : Ks (t.drop c) := hk.drop c
  have hs1 : slS none (some (c : Int)) t = some (t.take c) := by rw [slS_ok (by omega), cutL_to t hc]
  have hs2 : slS (some (c : Int)) none t = some (t.drop c) := by rw [slS_ok (by omega), cutL_from t hc]
  have hll : (t.take c).length + (t.drop c).length ≤ 4000 := by rw [List.length_take, List.length_drop]; omega
  have hr := rowOf_app ht hd hll
  rw [List.take_append_drop] at hr
  unfold d_law_r_built
  simp only [e1, bind_ok, lenS_ok (show t.length ≤ 1000000 by omega), ofO_some, e2]
  by_cases q0 : way = 0
  · subst q0
    refine ⟨psOf t, s2, ?_, rowOf_s hk (by omega), k2⟩
    simp only [decide_true, if_true, v_init hk, up_ok]
  by_cases q1 : way = 1
  · subst q1
    refine ⟨_, s2, ?_, hr, k2⟩
    simp only [hs1, hs2, ofO_some, bind_ok, v_init ht, v_init hd, up_ok, v_addRR ht hd hll]
    rfl
  by_cases q2 : way = 2
  · subst q2
    refine ⟨_, s2, ?_, hr, k2⟩
    simp only [hs1, hs2, ofO_some, bind_ok, v_init hd, up_ok, v_raddRs ht hd hll]
    rfl
  by_cases q3 : way = 3
  · subst q3
    refine ⟨_, s2, ?_, hr, k2⟩
    simp only [hs1, hs2, ofO_some, bind_ok, v_init ht, up_ok, v_addRs ht hd hll]
    rfl
  have e5 : mulS [(Ch.mk 104).c] (5 : Int) = some (pow [104] 5) := mulS_ok (w := [104]) (n := 5) (by decide) (by decide)
  have e6 : addS (pow [104] 5) t = some (pow [104] 5 ++ t) := addS_ok (by have : (pow [104] 5).length = 5 := rfl; omega)
  have e7 : addS (pow [104] 5 ++ t) [65, 46] = some (pow [104] 5 ++ t ++ [65, 46]) := addS_ok (by rw [List.length_append]; have : (pow [104] 5).length = 5 := rfl; have : ([65, 46] : List Nat).length = 2 := rfl; omega)
  have kk : Ks (pow [104] 5 ++ t ++ [65, 46]) := Ks.app (Ks.app (by intro z hz; revert z; decide) hk) (by intro z hz; revert z; decide)
  have hlen : (pow [104] 5 ++ t ++ [65, 46]).length = t.length + 7 := by simp [pow]
  have wf := wf_psOf (m := 2000) kk (by omega) (by decide)
  have hden := den_psOf (pow [104] 5 ++ t ++ [65, 46])
  obtain ⟨qs, a1, a2, a3, a4⟩ := v_part (by decide) wf (Nat.le_trans (psOf_len _) (by decide)) (F := 5) (L := 5 + t.length) (by omega) (by rw [hden]; omega)
  refine ⟨qs, s2, ?_, ⟨a2.mono (by decide) (by decide), Nat.le_trans a3 (by have := psOf_len (pow [104] 5 ++ t ++ [65, 46]); omega), ?_⟩, k2⟩
  · have hw : way = 4 := by omega
    subst hw
    simp only [e5, e6, e7, ofO_some, bind_ok, v_init kk, up_ok]
    have ea : (((5 : Nat) : Int) + 1) = 6 := rfl
    have eb : (((5 + t.length : Nat)) : Int) = 5 + (t.length : Int) := by omega
    rw [ea, eb] at a1
    rw [a1]
    rfl
  · rw [a4, hden]
    have : (pow [104] 5).length = 5 := rfl
    rw [List.append_assoc, List.take_append, List.drop_append]
    simp [this]
/-- a text, or its row -/
def Hand (t : List Nat) (e : Ei (List Nat) Row) : Prop := e = .a t ∨ ∃ ps, e = .b ⟨ps⟩ ∧ RowOf t ps
theorem v_handed {b : Nat} {t : List Nat} {s : Sp} (hk : Ks t) (hl : t.length ≤ 1000) (h : SpOk b s) (hb : b + 20 < 2 ^ 40) : ∃ e s', d_law_r_handed t s = .ok e s' ∧ Hand t e ∧ SpOk (b + 3) s' := by
  obtain ⟨x, s1, e1, _, _, k1⟩ := v_draw (many := 2) h (by omega) (by decide) (by decide)
  unfold d_law_r_handed
  simp only [e1, bind_ok]
  by_cases q : x = 0
  · rw [if_pos (by simpa using q)]
    exact ⟨_, s1, rfl, .inl rfl, k1.mono (by omega)⟩
  · rw [if_neg (by simpa using q)]
    obtain ⟨ps, s2, e2, r, k2⟩ := v_built hk hl k1 (by omega)
    rw [e2]
    exact ⟨_, s2, rfl, .inr ⟨ps, rfl, r⟩, k2.mono (by omega)⟩
end LB

set_option Elab.async false
set_option linter.all false
set_option maxRecDepth 100000
set_option maxHeartbeats 4000000
set_option autoImplicit false
/-! B9: what the law's own step tells of a slot; needed, sure. -/
namespace LB
open VS TL LM
open L2 (atI ixN)
def bodyB (slot : Int) (i : Int × Ch) (v : Int × Int) (_ : Unit) : P (Int × Int) :=
  (O.bind (if (decide ((i.1 + (1 : Int)) = slot)) = true then (let state := (v.1, v.1); (.ok state ())) else (.ok v ())) fun w _ => (O.bind (d_law_t_step w i.2) fun st _ => (.ok st ())))
theorem both_past {i : Nat} : ∀ (t : List Nat) (n : Nat) (p : S2), Ks t → i < n → foldO (bodyB ((i : Int) + 1)) (enI n (t.map Ch.mk)) p () = .ok (run p t) ()
  | [], _, _, _, _ => rfl
  | k :: t, n, p, h, hn => by
    rw [List.map_cons, enI, foldO]
    have e : bodyB ((i : Int) + 1) ((n : Int), Ch.mk k) p () = .ok (stp p k) () := by
      unfold bodyB
      rw [if_neg (by simp; omega), bind_ok, v_t_step p ⟨k⟩ (h k (by simp)), bind_ok]
    rw [e, bind_ok]
    exact both_past t (n + 1) (stp p k) (fun z hz => h z (by simp [hz])) (by omega)
theorem both_here {i : Nat} : ∀ (t : List Nat) (n j : Nat) (p : S2), Ks t → n + j = i →
    foldO (bodyB ((i : Int) + 1)) (enI n (t.map Ch.mk)) p () = .ok (if j < t.length then run ((run p (t.take j)).1, (run p (t.take j)).1) (t.drop j) else run p t) ()
  | [], _, _, _, _, _ => rfl
  | k :: t, n, 0, p, h, hn => by
    rw [List.map_cons, enI, foldO]
    have e : bodyB ((i : Int) + 1) ((n : Int), Ch.mk k) p () = .ok (stp (p.1, p.1) k) () := by
      unfold bodyB
      rw [if_pos (by simp; omega), bind_ok, v_t_step _ ⟨k⟩ (h k (by simp)), bind_ok]
    rw [e, bind_ok, both_past t (n + 1) _ (fun z hz => h z (by simp [hz])) (by omega), if_pos (by simp)]
    rfl
  | k :: t, n, j + 1, p, h, hn => by
    rw [List.map_cons, enI, foldO]
    have e : bodyB ((i : Int) + 1) ((n : Int), Ch.mk k) p () = .ok (stp p k) () := by
      unfold bodyB
      rw [if_neg (by simp; omega), bind_ok, v_t_step _ ⟨k⟩ (h k (by simp)), bind_ok]
    rw [e, bind_ok, both_here t (n + 1) j _ (fun z hz => h z (by simp [hz])) (by omega)]
    congr 1
    simp only [List.length_cons, Nat.add_lt_add_iff_right, List.take_succ_cons, List.drop_succ_cons]
    rfl
theorem v_t_both {t : List Nat} (hk : Ks t) (hl : t.length ≤ 1000000) {i : Nat} (hi : i ≤ t.length) : d_law_t_both t ((i : Int) + 1) = .ok (st0 t i) () := by
  have e := both_here (i := i) t 0 i (0, 0) hk (by omega)
  unfold d_law_t_both
  show O.bind (foldO (bodyB ((i : Int) + 1)) (enI 0 (t.map Ch.mk)) (0, 0) ()) _ = _
  rw [e]
  simp only [bind_ok, lenS_ok hl, ofO_some]
  by_cases q : i < t.length
  · rw [if_pos (by simp; omega), if_pos q]
    rfl
  · have : i = t.length := by omega
    subst this
    rw [if_neg (by simp; omega), if_neg (by omega)]
    unfold st0
    rw [List.drop_length, List.take_length]
    rfl
/-! needed -/
def nd (t : List Nat) (i : Nat) : Int := if 0 ≤ mar t i then rea t + 1 else 0
theorem v_needR {t : List Nat} {ps : Ps} (h : RowOf t ps) {i : Nat} (hi : i < t.length) : d_needed_Rowi ⟨ps⟩ ((i : Int) + 1) = .ok (nd t i) () := by
  have hd := h.den
  have b := v_both (by decide) h.wf (by have := h.cnt; omega) (i := i) (by rw [hd]; omega)
  unfold d_needed_Rowi d_row_of_Row d_check_slot_ii
  rw [hd, st0_eq] at b
  simp only [bind_ok, lenI_len h.wf, hd, is_int, Bool.not_true, Bool.false_eq_true, if_false, b]
  have t1 : decide ((1 : Int) ≤ (i : Int) + 1) = true := decide_eq_true (by omega)
  have t2 : decide ((i : Int) + 1 ≤ (t.length : Int)) = true := decide_eq_true (by omega)
  simp only [t1, t2, Bool.and_self, Bool.not_true, Bool.false_eq_true, if_false, bind_ok]
  unfold nd
  by_cases q : 0 ≤ mar t i <;> simp [q]
theorem v_needS {t : List Nat} (hk : Ks t) (hl : t.length ≤ 4000) {i : Nat} (hi : i < t.length) : d_needed_si t ((i : Int) + 1) = .ok (nd t i) () := by
  have e := v_needR (rowOf_s hk hl) hi
  unfold d_needed_Rowi d_row_of_Row at e
  unfold d_needed_si d_row_of_s
  rw [v_init hk]
  exact e
theorem v_need {t : List Nat} (hk : Ks t) (hl : t.length ≤ 4000) {i : Nat} (hi : i < t.length) {e : Ei (List Nat) Row} (h : Hand t e) : d_needed_osRowi e ((i : Int) + 1) = .ok (nd t i) () := by
  rcases h with rfl | ⟨ps, rfl, r⟩
  · exact v_needS hk hl hi
  · exact v_needR r hi
/-! sure -/
structure IsSure (t : List Nat) (g : Int) (l : Nat) : Prop where
  le : l ≤ t.length
  lo : ∀ i, i < l → mar t i < -g
  hi : ∀ i, l ≤ i → i < t.length → -g ≤ mar t i
theorem isSure_unique {t : List Nat} {g : Int} {l l' : Nat} (h : IsSure t g l) (h' : IsSure t g l') : l = l' := by
  rcases Nat.lt_trichotomy l l' with q | q | q
  · have a := h.hi l (Nat.le_refl _) (by have := h'.le; omega)
    have b := h'.lo l q
    omega
  · exact q
  · have a := h'.hi l' (Nat.le_refl _) (by have := h.le; omega)
    have b := h.lo l' q
    omega
theorem v_lastR {t : List Nat} {ps : Ps} (h : RowOf t ps) (g : Int) : ∃ l : Nat, d_last_below ⟨ps⟩ (-g) = .ok (l : Int) () ∧ IsSure t g l := by
  obtain ⟨l, e, a, b, c⟩ := v_last_below (by decide) h.wf (by have := h.cnt; omega) (-g)
  rw [h.den] at a b c
  exact ⟨l, e, a, b, c⟩
theorem v_sureR {t : List Nat} {ps : Ps} (h : RowOf t ps) {g : Int} (hg : 0 ≤ g) : ∃ l : Nat, d_sure_Rowi ⟨ps⟩ g = .ok (l : Int) () ∧ IsSure t g l := by
  obtain ⟨l, e, r⟩ := v_lastR h g
  refine ⟨l, ?_, r⟩
  unfold d_sure_Rowi d_row_of_Row
  simp only [bind_ok, is_int, Bool.not_true, Bool.false_eq_true, if_false]
  rw [if_neg (by simp; omega), e]
theorem v_sureS {t : List Nat} (hk : Ks t) (hl : t.length ≤ 4000) {g : Int} (hg : 0 ≤ g) : ∃ l : Nat, d_sure_si t g = .ok (l : Int) () ∧ IsSure t g l := by
  obtain ⟨l, e, r⟩ := v_lastR (rowOf_s hk hl) g
  refine ⟨l, ?_, r⟩
  unfold d_sure_si d_row_of_s
  rw [v_init hk]
  simp only [bind_ok, is_int, Bool.not_true, Bool.false_eq_true, if_false]
  rw [if_neg (by simp; omega), e]
theorem v_sure {t : List Nat} (hk : Ks t) (hl : t.length ≤ 4000) {g : Int} (hg : 0 ≤ g) {e : Ei (List Nat) Row} (h : Hand t e) : ∃ l : Nat, d_sure_osRowi e g = .ok (l : Int) () ∧ IsSure t g l := by
  rcases h with rfl | ⟨ps, rfl, r⟩
  · exact v_sureS hk hl hg
  · exact v_sureR r hg
theorem v_sureN {t : List Nat} (hk : Ks t) : d_sure_sn t () = .ok 0 () := by
  unfold d_sure_sn d_row_of_s
  rw [v_init hk]
  rfl
theorem v_firmS {t : List Nat} (hk : Ks t) (hl : t.length ≤ 4000) : ∃ l : Nat, d_firm_s t = .ok (l : Int) () ∧ IsSure t 0 l := by
  obtain ⟨l, e, r⟩ := v_lastR (rowOf_s hk hl) 0
  refine ⟨l, ?_, r⟩
  unfold d_firm_s d_row_of_s
  rw [v_init hk]
  exact e
theorem v_marginS {t : List Nat} (hk : Ks t) (hl : t.length ≤ 4000) {i : Nat} (hi : i ≤ t.length) : d_margin_si t ((i : Int) + 1) = .ok (mar t i) () := by
  have h := rowOf_s hk hl
  have b := v_both (by decide) h.wf (by have := h.cnt; omega) (i := i) (by rw [h.den]; omega)
  unfold d_margin_si d_row_of_s d_check_slot_ii
  rw [v_init hk]
  rw [h.den, st0_eq] at b
  have t1 : decide ((1 : Int) ≤ (i : Int) + 1) = true := decide_eq_true (by omega)
  have t2 : decide ((i : Int) + 1 ≤ (t.length : Int) + 1) = true := decide_eq_true (by omega)
  simp only [bind_ok, lenI_len h.wf, h.den, is_int, Bool.not_true, Bool.false_eq_true, if_false, t1, t2, Bool.and_self, b]
/-! further slots -/
theorem run_h : ∀ (k : Nat) (r m : Int), 0 ≤ m → m ≤ r → (k : Int) ≤ r → run (r, m) (pow [104] k) = (r - k, if m - k < 0 then 0 else m - k)
  | 0, r, m, h0, h1, _ => by
    show (r, m) = _
    rw [if_neg (by omega)]
    simp
  | k + 1, r, m, h0, h1, h2 => by
    show run (stp (r, m) 104) (pow [104] k) = _
    rw [stp_h]
    have e1 : (if (r, m).1 - 1 < 0 then 0 else (r, m).1 - 1) = r - 1 := if_neg (by show ¬ (r - 1 < 0); omega)
    rw [e1]
    by_cases q : m = 0
    · subst q
      have e2 : (if ((r, (0 : Int)) : S2).2 = 0 ∧ 0 < ((r, (0 : Int)) : S2).1 then ((r, (0 : Int)) : S2).2 else ((r, (0 : Int)) : S2).2 - 1) = 0 := if_pos ⟨rfl, by show 0 < r; omega⟩
      rw [e2, run_h k (r - 1) 0 (by omega) (by omega) (by omega)]
      refine Prod.ext (by show r - 1 - (k : Int) = r - ((k + 1 : Nat) : Int); omega) ?_
      show (if 0 - (k : Int) < 0 then 0 else 0 - (k : Int)) = (if 0 - ((k + 1 : Nat) : Int) < 0 then 0 else 0 - ((k + 1 : Nat) : Int))
      split <;> split <;> omega
    · have e2 : (if ((r, m) : S2).2 = 0 ∧ 0 < ((r, m) : S2).1 then ((r, m) : S2).2 else ((r, m) : S2).2 - 1) = m - 1 := if_neg (by show ¬ (m = 0 ∧ 0 < r); omega)
      rw [e2, run_h k (r - 1) (m - 1) (by omega) (by omega) (by omega)]
      refine Prod.ext (by show r - 1 - (k : Int) = r - ((k + 1 : Nat) : Int); omega) ?_
      show (if m - 1 - (k : Int) < 0 then 0 else m - 1 - (k : Int)) = (if m - ((k + 1 : Nat) : Int) < 0 then 0 else m - ((k + 1 : Nat) : Int))
      split <;> split <;> omega
theorem run_h_end {r m : Int} (h0 : 0 ≤ m) (h1 : m ≤ r) : (run (r, m) (pow [104] (r.toNat + 1))).2 < 0 := by
  have hr : 0 ≤ r := by omega
  rw [pow_add [104] 1 r.toNat, run_append, run_h r.toNat r m h0 h1 (by omega)]
  have e1 : (r - (r.toNat : Int)) = 0 := by omega
  rw [e1]
  have e2 : (if m - (r.toNat : Int) < 0 then 0 else m - (r.toNat : Int)) = 0 := by split <;> omega
  rw [e2]
  decide
theorem run_H : ∀ (k : Nat) (s : S2), 0 ≤ s.2 → 0 ≤ (run s (pow [72] k)).2
  | 0, s, h => h
  | k + 1, s, h => by
    show 0 ≤ (run (stp s 72) (pow [72] k)).2
    refine run_H k _ ?_
    rw [stp_H]
    show 0 ≤ (if s.2 = 0 then s.2 else s.2 - 1)
    split <;> omega
theorem run_A : ∀ (k : Nat) (s : S2), (run s (pow [65] k)).2 = s.2 + k
  | 0, s => by show s.2 = s.2 + ((0 : Nat) : Int); omega
  | k + 1, s => by
    show (run (stp s 65) (pow [65] k)).2 = _
    rw [stp_A, run_A k]
    show s.2 + 1 + (k : Int) = s.2 + ((k + 1 : Nat) : Int)
    omega
/-- the greatest number by which the A slots of a beginning exceed the true ones -/
def wgt (k : Nat) : Int := if k = 65 then 1 else if k = 46 then 0 else -1
def gnF (v : Int × Int) (k : Nat) : Int × Int := (v.1 + wgt k, if v.1 + wgt k > v.2 then v.1 + wgt k else v.2)
def gn (t : List Nat) : Int := (t.foldl gnF (0, 0)).2
theorem gnF_le : ∀ (t : List Nat) (v : Int × Int), v.2 ≤ (t.foldl gnF v).2
  | [], v => Int.le_refl _
  | k :: t, v => by
    refine Int.le_trans ?_ (gnF_le t (gnF v k))
    show v.2 ≤ (if v.1 + wgt k > v.2 then v.1 + wgt k else v.2)
    split <;> omega
theorem run_gain : ∀ (t : List Nat) (v : Int × Int) (s : S2), Ks t → s.2 + ((t.foldl gnF v).2 - v.1) < 0 → s.2 < 0 → (run s t).2 < 0
  | [], v, s, _, _, h => h
  | k :: t, v, s, hk, h, h0 => by
    show (run (stp s k) t).2 < 0
    have h : s.2 + ((t.foldl gnF (gnF v k)).2 - v.1) < 0 := h
    have hle := gnF_le t (gnF v k)
    have h1 : v.1 + wgt k ≤ (gnF v k).2 := by show v.1 + wgt k ≤ (if v.1 + wgt k > v.2 then v.1 + wgt k else v.2); split <;> omega
    have e : (stp s k).2 = s.2 + wgt k := by
      rcases isK_cases (hk k (by simp)) with q | q | q | q <;> subst q
      · rw [stp_h]; show (if s.2 = 0 ∧ 0 < s.1 then s.2 else s.2 - 1) = s.2 + -1; rw [if_neg (by omega)]; omega
      · rw [stp_H]; show (if s.2 = 0 then s.2 else s.2 - 1) = s.2 + -1; rw [if_neg (by omega)]; omega
      · rw [stp_d]; show s.2 = s.2 + 0; omega
      · rw [stp_A]; rfl
    have e1 : (gnF v k).1 = v.1 + wgt k := rfl
    exact run_gain t (gnF v k) (stp s k) (fun z hz => hk z (by simp [hz])) (by rw [e, e1]; omega) (by rw [e]; omega)
end LB

set_option Elab.async false
set_option linter.all false
set_option maxRecDepth 100000
set_option maxHeartbeats 4000000
set_option autoImplicit false
/-! C07: law k07 answers true. -/
namespace LB
open VS TL LM
open L2 (atI ixN)
theorem any_false {l : List Bool} (h : ∀ b ∈ l, b = false) : l.any id = false := by
  rw [List.any_eq_false]
  intro b hb
  rw [h b hb]
  exact Bool.false_ne_true
theorem rgI_succ (n : Nat) : rgI 0 (n + 1) = rgI 0 n ++ [(n : Int)] := by
  unfold rgI
  rw [List.range_succ, List.map_append]
  simp
theorem mem_rgI {lo : Int} {n : Nat} {x : Int} (h : x ∈ rgI lo n) : ∃ k : Nat, k < n ∧ x = lo + k := by
  unfold rgI at h
  obtain ⟨k, hk, rfl⟩ := List.mem_map.mp h
  exact ⟨k, List.mem_range.mp hk, rfl⟩
theorem cutL_init {α : Type} (xs : List α) (x : α) : cutL (xs ++ [x]) none (some (-(1 : Int))) = xs := by
  unfold cutL HT.sIx
  simp
  rw [show (-1 + ((xs.length : Int) + 1)).toNat = xs.length by omega]
  simp
def okWs (o : P (List (List Nat))) : Bool := match o with
  | .ok l _ => decide (l.length ≤ 1000) && l.all fun w => decide (w.length ≤ 4) && w.all isK
  | _ => false
theorem v_words : okWs (d_law_r_words 4) = true := by decide +kernel
theorem words_ok : ∃ l, d_law_r_words (4 : Int) = .ok l () ∧ l.length ≤ 1000 ∧ ∀ w ∈ l, w.length ≤ 4 ∧ Ks w := by
  have h := v_words
  unfold okWs at h
  cases e : d_law_r_words 4 with
  | no => rw [e] at h; cases h
  | ex c fs s => rw [e] at h; cases h
  | ok l s =>
    rw [e] at h
    simp only [Bool.and_eq_true, decide_eq_true_eq, List.all_eq_true] at h
    exact ⟨l, rfl, h.1, fun w hw => h.2 w hw⟩
theorem v_gain_loop : ∀ (t : List Nat) (v : Int × Int), Ks t → foldO (fun i_38 (v_37 : (Int) × (Int)) (_ : Unit) => (O.bind (O.bind (O.bind (dispO [((Ch.mk 65), (1 : Int)), ((Ch.mk 46), (0 : Int))] ()) fun x_47 _ => .ok ((lookD x_47.l i_38).getD (-(1 : Int))) ()) fun x_46 _ => .ok ((v_37.1 + x_46)) ()) fun here_40 _ =>
    (let found_42 := (if here_40 > v_37.2 then here_40 else v_37.2); (.ok (here_40, found_42) ())))) (t.map Ch.mk) v () = .ok (t.foldl gnF v) ()
  | [], v, _ => rfl
  | k :: t, v, h => by
    rw [List.map_cons, foldO]
    have e : (O.bind (dispO [((Ch.mk 65), (1 : Int)), ((Ch.mk 46), (0 : Int))] ()) fun x_47 (_ : Unit) => (.ok ((lookD x_47.l (Ch.mk k)).getD (-(1 : Int))) () : P Int)) = .ok (wgt k) () := by
      rcases isK_cases (h k (by simp)) with q | q | q | q <;> subst q <;> rfl
    rw [e]
    simp only [bind_ok]
    exact v_gain_loop t (gnF v k) fun z hz => h z (by simp [hz])
theorem v_gain {t : List Nat} (h : Ks t) : d_law_gain t = .ok (gn t) () := by
  unfold d_law_gain
  show O.bind (foldO _ (t.map Ch.mk) (0, 0) ()) _ = _
  rw [v_gain_loop t (0, 0) h]
  rfl
/-- the margin behind further slots -/
theorem v_more {σ : Type} {t u : List Nat} (ht : Ks t) (hu : Ks u) (hl : t.length + u.length ≤ 1000) {j : Nat} (hj : j ≤ t.length) (s : σ) :
    (O.bind (O.bind (ofO (addS t u) s) fun x s1 => (d_law_t_both x ((j : Int) + 1)).up s1) fun x s1 => .ok x.2 s1) = .ok (mar (t ++ u) j) s := by
  rw [addS_ok (by omega), ofO_some, bind_ok, v_t_both (ht.app hu) (by rw [List.length_append]; omega) (by rw [List.length_append]; omega)]
  rfl
theorem ks1 {k : Nat} (h : isK k = true) (n : Nat) : Ks (pow [k] n) := Ks.pow (by intro z hz; simp at hz; subst hz; exact h) n
theorem len1 (k n : Nat) : (pow [k] n).length = n := by rw [pow_length]; simp
theorem rg2_ok {σ : Type} {i j : Int} {s : σ} (h : 0 ≤ i) (h' : i < 2 ^ 62 - 10) (h2 : 0 ≤ j) (h2' : j < 2 ^ 62 - 10) : rg2 i j s = .ok (rgI i (j - i).toNat) s := by
  unfold rg2
  have a : smI i = true := by unfold smI; rw [inRg_iff]; omega
  have b : smI j = true := by unfold smI; rw [inRg_iff]; omega
  rw [if_pos ⟨a, b⟩]
  rfl
theorem nd_le {t : List Nat} (hl : t.length ≤ 100) (j : Nat) : 0 ≤ nd t j ∧ nd t j ≤ 101 := by
  have := (st_bound (t := t)).2
  have := rea_nonneg t
  unfold nd
  split <;> omega
/-- the margins behind further slots of the kind h -/
theorem needed_math {t : List Nat} (hk : Ks t) {j : Nat} (hj : j < t.length) : mar (t ++ pow [104] (nd t j).toNat) j < 0 ∧ ∀ k : Nat, k < (nd t j).toNat → 0 ≤ mar (t ++ pow [104] k) j := by
  have hr := rea_nonneg t
  have hm := mar_le_rea hk j
  unfold nd
  by_cases q : 0 ≤ mar t j
  · rw [if_pos q]
    have e : (rea t + 1).toNat = (rea t).toNat + 1 := by omega
    rw [e]
    refine ⟨?_, fun k hk' => ?_⟩
    · rw [mar_app (by omega)]; exact run_h_end q hm
    · rw [mar_app (by omega), run_h k _ _ q hm (by omega)]
      show 0 ≤ (if mar t j - (k : Int) < 0 then 0 else mar t j - (k : Int))
      split <;> omega
  · rw [if_neg q]
    refine ⟨?_, fun k hk' => by simp at hk'⟩
    show mar (t ++ pow [104] 0) j < 0
    rw [show pow [104] 0 = [] from rfl, List.append_nil]
    omega
theorem H_math {t : List Nat} {j : Nat} (hj : j < t.length) (h : 0 < nd t j) (k : Nat) : 0 ≤ mar (t ++ pow [72] k) j := by
  rw [mar_app (by omega)]
  refine run_H k _ ?_
  show 0 ≤ mar t j
  unfold nd at h
  by_cases q : 0 ≤ mar t j
  · exact q
  · rw [if_neg q] at h; omega
theorem for_trueB {β : Type} {body : β → Unit → Sp → O Sp (Fl Unit Bool)} {xs : List β} {s : Sp} {b b' : Nat} (hb : b ≤ b') (h : ∃ s', forO body xs () s = .ok (.nx ()) s' ∧ SpOk b s') : ∃ s', O.bind (forO body xs () s) (flB (fun v s => .ok true s) (fun a => a)) = .ok true s' ∧ SpOk b' s' := by
  obtain ⟨s', e, k⟩ := h
  exact ⟨s', by rw [e]; rfl, k.mono hb⟩
theorem v_right {b : Nat} {t : List Nat} {s : Sp} (hk : Ks t) (hl : t.length ≤ 100) (h : SpOk b s) (hb : b + 1000 < 2 ^ 39) : ∃ s', d_law_needed_right t s = .ok true s' ∧ SpOk (b + 3 * t.length) s' := by
  unfold d_law_needed_right
  simp only [lenS_ok (show t.length ≤ 1000000 by omega), ofO_some, bind_ok, rg2_ok (i := 1) (j := (t.length : Int) + 1) (s := s) (by decide) (by decide) (by omega) (by omega)]
  rw [show ((t.length : Int) + 1 - 1).toNat = t.length by omega]
  refine for_trueB (by rw [rgI_length]; exact Nat.le_refl _) (forO_sp (R := Bool) 3 (2 ^ 39) (rgI 1 t.length) b s (fun x hx b s h hb => ?_) h (by rw [rgI_length]; omega))
  · obtain ⟨j, hj, rfl⟩ := mem_rgI hx
    rw [show (1 : Int) + (j : Int) = (j : Int) + 1 by omega]
    obtain ⟨e0, s1, e1, hh, k1⟩ := v_handed hk (by omega) h (by omega)
    refine ⟨s1, ?_, k1⟩
    have hn := nd_le hl j
    have hm := needed_math hk hj
    have hH := H_math hj
    simp only [e1, bind_ok, v_need hk (by omega) hj hh, up_ok]
    generalize nd t j = told at hn hm hH
    rw [if_neg (by simp; omega)]
    have m1 : mapO (fun (x : Int) s => O.bind (O.bind (O.bind (ofO (mulS [(Ch.mk 104).c] x) s) fun y s1 => ofO (addS t y) s1) fun y s1 => (d_law_t_both y ((j : Int) + 1)).up s1) fun y s1 => .ok y.2 s1) (rgI 0 (told + 1).toNat) s1 = .ok ((rgI 0 (told + 1).toNat).map fun x => mar (t ++ pow [104] x.toNat) j) s1 := mapO_ok _ _ s1 fun x hx s => by
      obtain ⟨k, hk', rfl⟩ := mem_rgI hx
      rw [Int.zero_add, Int.toNat_natCast, show mulS [(Ch.mk 104).c] (k : Int) = some (pow [104] k) from mulS_ok (w := [104]) (by omega) (by simp; omega), ofO_some, bind_ok]
      exact v_more hk (ks1 (by decide) k) (by rw [len1]; omega) (by omega) s
    have m2 : mapO (fun (x : Int) s => O.bind (O.bind (O.bind (O.bind (ofO (mulS [(Ch.mk 72).c] x) s) fun y s1 => ofO (addS t y) s1) fun y s1 => (d_law_t_both y ((j : Int) + 1)).up s1) fun y s1 => .ok y.2 s1) fun y s1 => .ok (decide (y < (0 : Int))) s1) (rgI 0 (6 : Int).toNat) s1 = .ok ((rgI 0 (6 : Int).toNat).map fun x => decide (mar (t ++ pow [72] x.toNat) j < 0)) s1 := mapO_ok _ _ s1 fun x hx s => by
      obtain ⟨k, hk', rfl⟩ := mem_rgI hx
      have hk6 : k < 6 := hk'
      rw [Int.zero_add, Int.toNat_natCast, show mulS [(Ch.mk 72).c] (k : Int) = some (pow [72] k) from mulS_ok (w := [72]) (by omega) (by simp; omega), ofO_some, bind_ok]
      rw [v_more hk (ks1 (by decide) k) (by rw [len1]; omega) (by omega) s]
      rfl
    simp only [rg1_ok (j := told + 1) (s := s1) (by omega) (by omega), bind_ok, smL_ok (xs := rgI 0 (told + 1).toNat) (s := s1) (by rw [rgI_length]; omega), m1]
    have et : (told + 1).toNat = told.toNat + 1 := by omega
    rw [et, rgI_succ, List.map_append, List.map_cons, List.map_nil, atI_last, cutL_init]
    have h1 : ¬ (0 ≤ mar (t ++ pow [104] ((told.toNat : Nat) : Int).toNat) j) := by rw [Int.toNat_natCast]; omega
    simp only [ofO_some, bind_ok, decide_eq_false h1, Bool.false_eq_true, if_false, smL_ok (xs := (rgI 0 told.toNat).map fun x => mar (t ++ pow [104] x.toNat) j) (s := s1) (by rw [List.length_map, rgI_length]; omega)]
    rw [any_false (l := ((rgI 0 told.toNat).map fun x => mar (t ++ pow [104] x.toNat) j).map fun x => decide (x < 0)) (fun b hb => by
      rw [List.map_map] at hb
      obtain ⟨x, hx, rfl⟩ := List.mem_map.mp hb
      obtain ⟨k, hk', rfl⟩ := mem_rgI hx
      have := hm.2 k hk'
      show decide (mar (t ++ pow [104] (0 + (k : Int)).toNat) j < 0) = false
      rw [Int.zero_add, Int.toNat_natCast]
      exact decide_eq_false (by omega))]
    simp only [Bool.false_eq_true, if_false]
    by_cases q : 0 < told
    · have hH := hH q
      simp only [decide_eq_true q, if_true, rg1_ok (j := 6) (s := s1) (by decide) (by decide), bind_ok, smL_ok (xs := rgI 0 (6 : Int).toNat) (s := s1) (by rw [rgI_length]; decide), m2]
      rw [any_false (l := (rgI 0 (6 : Int).toNat).map fun x => decide (mar (t ++ pow [72] x.toNat) j < 0)) (fun b hb => by
        obtain ⟨x, hx, rfl⟩ := List.mem_map.mp hb
        have := hH x.toNat
        exact decide_eq_false (by omega))]
      have e5 : mulS [(Ch.mk 72).c] (5 : Int) = some (pow [72] 5) := mulS_ok (w := [72]) (n := 5) (by decide) (by decide)
      simp only [Bool.false_eq_true, if_false, e5, ofO_some, bind_ok, addS_ok (a := t) (b := pow [72] 5) (by rw [len1]; omega)]
      rw [v_marginS (hk.app (ks1 (by decide) 5)) (by rw [List.length_append, len1]; omega) (by rw [List.length_append]; omega)]
      have := hH 5
      simp only [up_ok, bind_ok]
      rw [if_neg (by simp; omega)]
    · simp only [decide_eq_false q, Bool.false_eq_true, if_false, bind_ok]
theorem for_in {β R X : Type} {body : β → Unit → Sp → O Sp (Fl Unit R)} {xs : List β} {s : Sp} {b b' : Nat} {K : Unit → Sp → O Sp X} {f : R → X} {r : X} (h : ∃ s', forO body xs () s = .ok (.nx ()) s' ∧ SpOk b s') (k : ∀ s', SpOk b s' → ∃ s'', K () s' = .ok r s'' ∧ SpOk b' s'') :
    ∃ s'', O.bind (forO body xs () s) (flB K f) = .ok r s'' ∧ SpOk b' s'' := by
  obtain ⟨s', e, h'⟩ := h
  obtain ⟨s2, e2, h2⟩ := k s' h'
  exact ⟨s2, by rw [e]; exact e2, h2⟩
theorem same_int {a : Int} : d_same (En.e a) (En.e a) = .ok true () := same_refl (by simp [En.e, okP])
theorem need1 (k : Nat) (hk : isK k = true) : d_needed_si [k] 1 = .ok (nd [k] 0) () := v_needS (i := 0) (by intro z hz; simp at hz; subst hz; exact hk) (by simp) (by simp)
theorem law_true (s : Sp) (h : SpOk 0 s) : ∃ s', d_law s = .ok true s' := by
  obtain ⟨l, el, ll, lw⟩ := words_ok
  unfold d_law
  have mw : mapO (fun (x : List Nat) s => O.bind ((d_law_gain x).up s) fun y s1 => .ok (x, y) s1) l s = .ok (l.map fun w => (w, gn w)) s := mapO_ok _ _ s fun x hx s => by rw [v_gain (lw x hx).2]; rfl
  simp only [el, up_ok, bind_ok, smL_ok (xs := l) (s := s) (by omega), mw, rg1_ok (j := 3) (s := s) (by decide) (by decide)]
  suffices H : ∃ s', _ = O.ok true s' ∧ SpOk 1000 s' from let ⟨s', e, _⟩ := H; ⟨s', e⟩
  refine for_in (forO_sp (R := Bool) 100 (2 ^ 38) (rgI 0 (3 : Int).toNat) 0 s (fun x _ b s h hb => ?_) h (by rw [rgI_length]; decide)) fun s' h' => ?_
  · obtain ⟨t, s1, e1, hk, hl, k1⟩ := v_t_row (most := 10) h (by decide) (by omega)
    have e1 : d_law_t_row (10 : Int) s = .ok t s1 := e1
    obtain ⟨s2, e2, k2⟩ := v_right hk (by omega) k1 (by omega)
    simp only [e1, e2, bind_ok, Bool.not_true, Bool.false_eq_true, if_false, rg1_ok (j := 5) (s := s2) (by decide) (by decide)]
    have k2 : SpOk (b + 45) s2 := k2.mono (by omega)
    refine for_in (b := b + 45 + 15) (forO_sp (R := Bool) 3 (2 ^ 39) (rgI 0 (5 : Int).toNat) (b + 45) s2 (fun x hx b s h hb => ?_) k2 (by rw [rgI_length]; show b + 45 + 3 * 5 < _; omega)) fun s' h' => ?_
    · obtain ⟨g, hg, rfl⟩ := mem_rgI hx
      have hg : g < 5 := hg
      rw [Int.zero_add]
      obtain ⟨e0, s3, e3, hh, k3⟩ := v_handed hk (by omega) h (by omega)
      obtain ⟨m, em, hm⟩ := v_sure hk (by omega) (g := (g : Int)) (by omega) hh
      refine ⟨s3, ?_, k3⟩
      have hml := hm.le
      simp only [e3, bind_ok, em, up_ok, lenS_ok (show t.length ≤ 1000000 by omega), ofO_some, decide_eq_true (show (0 : Int) ≤ (m : Int) by omega), if_true, decide_eq_true (show (m : Int) ≤ (t.length : Int) by omega), Bool.not_true, Bool.false_eq_true, if_false,
        smL_ok (xs := l.map fun w => (w, gn w)) (s := s3) (by rw [List.length_map]; omega)]
      generalize hws : (((l.map fun w => (w, gn w)).filter fun x => decide (x.2 ≤ (g : Int))).map fun x => x.1) = ws
      have hw : ∀ w ∈ ws, w.length ≤ 4 ∧ Ks w ∧ gn w ≤ (g : Int) := fun w hw => by
        rw [← hws] at hw
        obtain ⟨p, hp, rfl⟩ := List.mem_map.mp hw
        obtain ⟨hp1, hp2⟩ := List.mem_filter.mp hp
        obtain ⟨u, hu, rfl⟩ := List.mem_map.mp hp1
        exact ⟨(lw u hu).1, (lw u hu).2, of_decide_eq_true hp2⟩
      have hwl : ws.length ≤ 1000 := by
        rw [← hws, List.length_map]
        refine Nat.le_trans (List.length_filter_le _ _) ?_
        rw [List.length_map]
        exact ll
      have c1 : (if (decide ((0 : Int) < (m : Int))) = true then (O.bind (O.bind (smL ws s3) fun l_693 s_694 => mapO (fun x_652 s_653 => (O.bind (O.bind (O.bind (ofO (addS t x_652) s_653) fun x_699 s_700 => (d_law_t_both (x_699) (m : Int)).up s_700) fun x_697 s_698 => .ok (x_697.2) s_698) fun x_695 s_696 => .ok ((decide ((0 : Int) ≤ x_695))) s_696)) l_693 s_694) fun x_691 s_692 => .ok (((x_691).any id)) s_692) else .ok false s3) = .ok false s3 := by
        by_cases q : 0 < m
        · obtain ⟨m, rfl⟩ : ∃ n, m = n + 1 := ⟨m - 1, by omega⟩
          have q' : decide ((0 : Int) < ((m + 1 : Nat) : Int)) = true := decide_eq_true (by omega)
          have mm : mapO (fun x_652 s_653 => (O.bind (O.bind (O.bind (ofO (addS t x_652) s_653) fun x_699 s_700 => (d_law_t_both (x_699) ((m + 1 : Nat) : Int)).up s_700) fun x_697 s_698 => .ok (x_697.2) s_698) fun x_695 s_696 => .ok ((decide ((0 : Int) ≤ x_695))) s_696)) ws s3 = .ok (ws.map fun _ => false) s3 := mapO_ok _ _ s3 fun w hw' s => by
            obtain ⟨w1, w2, w3⟩ := hw w hw'
            have e := v_more hk w2 (by omega) (j := m) (by omega) s
            rw [show ((m + 1 : Nat) : Int) = (m : Int) + 1 by omega, e]
            have hlo := hm.lo m (by omega)
            have : mar (t ++ w) m < 0 := by
              rw [mar_app (by omega)]
              refine run_gain w (0, 0) _ w2 ?_ (by show mar t m < 0; omega)
              show mar t m + (gn w - 0) < 0
              omega
            rw [bind_ok, decide_eq_false (by omega)]
          rw [if_pos q', smL_ok (by omega), bind_ok, mm, bind_ok, any_false (fun b hb => by
            obtain ⟨_, _, rfl⟩ := List.mem_map.mp hb
            rfl)]
        · rw [if_neg (by simp; omega)]
      rw [c1]
      simp only [bind_ok, Bool.false_eq_true, if_false]
      by_cases q : m < t.length
      · have eA : mulS [(Ch.mk 65).c] (g : Int) = some (pow [65] g) := mulS_ok (w := [65]) (by omega) (by simp; omega)
        have e := v_more hk (ks1 (k := 65) (by decide) g) (by rw [len1]; omega) (j := m) (by omega) s3
        simp only [decide_eq_true (show (m : Int) < (t.length : Int) by omega), if_true, eA, ofO_some, bind_ok]
        rw [e]
        have hhi := hm.hi m (Nat.le_refl _) q
        have : 0 ≤ mar (t ++ pow [65] g) m := by
          rw [mar_app (by omega), run_A]
          show 0 ≤ mar t m + (g : Int)
          omega
        simp only [bind_ok, decide_eq_false (show ¬ (mar (t ++ pow [65] g) m < 0) by omega), Bool.false_eq_true, if_false]
      · simp only [decide_eq_false (show ¬ ((m : Int) < (t.length : Int)) by omega), Bool.false_eq_true, if_false, bind_ok]
    · obtain ⟨m, em, hm⟩ := v_sureS hk (by omega) (g := 0) (Int.le_refl _)
      obtain ⟨m', em', hm'⟩ := v_firmS hk (show t.length ≤ 4000 by omega)
      cases isSure_unique hm hm'
      refine ⟨s', ?_, h'.mono (by omega)⟩
      simp only [v_sureN hk, up_ok, bind_ok, decide_true, Bool.not_true, Bool.false_eq_true, if_false, em, em', same_int]
  · refine ⟨s', ?_, h'.mono (by rw [rgI_length]; decide)⟩
    have n1 := need1 104 (by decide)
    have n2 := need1 65 (by decide)
    have n3 := need1 72 (by decide)
    have n4 := need1 46 (by decide)
    rw [show nd [104] 0 = 0 by decide] at n1
    rw [show nd [65] 0 = 2 by decide] at n2
    rw [show nd [72] 0 = 1 by decide] at n3
    rw [show nd [46] 0 = 1 by decide] at n4
    simp only [n1, n2, n3, n4, up_ok, bind_ok, decide_true, if_true]
end LB

set_option Elab.async false
set_option linter.all false
set_option maxRecDepth 100000
set_option maxHeartbeats 4000000
set_option autoImplicit false
namespace LBE
open LB
open PySem PySem.Spec PyProof.Rows L2 VS
def exL (K : PySem.W.Frag) : List Bool := [tabB K T, isiB K T, PySem.W.selfFirst K (He.ga K "Row"), binB K (He.ga K "Row") "add" "str", binRB K (He.ga K "Row") "add" "str"]
def exB (K : PySem.W.Frag) : Bool := (exL K).all id
theorem exB_at {K : PySem.W.Frag} (h : exB K = true) (i : Nat) {b : Bool} (e : (exL K)[i]? = some b) : b = true := List.all_eq_true.mp h b (List.mem_of_getElem? e)
def fa0 : List He.Fa := [.glo "_law_start", .glo "_law_r_words", .glo "_law_gain", .glo "_law_draw", .glo "_law_pick", .glo "_law_t_row", .glo "Row", .glo "Pieces", .glo "check_kinds", .glo "row_of", .glo "is_integer", .glo "check_slot", .glo "stepped", .glo "states_of", .glo "rounds_alike", .glo "powered", .glo "through", .glo "reach", .glo "cut_piece", .glo "both", .glo "needed", .glo "_law_r_built", .glo "_law_r_handed", .glo "_law_t_step", .glo "_law_t_both", .glo "margin", .glo "_law_needed_right", .glo "last_below", .glo "sure", .glo "_law_same"]
def fa1 : List He.Fa := [.glo "firm", .free "list", .free "range", .free "max", .free "int", .free "len", .free "isinstance", .free "str", .free "enumerate", .free "bool", .free "sum", .free "zip", .free "min", .free "any", .free "tuple", .free "all", .str "KINDS" "hH.A", .str "TRUE_KINDS" "hH", .meth "Row" "__len__", .meth "Row" "part", .meth "Row" "__add__", .meth "Row" "__radd__", .mkr "Row", .mkr "Pieces", .glo "law"]
def fa : List He.Fa := fa0 ++ fa1
def dd__law_start : He.DefD := ⟨("_law_start", none), "_law_start", "_law_start", defArgs s__law_start, defBody s__law_start, defScope s__law_start, [], []⟩
def dd__law_r_words : He.DefD := ⟨("_law_r_words", none), "_law_r_words", "_law_r_words", defArgs s__law_r_words, defBody s__law_r_words, defScope s__law_r_words, [], []⟩
def dd__law_gain : He.DefD := ⟨("_law_gain", none), "_law_gain", "_law_gain", defArgs s__law_gain, defBody s__law_gain, defScope s__law_gain, [], []⟩
def dd__law_draw : He.DefD := ⟨("_law_draw", none), "_law_draw", "_law_draw", defArgs s__law_draw, defBody s__law_draw, defScope s__law_draw, [], []⟩
def dd__law_pick : He.DefD := ⟨("_law_pick", none), "_law_pick", "_law_pick", defArgs s__law_pick, defBody s__law_pick, defScope s__law_pick, [], []⟩
def dd__law_t_row : He.DefD := ⟨("_law_t_row", none), "_law_t_row", "_law_t_row", defArgs s__law_t_row, defBody s__law_t_row, defScope s__law_t_row, [], []⟩
def dd_check_kinds : He.DefD := ⟨("check_kinds", none), "check_kinds", "check_kinds", defArgs s_check_kinds, defBody s_check_kinds, defScope s_check_kinds, [], []⟩
def dd_Row___init__ : He.DefD := ⟨("Row", some "__init__"), "__init__", "Row.__init__", defArgs s_Row___init__, defBody s_Row___init__, defScope s_Row___init__, [(.str "")], []⟩
def dd_row_of : He.DefD := ⟨("row_of", none), "row_of", "row_of", defArgs s_row_of, defBody s_row_of, defScope s_row_of, [], []⟩
def dd_is_integer : He.DefD := ⟨("is_integer", none), "is_integer", "is_integer", defArgs s_is_integer, defBody s_is_integer, defScope s_is_integer, [], []⟩
def dd_check_slot : He.DefD := ⟨("check_slot", none), "check_slot", "check_slot", defArgs s_check_slot, defBody s_check_slot, defScope s_check_slot, [], []⟩
def dd_Row___len__ : He.DefD := ⟨("Row", some "__len__"), "__len__", "Row.__len__", defArgs s_Row___len__, defBody s_Row___len__, defScope s_Row___len__, [], []⟩
def dd_stepped : He.DefD := ⟨("stepped", none), "stepped", "stepped", defArgs s_stepped, defBody s_stepped, defScope s_stepped, [], []⟩
def dd_states_of : He.DefD := ⟨("states_of", none), "states_of", "states_of", defArgs s_states_of, defBody s_states_of, defScope s_states_of, [], []⟩
def dd_rounds_alike : He.DefD := ⟨("rounds_alike", none), "rounds_alike", "rounds_alike", defArgs s_rounds_alike, defBody s_rounds_alike, defScope s_rounds_alike, [], []⟩
def dd_powered : He.DefD := ⟨("powered", none), "powered", "powered", defArgs s_powered, defBody s_powered, defScope s_powered, [], []⟩
def dd_through : He.DefD := ⟨("through", none), "through", "through", defArgs s_through, defBody s_through, defScope s_through, [], []⟩
def dd_reach : He.DefD := ⟨("reach", none), "reach", "reach", defArgs s_reach, defBody s_reach, defScope s_reach, [], []⟩
def dd_cut_piece : He.DefD := ⟨("cut_piece", none), "cut_piece", "cut_piece", defArgs s_cut_piece, defBody s_cut_piece, defScope s_cut_piece, [], []⟩
def dd_Pieces___init__ : He.DefD := ⟨("Pieces", some "__init__"), "__init__", "Pieces.__init__", defArgs s_Pieces___init__, defBody s_Pieces___init__, defScope s_Pieces___init__, [], []⟩
def dd_Row_part : He.DefD := ⟨("Row", some "part"), "part", "Row.part", defArgs s_Row_part, defBody s_Row_part, defScope s_Row_part, [], []⟩
def dd_both : He.DefD := ⟨("both", none), "both", "both", defArgs s_both, defBody s_both, defScope s_both, [], []⟩
def dd_needed : He.DefD := ⟨("needed", none), "needed", "needed", defArgs s_needed, defBody s_needed, defScope s_needed, [], []⟩
def dd_Row___add__ : He.DefD := ⟨("Row", some "__add__"), "__add__", "Row.__add__", defArgs s_Row___add__, defBody s_Row___add__, defScope s_Row___add__, [], []⟩
def dd_Row___radd__ : He.DefD := ⟨("Row", some "__radd__"), "__radd__", "Row.__radd__", defArgs s_Row___radd__, defBody s_Row___radd__, defScope s_Row___radd__, [], []⟩
def dd__law_r_built : He.DefD := ⟨("_law_r_built", none), "_law_r_built", "_law_r_built", defArgs s__law_r_built, defBody s__law_r_built, defScope s__law_r_built, [], []⟩
def dd__law_r_handed : He.DefD := ⟨("_law_r_handed", none), "_law_r_handed", "_law_r_handed", defArgs s__law_r_handed, defBody s__law_r_handed, defScope s__law_r_handed, [], []⟩
def dd__law_t_step : He.DefD := ⟨("_law_t_step", none), "_law_t_step", "_law_t_step", defArgs s__law_t_step, defBody s__law_t_step, defScope s__law_t_step, [], []⟩
def dd__law_t_both : He.DefD := ⟨("_law_t_both", none), "_law_t_both", "_law_t_both", defArgs s__law_t_both, defBody s__law_t_both, defScope s__law_t_both, [], []⟩
def dd_margin : He.DefD := ⟨("margin", none), "margin", "margin", defArgs s_margin, defBody s_margin, defScope s_margin, [], []⟩
def dd__law_needed_right : He.DefD := ⟨("_law_needed_right", none), "_law_needed_right", "_law_needed_right", defArgs s__law_needed_right, defBody s__law_needed_right, defScope s__law_needed_right, [], []⟩
def dd_last_below : He.DefD := ⟨("last_below", none), "last_below", "last_below", defArgs s_last_below, defBody s_last_below, defScope s_last_below, [], []⟩
def dd_sure : He.DefD := ⟨("sure", none), "sure", "sure", defArgs s_sure, defBody s_sure, defScope s_sure, [], []⟩
def dd__law_same : He.DefD := ⟨("_law_same", none), "_law_same", "_law_same", defArgs s__law_same, defBody s__law_same, defScope s__law_same, [], []⟩
def dd_firm : He.DefD := ⟨("firm", none), "firm", "firm", defArgs s_firm, defBody s_firm, defScope s_firm, [], []⟩
def dd_law : He.DefD := ⟨("law", none), "law", "law", defArgs s_law, defBody s_law, defScope s_law, [], []⟩
def fn0 : List He.DefD := [dd__law_start, dd__law_r_words, dd__law_gain, dd__law_draw, dd__law_pick, dd__law_t_row, dd_check_kinds, dd_Row___init__, dd_row_of, dd_is_integer, dd_check_slot, dd_Row___len__, dd_stepped, dd_states_of, dd_rounds_alike, dd_powered, dd_through, dd_reach, dd_cut_piece, dd_Pieces___init__, dd_Row_part, dd_both, dd_needed, dd_Row___add__, dd_Row___radd__, dd__law_r_built, dd__law_r_handed, dd__law_t_step, dd__law_t_both, dd_margin]
def fn1 : List He.DefD := [dd__law_needed_right, dd_last_below, dd_sure, dd__law_same, dd_firm, dd_law]
def fn : List He.DefD := fn0 ++ fn1
theorem facts {K : PySem.W.Frag} {h : Heap} {mg : Str → Option Value} (X : K.In h) (G : h.Ns mainGlobals mg) (c : SaysX exB fa fn K) : Facts K mg := by
  have x : ∀ (i : Nat) {b : Bool}, (exL K)[i]? = some b → b = true := fun i _ e => exB_at c.2 i e
  exact ⟨tabB_ok (by decide +kernel) (x 0 rfl),
    isiB_ok (x 1 rfl),
    x 2 rfl,
    binB_ok (x 3 rfl),
    binRB_ok (x 4 rfl),
    He.glo_ok X G (c.1.fact 0 rfl),
    He.glo_ok X G (c.1.fact 1 rfl),
    He.glo_ok X G (c.1.fact 2 rfl),
    He.glo_ok X G (c.1.fact 3 rfl),
    He.glo_ok X G (c.1.fact 4 rfl),
    He.glo_ok X G (c.1.fact 5 rfl),
    He.glo_ok X G (c.1.fact 6 rfl),
    He.glo_ok X G (c.1.fact 7 rfl),
    He.glo_ok X G (c.1.fact 8 rfl),
    He.glo_ok X G (c.1.fact 9 rfl),
    He.glo_ok X G (c.1.fact 10 rfl),
    He.glo_ok X G (c.1.fact 11 rfl),
    He.glo_ok X G (c.1.fact 12 rfl),
    He.glo_ok X G (c.1.fact 13 rfl),
    He.glo_ok X G (c.1.fact 14 rfl),
    He.glo_ok X G (c.1.fact 15 rfl),
    He.glo_ok X G (c.1.fact 16 rfl),
    He.glo_ok X G (c.1.fact 17 rfl),
    He.glo_ok X G (c.1.fact 18 rfl),
    He.glo_ok X G (c.1.fact 19 rfl),
    He.glo_ok X G (c.1.fact 20 rfl),
    He.glo_ok X G (c.1.fact 21 rfl),
    He.glo_ok X G (c.1.fact 22 rfl),
    He.glo_ok X G (c.1.fact 23 rfl),
    He.glo_ok X G (c.1.fact 24 rfl),
    He.glo_ok X G (c.1.fact 25 rfl),
    He.glo_ok X G (c.1.fact 26 rfl),
    He.glo_ok X G (c.1.fact 27 rfl),
    He.glo_ok X G (c.1.fact 28 rfl),
    He.glo_ok X G (c.1.fact 29 rfl),
    He.glo_ok X G (c.1.fact 30 rfl),
    He.free_ok X G (c.1.fact 31 rfl),
    He.free_ok X G (c.1.fact 32 rfl),
    He.free_ok X G (c.1.fact 33 rfl),
    He.free_ok X G (c.1.fact 34 rfl),
    He.free_ok X G (c.1.fact 35 rfl),
    He.free_ok X G (c.1.fact 36 rfl),
    He.free_ok X G (c.1.fact 37 rfl),
    He.free_ok X G (c.1.fact 38 rfl),
    He.free_ok X G (c.1.fact 39 rfl),
    He.free_ok X G (c.1.fact 40 rfl),
    He.free_ok X G (c.1.fact 41 rfl),
    He.free_ok X G (c.1.fact 42 rfl),
    He.free_ok X G (c.1.fact 43 rfl),
    He.free_ok X G (c.1.fact 44 rfl),
    He.free_ok X G (c.1.fact 45 rfl),
    He.str_ok X G (c.1.fact 46 rfl),
    He.str_ok X G (c.1.fact 47 rfl),
    He.meth_ok (c.1.fact 48 rfl),
    He.meth_ok (c.1.fact 49 rfl),
    He.meth_ok (c.1.fact 50 rfl),
    He.meth_ok (c.1.fact 51 rfl),
    He.mkr_ok (c.1.fact 52 rfl),
    He.mkr_ok (c.1.fact 53 rfl),
    c.1.def_ 0 (d := dd__law_start) rfl,
    c.1.def_ 1 (d := dd__law_r_words) rfl,
    c.1.def_ 2 (d := dd__law_gain) rfl,
    c.1.def_ 3 (d := dd__law_draw) rfl,
    c.1.def_ 4 (d := dd__law_pick) rfl,
    c.1.def_ 5 (d := dd__law_t_row) rfl,
    c.1.def_ 6 (d := dd_check_kinds) rfl,
    c.1.def_ 7 (d := dd_Row___init__) rfl,
    c.1.def_ 8 (d := dd_row_of) rfl,
    c.1.def_ 9 (d := dd_is_integer) rfl,
    c.1.def_ 10 (d := dd_check_slot) rfl,
    c.1.def_ 11 (d := dd_Row___len__) rfl,
    c.1.def_ 12 (d := dd_stepped) rfl,
    c.1.def_ 13 (d := dd_states_of) rfl,
    c.1.def_ 14 (d := dd_rounds_alike) rfl,
    c.1.def_ 15 (d := dd_powered) rfl,
    c.1.def_ 16 (d := dd_through) rfl,
    c.1.def_ 17 (d := dd_reach) rfl,
    c.1.def_ 18 (d := dd_cut_piece) rfl,
    c.1.def_ 19 (d := dd_Pieces___init__) rfl,
    c.1.def_ 20 (d := dd_Row_part) rfl,
    c.1.def_ 21 (d := dd_both) rfl,
    c.1.def_ 22 (d := dd_needed) rfl,
    c.1.def_ 23 (d := dd_Row___add__) rfl,
    c.1.def_ 24 (d := dd_Row___radd__) rfl,
    c.1.def_ 25 (d := dd__law_r_built) rfl,
    c.1.def_ 26 (d := dd__law_r_handed) rfl,
    c.1.def_ 27 (d := dd__law_t_step) rfl,
    c.1.def_ 28 (d := dd__law_t_both) rfl,
    c.1.def_ 29 (d := dd_margin) rfl,
    c.1.def_ 30 (d := dd__law_needed_right) rfl,
    c.1.def_ 31 (d := dd_last_below) rfl,
    c.1.def_ 32 (d := dd_sure) rfl,
    c.1.def_ 33 (d := dd__law_same) rfl,
    c.1.def_ 34 (d := dd_firm) rfl,
    c.1.def_ 35 (d := dd_law) rfl⟩
def lo0 : List Str := ["_wall", "__name__", "BoughError", "BadKind", "BadNumber", "BadSlot", "is_integer", "KINDS", "TRUE_KINDS", "LONGEST_WORD", "check_number", "check_kinds", "row_of", "cut_piece", "ends_of", "place_of", "chunks", "are_alike", "Pieces", "Row", "stepped", "states_of", "rounds_alike", "powered", "through", "reach", "check_slot", "both", "margin", "last_below"]
def lo1 : List Str := ["firm", "needed", "sure", "_law_r_built", "_law_r_handed", "_law_r_words", "_law_t_row", "_law_t_step", "_law_t_both", "_law_start", "_law_draw", "_law_pick", "_law_same", "_law_gain", "_law_needed_right"]
def loose : List Str := lo0 ++ lo1
abbrev R : PySem.W.OpenRow := PySem.W.OpenLaw.row PySem.Challenge.rw_longbough_k07_whole_needed_and_sure
abbrev hk : PySem.W.Hook := hookX 5 exB fa fn
def ob (s : PySem.W.SharedT) : He.AlD × Bool := obsX 5 exB fa fn (HandSHeadRun.getT s)
theorem ob_eq (s : PySem.W.SharedT) : ob s = hk.obs s.abs := obsX_eq (HandSHeadRun.getT_eq s)
theorem run (w : World) : HandSHeadRun.RunEq R (PySem.W.view R.prog [49]) hk ob 4000 loose w := by
  intro os
  kernel_rfl
theorem main (hm : ∀ ns : List Int, ns.length ≤ 63 → ∃ st, m_law [.f (.scr ns)] [] = .ok (.f (.bl true)) st) : PySem.Challenge.rw_longbough_k07_whole_needed_and_sure.Holds := by
  w_on; o_law
  refine HandSHeadRun.head_any (r := PySem.W.OpenLaw.row PySem.Challenge.rw_longbough_k07_whole_needed_and_sure) (q := PySem.W.view (PySem.W.OpenLaw.row PySem.Challenge.rw_longbough_k07_whole_needed_and_sure).prog [49]) (H := hk) (ob := ob) (M := 4000) (loose := loose) (d := HandSHeadRun.topDef (PySem.W.OpenLaw.row PySem.Challenge.rw_longbough_k07_whole_needed_and_sure).prog 49) (kwd := []) ob_eq
    (by kernel_rfl) (fun s => by kernel_rfl) run (by kernel_rfl) (by kernel_rfl) (by kernel_rfl) (by rfl) (by first | assumption | decide +kernel) (by decide +kernel) ⟨rfl, rfl, rfl, rfl, rfl, by decide +kernel⟩ ?hw ?hc
  case hw => w_witness2
  case hc =>
    refine L2.walk_ofE (l := PySem.Challenge.rw_longbough_k07_whole_needed_and_sure) (n := 63) (k := 10) (x := "_law_script") (CX := L2.CX0) rfl (by decide) (by kernel_rfl) ⟨rfl, by decide, by decide⟩ ?F (fun _ _ _ _ z => z)
    intro w mg fl h Y G hmg0
    obtain ⟨K, KX, c⟩ := Y
    have hmg : mg ("law" : PySem.Str) = some (.ref fl) := by
      have e : (HandSHeadRun.topDef (PySem.W.OpenLaw.row PySem.Challenge.rw_longbough_k07_whole_needed_and_sure).prog 49).name = ("law" : PySem.Str) := by kernel_rfl
      rw [← e]
      exact hmg0
    have D := facts KX G c
    have e := hmg.symm.trans (He.glo_ok KX G (c.1.fact 54 (f := .glo "law") rfl))
    cases e
    obtain ⟨fd, F⟩ := D.d_law
    have b := FunD.bindsA (ps := ["_law_script"]) F fun _ _ _ _ _ _ us hl => match us, hl with | [_], _ => rfl
    exact ⟨K, fd, spM K T m_law, KX, fun s v => b s [v] rfl, fun H a ns hl _ hS => sp_law hm hl hS, fun base _ _ => fo_law D F⟩
end LBE

theorem PySem.Challenge.cw_longbough_k07_whole_needed_and_sure_holds : PySem.Challenge.rw_longbough_k07_whole_needed_and_sure.Holds := by
  exact LBE.main fun ns _ => LB.r_law ns (LB.law_true _ (LB.spOk0 ns))
