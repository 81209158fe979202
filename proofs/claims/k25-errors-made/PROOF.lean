import PyProof.Rows.All
import Wide.All
import OpenK.AllK
import Wide.FinOn
import HandS.ForMost
import HandS.ForExc
import HandS.HeadHook2
import HandS.Lambda
import HandS.ExcInit
import HandS.ExcField
import KE.KExcIs
import HandS.Style
import HandS.NoneIn
import HandS.Wide
import HandS.Deep
import HandS.TupAny
import HandS.SortInts
import HandS.StrSplit
import HandS.Replace
import HandS.IsInst
import KE.KCallOwn
import KE.KOpsOwn
import HandS.SlotsOwn
import KE.GoesEnum
import KE.GoesZip
import KE.GoesMore
import HandS.Iter
import HandS.SetFor
import HandS.Strs
import HandS.Star
import HandS.Conv
import HandS.Head0
import HandS.Head1
import HandS.Head2
import HandS.HeadEnd
import HandS.HeadHook1
import KE.KStateDown
import PyProof.ListStr
import HandS.RaiseMore
import HandS.More
import KE.KAssignIn
import HandS.DictComp
import HandS.Nested
import HandS.TryMany
import KE.KExcSuper
import HandS.HeadWalk
import HandS.DictTup
import KE.KDictWalk
import KE.KDictDisplayH
import PyProof.AutoSeq1
import HandS.SortKw
import HandS.NamedTupSort
import KE.SortData
import KE.KSortKey
import HandS.Text
import HandS.Codes
import HandS.Dict
import HandS.TupMul
import HandS.DeepEq
import HandS.OwnEq
import HandS.Spec
import KE.KDictItemsList
import KE.KDictZip
import HandS.MapObj
import HandS.ListItems
import HandS.Small
import HandS.MakeKwOnly
import KE.KWithOwn
import PySem.Challenge.RW_longbough_k25_errors_made
set_option Elab.async false
set_option linter.all false
set_option maxRecDepth 100000
set_option maxHeartbeats 4000000
set_option autoImplicit false
/-! VA: plain data F, values W (data or a cell of the store), the store, how they stand in the abstract heap. -/
namespace VS
open PySem PySem.Spec PyProof.Rows L2

/-- plain data: a text is the list of its code points; scr: the script as it is handed in -/
inductive F where
  | non | bl (b : Bool) | int (i : Int) | str (s : List Nat)
  | tup (xs : List F) | lst (xs : List F) | dct (kvs : List (F × F)) | dlk (t : Bool) (kvs : List (List (Int ⊕ List Nat) × F)) | ktp (ks : List (Int ⊕ List Nat)) | obj (c : Nat) (fs : List (Nat × F)) | scr (ns : List Int) | exn (c : Nat) (fs : List (Nat × F))
inductive W where
  | f (x : F) | loc (n : Nat)
inductive Cell where
  | dead | lstF (xs : List F) | lstW (xs : List W) | dct (kvs : List (F × F)) | dti (kvs : List (List (Int ⊕ List Nat) × F)) | ins (c : Nat) (fs : List (Nat × W))
abbrev Store := List Cell
abbrev Env := List (Option W)
inductive Res (α : Type) where
  | ok (a : α) (st : Store) | exc (c : Nat) (fs : List (Nat × F)) (st : Store) | stuck
def Res.bind {α β : Type} (r : Res α) (k : α → Store → Res β) : Res β := match r with
  | .ok a st => k a st
  | .exc c fs st => .exc c fs st
  | .stuck => .stuck

structure ClsI where
  name : Str
  flds : List Nat
structure Tab where
  cls : List ClsI
  fld : List Str
  /-- the defs that make lambdas -/
  mks : List Str := []
  /-- exception classes: the numbers 500, 501, .. -/
  xcl : List Str := []
  /-- those that are values; their bases -/
  xvl : List Nat := []
  xbs : List Nat := []
def Tab.fn (T : Tab) (i : Nat) : Str := T.fld.getD i ⟨#[]⟩
def Tab.ca (T : Tab) (K : PySem.W.Frag) (c : Nat) : Addr := match T.cls[c]? with
  | some ci => He.ga K ci.name
  | none => match T.xcl[c - 500]? with
    | some x => He.ga K x
    | none => 0
def Tab.okf (T : Tab) (c i : Nat) : Bool := match T.cls[c]? with
  | some ci => ci.flds.contains i && decide (i < T.fld.length)
  | none => false
/-- a def's code object, and its table of code objects -/
def codeAd (K : PySem.W.Frag) (x : Str) : Addr := match K.lookup (He.ga K x) with
  | some ⟨_, _, .func fd, _⟩ => (match fd.code with
    | .ref c => c
    | _ => 0)
  | _ => 0
def tabAd (K : PySem.W.Frag) (x : Str) : Addr := match K.lookup (codeAd K x) with
  | some ⟨_, _, .fields vs, _⟩ => (match vs[11]?.getD Value.none with
    | .ref P => P
    | _ => 0)
  | _ => 0
def Tab.tbs (T : Tab) (K : PySem.W.Frag) : List (Addr × Str) := T.mks.map fun x => (tabAd K x, (x ++ ".<locals>.") ++ "<lambda>")
structure TabOk (K : PySem.W.Frag) (T : Tab) : Prop where
  nodup : T.fld.Nodup
  cls : ∀ c, (T.cls[c]?).isSome = true → Cls K (T.ca K c)
  noat : ∀ c i, T.okf c i = true → NoAttr K (T.ca K c) (T.fn i)

def S (l : List Nat) : Str := ⟨l.toArray⟩
/-- a key of a dict -/
def keyF : F → Option Key
  | .int i => some (.inl i)
  | .str s => some (.inr (S s))
  | _ => none

/-- keys of a locked dict -/
def fkK : Int ⊕ List Nat → Key
  | .inl i => .inl i
  | .inr s => .inr (S s)

mutual
inductive RepF (K : PySem.W.Frag) (T : Tab) (Z : Hp) : V → F → Prop
  | non : RepF K T Z .non .non
  | bl (b : Bool) : RepF K T Z (.bl b) (.bl b)
  | int (i : Int) : RepF K T Z (.int i) (.int i)
  | str (s : List Nat) : RepF K T Z (.str (S s)) (.str s)
  | tup {a : Addr} {vs : List V} {xs : List F} : SqT K Z a vs → RepFs K T Z vs xs → RepF K T Z (.ref a) (.tup xs)
  | lst {a : Addr} {vs : List V} {xs : List F} : Z a = some (.lst vs) → RepFs K T Z vs xs → RepF K T Z (.ref a) (.lst xs)
  | dct {a : Addr} {kvs : List (Key × V)} {kfs : List (F × F)} : Z a = some (.dK kvs) → RepFk K T Z kvs kfs → RepF K T Z (.ref a) (.dct kfs)
  | dlt {a : Addr} {o : Obj} {kvs : List (List Key × V)} {kfs : List (List (Int ⊕ List Nat) × F)} : Z a = some (.frz o (.dT kvs)) → RepFt K T Z kvs kfs → RepF K T Z (.ref a) (.dlk true kfs)
  | dlu {a : Addr} {o : Obj} {kvs : List (Key × V)} {kfs : List (List (Int ⊕ List Nat) × F)} : Z a = some (.frz o (.dK kvs)) → RepFu K T Z kvs kfs → RepF K T Z (.ref a) (.dlk false kfs)
  | ktp {a : Addr} (ks : List (Int ⊕ List Nat)) : Z a = some (.tup (ks.map fun k => kV (fkK k))) → RepF K T Z (.ref a) (.ktp ks)
  | obj {a dx : Addr} {fvs : List (Str × V)} {c : Nat} {fs : List (Nat × F)} : Z a = some (.ins (T.ca K c) dx fvs) → (T.cls[c]?).isSome = true → RepFd K T Z c fvs fs → RepF K T Z (.ref a) (.obj c fs)
  | scr {a : Addr} {ns : List Int} : SqL K Z a (ns.map V.int) → RepF K T Z (.ref a) (.scr ns)
  | exn0 {a : Addr} {c : Nat} : Z a = some (exo a (T.ca K c) none) → T.xvl.contains c = true → RepF K T Z (.ref a) (.exn c [])
  | exn1 {a dx : Addr} {c i : Nat} {v : V} {x : F} : Z a = some (exo a (T.ca K c) (some dx)) → Z dx = some (exd dx [(T.fn i, v)]) → T.xvl.contains c = true → RepF K T Z v x → RepF K T Z (.ref a) (.exn c [(i, x)])
inductive RepFs (K : PySem.W.Frag) (T : Tab) (Z : Hp) : List V → List F → Prop
  | nil : RepFs K T Z [] []
  | cons {v : V} {x : F} {vs : List V} {xs : List F} : RepF K T Z v x → RepFs K T Z vs xs → RepFs K T Z (v :: vs) (x :: xs)
inductive RepFk (K : PySem.W.Frag) (T : Tab) (Z : Hp) : List (Key × V) → List (F × F) → Prop
  | nil : RepFk K T Z [] []
  | cons {k : Key} {v : V} {y x : F} {vs : List (Key × V)} {xs : List (F × F)} : keyF y = some k → RepF K T Z v x → RepFk K T Z vs xs → RepFk K T Z ((k, v) :: vs) ((y, x) :: xs)
inductive RepFt (K : PySem.W.Frag) (T : Tab) (Z : Hp) : List (List Key × V) → List (List (Int ⊕ List Nat) × F) → Prop
  | nil : RepFt K T Z [] []
  | cons {k : List Key} {ns : List (Int ⊕ List Nat)} {v : V} {x : F} {vs : List (List Key × V)} {xs : List (List (Int ⊕ List Nat) × F)} : k = ns.map fkK → RepF K T Z v x → RepFt K T Z vs xs → RepFt K T Z ((k, v) :: vs) ((ns, x) :: xs)
inductive RepFu (K : PySem.W.Frag) (T : Tab) (Z : Hp) : List (Key × V) → List (List (Int ⊕ List Nat) × F) → Prop
  | nil : RepFu K T Z [] []
  | cons {k : Key} {n : Int ⊕ List Nat} {v : V} {x : F} {vs : List (Key × V)} {xs : List (List (Int ⊕ List Nat) × F)} : k = fkK n → RepF K T Z v x → RepFu K T Z vs xs → RepFu K T Z ((k, v) :: vs) (([n], x) :: xs)
inductive RepFd (K : PySem.W.Frag) (T : Tab) (Z : Hp) : Nat → List (Str × V) → List (Nat × F) → Prop
  | nil {c : Nat} : RepFd K T Z c [] []
  | cons {c i : Nat} {v : V} {x : F} {vs : List (Str × V)} {xs : List (Nat × F)} : T.okf c i = true → RepF K T Z v x → RepFd K T Z c vs xs → RepFd K T Z c ((T.fn i, v) :: vs) ((i, x) :: xs)
end

theorem same_sqt {K : PySem.W.Frag} {H H' : Hp} {a : Addr} {xs : List V} (e : Same H H') (h : SqT K H a xs) : SqT K H' a xs := by
  rcases h with (h | ⟨o, h⟩) | h
  · exact .inl (.inl (e _ _ h))
  · exact .inl (.inr ⟨o, e _ _ h⟩)
  · exact .inr h
mutual
theorem RepF.mono {K : PySem.W.Frag} {T : Tab} {Z Z' : Hp} (e : Same Z Z') : ∀ {v : V} {x : F}, RepF K T Z v x → RepF K T Z' v x
  | _, _, .non => .non
  | _, _, .bl b => .bl b
  | _, _, .int i => .int i
  | _, _, .str s => .str s
  | _, _, .tup h r => .tup (same_sqt e h) (RepFs.mono e r)
  | _, _, .lst h r => .lst (e _ _ h) (RepFs.mono e r)
  | _, _, .dct h r => .dct (e _ _ h) (RepFk.mono e r)
  | _, _, .ktp ks h => .ktp ks (e _ _ h)
  | _, _, .dlt h r => .dlt (e _ _ h) (RepFt.mono e r)
  | _, _, .dlu h r => .dlu (e _ _ h) (RepFu.mono e r)
  | _, _, .obj h c r => .obj (e _ _ h) c (RepFd.mono e r)
  | _, _, .scr h => .scr (e.seq h)
  | _, _, .exn0 h c => .exn0 (e _ _ h) c
  | _, _, .exn1 h h2 c r => .exn1 (e _ _ h) (e _ _ h2) c (RepF.mono e r)
theorem RepFs.mono {K : PySem.W.Frag} {T : Tab} {Z Z' : Hp} (e : Same Z Z') : ∀ {vs : List V} {xs : List F}, RepFs K T Z vs xs → RepFs K T Z' vs xs
  | _, _, .nil => .nil
  | _, _, .cons r t => .cons (RepF.mono e r) (RepFs.mono e t)
theorem RepFk.mono {K : PySem.W.Frag} {T : Tab} {Z Z' : Hp} (e : Same Z Z') : ∀ {vs : List (Key × V)} {xs : List (F × F)}, RepFk K T Z vs xs → RepFk K T Z' vs xs
  | _, _, .nil => .nil
  | _, _, .cons k r t => .cons k (RepF.mono e r) (RepFk.mono e t)
theorem RepFt.mono {K : PySem.W.Frag} {T : Tab} {Z Z' : Hp} (e : Same Z Z') : ∀ {vs : List (List Key × V)} {xs : List (List (Int ⊕ List Nat) × F)}, RepFt K T Z vs xs → RepFt K T Z' vs xs
  | _, _, .nil => .nil
  | _, _, .cons k r t => .cons k (RepF.mono e r) (RepFt.mono e t)
theorem RepFu.mono {K : PySem.W.Frag} {T : Tab} {Z Z' : Hp} (e : Same Z Z') : ∀ {vs : List (Key × V)} {xs : List (List (Int ⊕ List Nat) × F)}, RepFu K T Z vs xs → RepFu K T Z' vs xs
  | _, _, .nil => .nil
  | _, _, .cons k r t => .cons k (RepF.mono e r) (RepFu.mono e t)
theorem RepFd.mono {K : PySem.W.Frag} {T : Tab} {Z Z' : Hp} (e : Same Z Z') : ∀ {c : Nat} {vs : List (Str × V)} {xs : List (Nat × F)}, RepFd K T Z c vs xs → RepFd K T Z' c vs xs
  | _, _, _, .nil => .nil
  | _, _, _, .cons k r t => .cons k (RepF.mono e r) (RepFd.mono e t)
end

section
variable {K : PySem.W.Frag} {T : Tab} {Z Z' : Hp}
theorem RepFs.length : ∀ {vs : List V} {xs : List F}, RepFs K T Z vs xs → vs.length = xs.length
  | _, _, .nil => rfl
  | _, _, .cons _ t => by rw [List.length_cons, List.length_cons, RepFs.length t]
theorem RepFs.append : ∀ {vs ws : List V} {xs ys : List F}, RepFs K T Z vs xs → RepFs K T Z ws ys → RepFs K T Z (vs ++ ws) (xs ++ ys)
  | _, _, _, _, .nil, s => s
  | _, _, _, _, .cons r t, s => .cons r (RepFs.append t s)
theorem RepFs.get : ∀ {vs : List V} {xs : List F} {i : Nat} {x : F}, RepFs K T Z vs xs → xs[i]? = some x → ∃ v, vs[i]? = some v ∧ RepF K T Z v x
  | _, _, _, _, .nil, h => by simp at h
  | _, _, 0, _, .cons r _, h => by simp at h; subst h; exact ⟨_, rfl, r⟩
  | _, _, i + 1, x, .cons _ t, h => by
    obtain ⟨v, e, r⟩ := RepFs.get (i := i) (x := x) t (by simpa using h)
    exact ⟨v, by simpa using e, r⟩
theorem RepFs.take : ∀ {vs : List V} {xs : List F} (n : Nat), RepFs K T Z vs xs → RepFs K T Z (vs.take n) (xs.take n)
  | _, _, 0, _ => .nil
  | _, _, _ + 1, .nil => .nil
  | _, _, n + 1, .cons r t => .cons r (RepFs.take n t)
theorem RepFs.drop : ∀ {vs : List V} {xs : List F} (n : Nat), RepFs K T Z vs xs → RepFs K T Z (vs.drop n) (xs.drop n)
  | _, _, 0, r => r
  | _, _, _ + 1, .nil => .nil
  | _, _, n + 1, .cons _ t => RepFs.drop n t
theorem RepFs.set {v : V} {x : F} (r : RepF K T Z v x) : ∀ {vs : List V} {xs : List F} (n : Nat), RepFs K T Z vs xs → RepFs K T Z (vs.set n v) (xs.set n x)
  | _, _, _, .nil => .nil
  | _, _, 0, .cons _ t => .cons r t
  | _, _, n + 1, .cons q t => .cons q (RepFs.set r n t)
theorem RepFs.rep : ∀ {vs : List V} {xs : List F} (n : Nat), RepFs K T Z vs xs → RepFs K T Z (List.replicate n vs).flatten (List.replicate n xs).flatten
  | _, _, 0, _ => .nil
  | _, _, n + 1, r => by
    rw [List.replicate_succ, List.replicate_succ, List.flatten_cons, List.flatten_cons]
    exact r.append (RepFs.rep n r)
theorem RepFs.ints : ∀ {vs : List V} {ns : List Int}, RepFs K T Z vs (ns.map F.int) → vs = ns.map V.int
  | _, [], .nil => rfl
  | _, n :: ns, .cons r t => by
    cases r
    rw [RepFs.ints t]
    rfl
theorem RepFs.ofInts : ∀ (ns : List Int), RepFs K T Z (ns.map V.int) (ns.map F.int)
  | [] => .nil
  | n :: ns => .cons (.int n) (RepFs.ofInts ns)
theorem RepFs.bls : ∀ {vs : List V} {ns : List Bool}, RepFs K T Z vs (ns.map F.bl) → vs = ns.map V.bl
  | _, [], .nil => rfl
  | _, n :: ns, .cons r t => by
    cases r
    rw [RepFs.bls t]
    rfl
end

/-! ### values, cells, the store -/
inductive RepW (K : PySem.W.Frag) (T : Tab) (Z : Hp) (ι : List Addr) : V → W → Prop
  | f {v : V} {x : F} : RepF K T Z v x → RepW K T Z ι v (.f x)
  | loc {a : Addr} {n : Nat} : ι[n]? = some a → RepW K T Z ι (.ref a) (.loc n)
inductive RepWs (K : PySem.W.Frag) (T : Tab) (Z : Hp) (ι : List Addr) : List V → List W → Prop
  | nil : RepWs K T Z ι [] []
  | cons {v : V} {x : W} {vs : List V} {xs : List W} : RepW K T Z ι v x → RepWs K T Z ι vs xs → RepWs K T Z ι (v :: vs) (x :: xs)
inductive RepWd (K : PySem.W.Frag) (T : Tab) (Z : Hp) (ι : List Addr) : Nat → List (Str × V) → List (Nat × W) → Prop
  | nil {c : Nat} : RepWd K T Z ι c [] []
  | cons {c i : Nat} {v : V} {x : W} {vs : List (Str × V)} {xs : List (Nat × W)} : T.okf c i = true → RepW K T Z ι v x → RepWd K T Z ι c vs xs → RepWd K T Z ι c ((T.fn i, v) :: vs) ((i, x) :: xs)
/-- what a cell says of the object at a -/
def CellOk (K : PySem.W.Frag) (T : Tab) (Z : Hp) (ι : List Addr) (H : Hp) (a : Addr) : Cell → Prop
  | .dead => True
  | .lstF xs => Z a = none ∧ ∃ vs, H a = some (.lst vs) ∧ RepFs K T Z vs xs
  | .lstW xs => Z a = none ∧ ∃ vs, H a = some (.lst vs) ∧ RepWs K T Z ι vs xs
  | .dct kvs => Z a = none ∧ ∃ kvv, H a = some (.dK kvv) ∧ RepFk K T Z kvv kvs
  | .dti kvs => Z a = none ∧ ∃ kvv, H a = some (.dT kvv) ∧ RepFt K T Z kvv kvs
  | .ins c fs => Z a = none ∧ ∃ dx fvs, H a = some (.ins (T.ca K c) dx fvs) ∧ (T.cls[c]?).isSome = true ∧ RepWd K T Z ι c fvs fs
/-- no table of code objects, no code object -/
def Hard (o : HO) : Prop := (∀ ps, o ≠ .tbl ps) ∧ ∀ f, o ≠ .ext f
/-- the tables of code objects -/
structure TabI (K : PySem.W.Frag) (T : Tab) (Z : Hp) (ι : List Addr) (H : Hp) : Prop where
  zt : ∀ b ps, Z b ≠ some (.tbl ps)
  ct : ∀ a ∈ ι, ∀ o, H a = some o → Hard o
  tb : ∀ p ∈ T.tbs K, Z p.1 = none ∧ LamX.TabS H p.1 p.2
theorem TabI.step {K : PySem.W.Frag} {T : Tab} {Z Z' H H' : Hp} {ι ι' : List Addr} (t : TabI K T Z ι H) (hz : ∀ b ps, Z' b = some (.tbl ps) → Z b = some (.tbl ps)) (hc : ∀ a ∈ ι', ∀ o, H' a = some o → Hard o)
    (hh : ∀ b u, H b = some u → b ∉ ι → H' b = some u) (hn : ∀ b u, H b = some u → b ∉ ι → Z b = none → Z' b = none) : TabI K T Z' ι' H' := by
  refine ⟨fun b ps e => t.zt b ps (hz b ps e), hc, fun p hp => ?_⟩
  obtain ⟨h1, ps, h2, h3, h4⟩ := t.tb p hp
  have nP : p.1 ∉ ι := fun hm => (t.ct _ hm _ h2).1 ps rfl
  refine ⟨hn _ _ h2 nP h1, ps, hh _ _ h2 nP, h3, fun pos cv e => ?_⟩
  obtain ⟨c, e1, e2⟩ := h4 pos cv e
  exact ⟨c, e1, hh _ _ e2 fun hm => (t.ct _ hm _ e2).2 _ rfl⟩
/-- the same objects, other data -/
theorem TabI.sub {K : PySem.W.Frag} {T : Tab} {Z H : Hp} {ι ι' : List Addr} (t : TabI K T Z ι H) (h : ∀ a ∈ ι', a ∈ ι) : TabI K T Z ι' H := ⟨t.zt, fun a ha => t.ct a (h a ha), t.tb⟩
structure SimS (K : PySem.W.Frag) (T : Tab) (Z : Hp) (ι : List Addr) (st : Store) (H : Hp) : Prop where
  sub : Same Z H
  len : ι.length = st.length
  nd : ι.Nodup
  cell : ∀ (n : Nat) (a : Addr) (c : Cell), ι[n]? = some a → st[n]? = some c → CellOk K T Z ι H a c
  /-- every cell's address is known to the heap -/
  there : ∀ a ∈ ι, ∃ o, H a = some o
  tab : TabI K T Z ι H
structure Le (Z : Hp) (ι : List Addr) (Z' : Hp) (ι' : List Addr) : Prop where
  z : Same Z Z'
  i : ∀ (n : Nat) (a : Addr), ι[n]? = some a → ι'[n]? = some a
structure EnvR (K : PySem.W.Frag) (T : Tab) (Z : Hp) (ι : List Addr) (σ : L2.St) (env : Env) : Prop where
  len : σ.length = env.length
  get : ∀ (i : Nat) (w : W), env[i]? = some (some w) → ∃ v, σ[i]? = some (some v) ∧ RepW K T Z ι v w

section
variable {K : PySem.W.Frag} {T : Tab} {Z Z' Z1 Z2 H H' : Hp} {ι ι' ι1 ι2 : List Addr} {st : Store} {σ : L2.St} {env : Env}
theorem Le.refl : Le Z ι Z ι := ⟨Same.refl Z, fun _ _ h => h⟩
theorem Le.trans (a : Le Z ι Z1 ι1) (b : Le Z1 ι1 Z2 ι2) : Le Z ι Z2 ι2 := ⟨a.z.trans b.z, fun n c h => b.i n c (a.i n c h)⟩
theorem RepW.mono (e : Le Z ι Z' ι') {v : V} {w : W} (r : RepW K T Z ι v w) : RepW K T Z' ι' v w := by
  cases r with
  | f r => exact .f (r.mono e.z)
  | loc h => exact .loc (e.i _ _ h)
theorem RepWs.mono (e : Le Z ι Z' ι') : ∀ {vs : List V} {ws : List W}, RepWs K T Z ι vs ws → RepWs K T Z' ι' vs ws
  | _, _, .nil => .nil
  | _, _, .cons r t => .cons (r.mono e) (RepWs.mono e t)
theorem RepWd.mono (e : Le Z ι Z' ι') : ∀ {c : Nat} {vs : List (Str × V)} {ws : List (Nat × W)}, RepWd K T Z ι c vs ws → RepWd K T Z' ι' c vs ws
  | _, _, _, .nil => .nil
  | _, _, _, .cons k r t => .cons k (r.mono e) (RepWd.mono e t)
theorem EnvR.mono (e : Le Z ι Z' ι') (r : EnvR K T Z ι σ env) : EnvR K T Z' ι' σ env :=
  ⟨r.len, fun i w h => let ⟨v, q, p⟩ := r.get i w h; ⟨v, q, p.mono e⟩⟩
theorem EnvR.set {v : V} {w : W} (r : EnvR K T Z ι σ env) (q : RepW K T Z ι v w) (i : Nat) : EnvR K T Z ι (σ.set i (some v)) (env.set i (some w)) := by
  refine ⟨by simp [r.len], fun j u h => ?_⟩
  by_cases hj : i = j
  · subst hj
    by_cases hl : i < env.length
    · rw [List.getElem?_set_self hl] at h
      cases h
      exact ⟨v, List.getElem?_set_self (by rw [r.len]; exact hl), q⟩
    · rw [List.getElem?_eq_none (by simp; omega)] at h
      cases h
  · rw [List.getElem?_set_ne hj] at h
    obtain ⟨v', e, p⟩ := r.get j u h
    exact ⟨v', by rw [List.getElem?_set_ne hj]; exact e, p⟩
theorem RepWs.length : ∀ {vs : List V} {xs : List W}, RepWs K T Z ι vs xs → vs.length = xs.length
  | _, _, .nil => rfl
  | _, _, .cons _ t => by rw [List.length_cons, List.length_cons, RepWs.length t]
theorem RepWs.get : ∀ {vs : List V} {xs : List W} {i : Nat} {x : W}, RepWs K T Z ι vs xs → xs[i]? = some x → ∃ v, vs[i]? = some v ∧ RepW K T Z ι v x
  | _, _, _, _, .nil, h => by simp at h
  | _, _, 0, _, .cons r _, h => by simp at h; subst h; exact ⟨_, rfl, r⟩
  | _, _, i + 1, x, .cons _ t, h => by
    obtain ⟨v, e, r⟩ := RepWs.get (i := i) (x := x) t (by simpa using h)
    exact ⟨v, by simpa using e, r⟩
theorem RepWs.append : ∀ {vs ws : List V} {xs ys : List W}, RepWs K T Z ι vs xs → RepWs K T Z ι ws ys → RepWs K T Z ι (vs ++ ws) (xs ++ ys)
  | _, _, _, _, .nil, s => s
  | _, _, _, _, .cons r t, s => .cons r (RepWs.append t s)
theorem RepWs.set {v : V} {x : W} (r : RepW K T Z ι v x) : ∀ {vs : List V} {xs : List W} (n : Nat), RepWs K T Z ι vs xs → RepWs K T Z ι (vs.set n v) (xs.set n x)
  | _, _, _, .nil => .nil
  | _, _, 0, .cons _ t => .cons r t
  | _, _, n + 1, .cons q t => .cons q (RepWs.set r n t)
theorem RepWs.ofFs : ∀ {vs : List V} {xs : List F}, RepFs K T Z vs xs → RepWs K T Z ι vs (xs.map W.f)
  | _, _, .nil => .nil
  | _, _, .cons r t => .cons (.f r) (RepWs.ofFs t)
/-- all data -/
def allF : List W → Option (List F)
  | [] => some []
  | .f x :: ws => (allF ws).map (x :: ·)
  | .loc _ :: _ => none
theorem RepWs.allF : ∀ {vs : List V} {ws : List W} {xs : List F}, RepWs K T Z ι vs ws → allF ws = some xs → RepFs K T Z vs xs
  | _, _, _, .nil, h => by cases h; exact .nil
  | _, _, _, .cons (.f r) t, h => by
    rename_i x _ ws
    have h : (VS.allF ws).map (x :: ·) = some _ := h
    cases q : VS.allF ws with
    | none => rw [q] at h; cases h
    | some ys =>
      rw [q] at h
      cases h
      exact .cons r (RepWs.allF t q)
  | _, _, _, .cons (.loc r) t, h => by cases h

/-- the heap has grown: new data stand where nothing stood -/
structure Grow (Z H Z' H' : Hp) : Prop where
  z : Same Z Z'
  h : Same H H'
  sub : Same Z' H'
  new : ∀ a o, H a = some o → Z' a = Z a
  nt : ∀ b ps, Z' b = some (.tbl ps) → Z b = some (.tbl ps)
theorem Grow.refl (s : Same Z H) : Grow Z H Z H := ⟨Same.refl Z, Same.refl H, s, fun _ _ _ => rfl, fun _ _ e => e⟩
theorem Grow.trans (a : Grow Z H Z1 Z2) (b : Grow Z1 Z2 Z' H') : Grow Z H Z' H' :=
  ⟨a.z.trans b.z, a.h.trans b.h, b.sub, fun c o h => (b.new c o (a.h c o h)).trans (a.new c o h), fun c ps e => a.nt c ps (b.nt c ps e)⟩
theorem same_upd {p : Addr} {o : HO} (s : Same Z H) : Same (upd Z p o) (upd H p o) := fun b u e => by
  by_cases h : b = p
  · subst h
    rw [upd_same] at e
    rw [upd_same]
    exact e
  · rw [upd_ne h] at e
    rw [upd_ne h]
    exact s b u e
theorem same_new {p : Addr} {o : HO} (h : H p = none) : Same H (upd H p o) := fun b u e => by
  rw [upd_ne (ne_of_none e h)]
  exact e
theorem free_sub (s : Same Z H) {p : Addr} (h : H p = none) : Z p = none := s.free h
theorem Grow.laid {p : Addr} {o : HO} (s : Same Z H) (h : H p = none) (ht : ∀ ps, o ≠ .tbl ps := by intro _ h; cases h) : Grow Z H (upd Z p o) (upd H p o) :=
  ⟨same_new (free_sub s h), same_new h, same_upd s, fun a u e => by rw [upd_ne (ne_of_none e h)], fun b ps e => by
    by_cases hb : b = p
    · subst hb
      rw [upd_same] at e
      exact absurd (Option.some.inj e) (ht ps)
    · rw [upd_ne hb] at e
      exact e⟩
theorem Grow.le (g : Grow Z H Z' H') : Le Z ι Z' ι := ⟨g.z, fun _ _ h => h⟩
theorem CellOk.grow (g : Grow Z H Z' H') (l : Le Z ι Z' ι') {a : Addr} {c : Cell} (h : CellOk K T Z ι H a c) : CellOk K T Z' ι' H' a c := by
  cases c with
  | dead => trivial
  | lstF xs => obtain ⟨n, vs, e, r⟩ := h; exact ⟨(g.new _ _ e).trans n, vs, g.h _ _ e, r.mono g.z⟩
  | lstW xs => obtain ⟨n, vs, e, r⟩ := h; exact ⟨(g.new _ _ e).trans n, vs, g.h _ _ e, r.mono l⟩
  | dct xs => obtain ⟨n, vs, e, r⟩ := h; exact ⟨(g.new _ _ e).trans n, vs, g.h _ _ e, r.mono g.z⟩
  | dti xs => obtain ⟨n, vs, e, r⟩ := h; exact ⟨(g.new _ _ e).trans n, vs, g.h _ _ e, r.mono g.z⟩
  | ins c fs => obtain ⟨n, dx, fvs, e, hc, r⟩ := h; exact ⟨(g.new _ _ e).trans n, dx, fvs, g.h _ _ e, hc, r.mono l⟩
theorem SimS.grow (s : SimS K T Z ι st H) (g : Grow Z H Z' H') : SimS K T Z' ι st H' :=
  ⟨g.sub, s.len, s.nd, fun n a c h1 h2 => (s.cell n a c h1 h2).grow g g.le, fun a h => let ⟨o, e⟩ := s.there a h; ⟨o, g.h _ _ e⟩, s.tab.step g.nt (fun a ha o e => by
    obtain ⟨u, eu⟩ := s.there a ha
    have := g.h _ _ eu
    rw [e] at this
    cases this
    exact s.tab.ct a ha _ eu) (fun b u e _ => g.h b u e) fun b u e _ hz => by rw [g.new b u e]; exact hz⟩
theorem get_app {α : Type} {l : List α} {b : α} {n : Nat} {a : α} (h : l[n]? = some a) : (l ++ [b])[n]? = some a := by
  rw [List.getElem?_append_left (List.getElem?_eq_some_iff.mp h).1]
  exact h
theorem get_app_cases {α : Type} {l : List α} {b : α} {n : Nat} {a : α} (h : (l ++ [b])[n]? = some a) : l[n]? = some a ∨ (n = l.length ∧ a = b) := by
  by_cases hl : n < l.length
  · rw [List.getElem?_append_left hl] at h
    exact .inl h
  · rw [List.getElem?_append_right (by omega)] at h
    by_cases hn : n = l.length
    · subst hn
      simp at h
      exact .inr ⟨rfl, h.symm⟩
    · rw [List.getElem?_eq_none (by simp; omega)] at h
      cases h
/-- a new cell at p -/
theorem SimS.alloc {p : Addr} {o : HO} {c : Cell} (s : SimS K T Z ι st H) (hp : H p = none) (hc : CellOk K T Z (ι ++ [p]) (upd H p o) p c) (ho : Hard o := by exact ⟨fun _ => nofun, fun _ => nofun⟩) :
    SimS K T Z (ι ++ [p]) (st ++ [c]) (upd H p o) := by
  have hz : Z p = none := free_sub s.sub hp
  have g : Grow Z H Z (upd H p o) := ⟨Same.refl Z, same_new hp, s.sub.trans (same_new hp), fun _ _ _ => rfl, fun _ _ e => e⟩
  have l : Le Z ι Z (ι ++ [p]) := ⟨Same.refl Z, fun _ _ h => get_app h⟩
  have hni : p ∉ ι := fun hm => by
    obtain ⟨u, e⟩ := s.there p hm
    rw [hp] at e; cases e
  refine ⟨g.sub, by simp [s.len], ?_, fun n a d h1 h2 => ?_, fun a ha => ?_, s.tab.step (fun _ _ e => e) (fun a ha u e => ?_) (fun b u e _ => g.h b u e) fun b u e _ hz => hz⟩
  rotate_right
  · rcases List.mem_append.mp ha with ha | ha
    · obtain ⟨u2, e2⟩ := s.there a ha
      have := g.h _ _ e2
      rw [e] at this
      cases this
      exact s.tab.ct a ha _ e2
    · simp at ha
      subst ha
      rw [upd_same] at e
      cases e
      exact ho
  · rw [List.nodup_append]
    exact ⟨s.nd, by simp, fun a ha b hb => by simp at hb; subst hb; exact fun e => hni (e ▸ ha)⟩
  · rcases get_app_cases h1 with h1 | ⟨rfl, rfl⟩
    · rcases get_app_cases h2 with h2 | ⟨rfl, rfl⟩
      · exact (s.cell n a d h1 h2).grow g l
      · exact absurd (List.getElem?_eq_some_iff.mp h1).1 (by rw [s.len]; omega)
    · rcases get_app_cases h2 with h2 | ⟨_, rfl⟩
      · exact absurd (List.getElem?_eq_some_iff.mp h2).1 (by rw [s.len]; omega)
      · exact hc
  · rcases List.mem_append.mp ha with ha | ha
    · obtain ⟨u, e⟩ := s.there a ha
      exact ⟨u, g.h _ _ e⟩
    · simp at ha
      subst ha
      exact ⟨o, upd_same⟩
theorem Le.alloc {p : Addr} : Le Z ι Z (ι ++ [p]) := ⟨Same.refl Z, fun _ _ h => get_app h⟩
/-- a cell is changed; its object o' -/
theorem SimS.write {n : Nat} {a : Addr} {o : HO} {c : Cell} (s : SimS K T Z ι st H) (hn : ι[n]? = some a) (hz : Z a = none) (hc : CellOk K T Z ι (upd H a o) a c) (ho : Hard o := by exact ⟨fun _ => nofun, fun _ => nofun⟩) : SimS K T Z ι (st.set n c) (upd H a o) := by
  have ha : a ∈ ι := List.mem_of_getElem? hn
  refine ⟨fun b u e => ?_, by simp [s.len], s.nd, fun m b d h1 h2 => ?_, fun b hb => ?_, s.tab.step (fun _ _ e => e) (fun b hb u e => ?_) (fun b u e hb => by rw [upd_ne (fun q => hb (by rw [q]; exact ha))]; exact e) fun b u e _ hz => hz⟩
  rotate_right
  · by_cases hba : b = a
    · subst hba
      rw [upd_same] at e
      cases e
      exact ho
    · rw [upd_ne hba] at e
      exact s.tab.ct b hb u e
  · have : b ≠ a := fun q => by subst q; rw [hz] at e; cases e
    rw [upd_ne this]
    exact s.sub b u e
  · by_cases hm : n = m
    · subst hm
      rw [hn] at h1; cases h1
      have hl : n < st.length := by rw [← s.len]; exact (List.getElem?_eq_some_iff.mp hn).1
      rw [List.getElem?_set_self hl] at h2
      cases h2
      exact hc
    · rw [List.getElem?_set_ne hm] at h2
      have hba : b ≠ a := fun q => by
        subst q
        obtain ⟨l1, e1⟩ := List.getElem?_eq_some_iff.mp hn
        obtain ⟨l2, e2⟩ := List.getElem?_eq_some_iff.mp h1
        exact hm ((List.getElem_inj s.nd).mp (e1.trans e2.symm))
      have q := s.cell m b d h1 h2
      cases d with
      | dead => trivial
      | lstF xs => obtain ⟨n, vs, e, r⟩ := q; exact ⟨n, vs, by rw [upd_ne hba]; exact e, r⟩
      | lstW xs => obtain ⟨n, vs, e, r⟩ := q; exact ⟨n, vs, by rw [upd_ne hba]; exact e, r⟩
      | dct xs => obtain ⟨n, vs, e, r⟩ := q; exact ⟨n, vs, by rw [upd_ne hba]; exact e, r⟩
      | dti xs => obtain ⟨n, vs, e, r⟩ := q; exact ⟨n, vs, by rw [upd_ne hba]; exact e, r⟩
      | ins c fs => obtain ⟨n, dx, fvs, e, hc, r⟩ := q; exact ⟨n, dx, fvs, by rw [upd_ne hba]; exact e, hc, r⟩
  · by_cases hba : b = a
    · subst hba
      exact ⟨o, upd_same⟩
    · obtain ⟨u, e⟩ := s.there b hb
      exact ⟨u, by rw [upd_ne hba]; exact e⟩
/-! ### the store cut back -/
def W.below (b : Nat) : W → Bool
  | .f _ => true
  | .loc n => decide (n < b)
def Cell.below (b : Nat) : Cell → Bool
  | .lstW xs => xs.all (W.below b)
  | .ins _ fs => fs.all fun p => p.2.below b
  | _ => true
def clean (b : Nat) (st : Store) : Bool := st.all (Cell.below b)
theorem RepW.cut {b : Nat} {v : V} {w : W} (r : RepW K T Z ι v w) (h : w.below b = true) : RepW K T Z (ι.take b) v w := by
  cases r with
  | f r => exact .f r
  | loc e =>
    rename_i n
    have hb : n < b := of_decide_eq_true h
    exact .loc (by rw [List.getElem?_take_of_lt hb]; exact e)
theorem RepWs.cut {b : Nat} : ∀ {vs : List V} {ws : List W}, RepWs K T Z ι vs ws → ws.all (W.below b) = true → RepWs K T Z (ι.take b) vs ws
  | _, _, .nil, _ => .nil
  | _, _, .cons r t, h => by
    rw [List.all_cons, Bool.and_eq_true] at h
    exact .cons (r.cut h.1) (RepWs.cut t h.2)
theorem RepWd.cut {b : Nat} : ∀ {c : Nat} {vs : List (Str × V)} {ws : List (Nat × W)}, RepWd K T Z ι c vs ws → (ws.all fun p => p.2.below b) = true → RepWd K T Z (ι.take b) c vs ws
  | _, _, _, .nil, _ => .nil
  | _, _, _, .cons k r t, h => by
    rw [List.all_cons, Bool.and_eq_true] at h
    exact .cons k (r.cut h.1) (RepWd.cut t h.2)
theorem take_get {α : Type} {l : List α} {b n : Nat} {a : α} (h : (l.take b)[n]? = some a) : l[n]? = some a ∧ n < b := by
  by_cases hb : n < b
  · rw [List.getElem?_take_of_lt hb] at h
    exact ⟨h, hb⟩
  · rw [List.getElem?_eq_none (by simp; omega)] at h
    cases h
theorem SimS.cut {b : Nat} (s : SimS K T Z ι st H) (h : clean b (st.take b) = true) : SimS K T Z (ι.take b) (st.take b) H := by
  refine ⟨s.sub, by simp [s.len], s.nd.sublist (List.take_sublist b ι), fun n a c h1 h2 => ?_, fun a ha => s.there a (List.mem_of_mem_take ha), s.tab.sub fun a ha => List.mem_of_mem_take ha⟩
  obtain ⟨h1', hb⟩ := take_get h1
  obtain ⟨h2', _⟩ := take_get h2
  have q := s.cell n a c h1' h2'
  have hc : c.below b = true := List.all_eq_true.mp h c (List.mem_of_getElem? h2)
  cases c with
  | dead => trivial
  | lstF xs => exact q
  | dct xs => exact q
  | dti xs => exact q
  | lstW xs => obtain ⟨n, vs, e, r⟩ := q; exact ⟨n, vs, e, r.cut hc⟩
  | ins c fs => obtain ⟨n, dx, fvs, e, hk, r⟩ := q; exact ⟨n, dx, fvs, e, hk, r.cut hc⟩
theorem Le.cut {b : Nat} (l : Le Z ι Z' ι') (h : ι.length ≤ b) : Le Z ι Z' (ι'.take b) := by
  refine ⟨l.z, fun n a e => ?_⟩
  have hn : n < ι.length := (List.getElem?_eq_some_iff.mp e).1
  rw [List.getElem?_take_of_lt (by omega)]
  exact l.i n a e
end
end VS

set_option Elab.async false
set_option linter.all false
set_option maxRecDepth 100000
set_option maxHeartbeats 4000000
set_option autoImplicit false
/-! VB: the judgements over plain data; names, constants, tests, statements. -/
namespace VS
open PySem PySem.Spec PyProof.Rows L2

/-- an exception's own dict at d -/
def XRep (K : PySem.W.Frag) (T : Tab) (Z H : Hp) (d : Addr) (fs : List (Nat × F)) : Prop :=
  ∃ fvs : List (Str × V), H d = some (.xd fvs) ∧ ∀ i x, (i, x) ∈ fs → ∃ v, fvs.lookup (T.fn i) = some v ∧ RepF K T Z v x
/-- .. or none, where it has no fields -/
def XRepO (K : PySem.W.Frag) (T : Tab) (Z H : Hp) (d : Option Addr) (fs : List (Nat × F)) : Prop := match d with
  | some d => XRep K T Z H d fs
  | none => fs = []
section
variable (K : PySem.W.Frag) (T : Tab) (E : XK)
def PX (Z : Hp) (ι : List Addr) (c : Nat) (fs : List (Nat × F)) (st : Store) : Prop :=
  ∀ H' Z' ι' d, Le Z ι Z' ι' → SimS K T Z' ι' st H' → XRepO K T Z' H' d fs → E (.ref (T.ca K c)) d H'
def Post {α : Type} (Z : Hp) (ι : List Addr) (r : Res α) (k : α → Store → Hp → Hp → List Addr → Prop) : Prop := match r with
  | .ok a st => ∀ H' Z' ι', Le Z ι Z' ι' → SimS K T Z' ι' st H' → k a st H' Z' ι'
  | .exc c fs st => PX K T E Z ι c fs st
  | .stuck => False
abbrev TEv := Env → Store → Res W
abbrev TTv := Env → Store → Res Bool
abbrev TAv := Env → Store → Res (List W)
def RdE (t : TEv) : TE := fun σ H Q => ∃ Z ι env st, SimS K T Z ι st H ∧ EnvR K T Z ι σ env ∧ Post K T E Z ι (t env st) fun w _ H' Z' ι' => ∀ v, RepW K T Z' ι' v w → Q v H'
def RdT (t : TTv) : TT := fun σ H Q => ∃ Z ι env st, SimS K T Z ι st H ∧ EnvR K T Z ι σ env ∧ Post K T E Z ι (t env st) fun b _ H' _ _ => Q b H'
def RdA (t : TAv) : TA := fun σ H Q => ∃ Z ι env st, SimS K T Z ι st H ∧ EnvR K T Z ι σ env ∧ Post K T E Z ι (t env st) fun ws _ H' Z' ι' => ∀ vs, RepWs K T Z' ι' vs ws → Q vs H'
inductive SR where
  | nx (env : Env) (st : Store) | rt (w : W) (st : Store) | bk (env : Env) (st : Store) | ct (env : Env) (st : Store) | exc (c : Nat) (fs : List (Nat × F)) (st : Store) | stuck
abbrev TSv := Env → Store → SR
def PostS (Z : Hp) (ι : List Addr) (r : SR) (D : Ends) : Prop := match r with
  | .nx env st => ∀ σ' H' Z' ι', Le Z ι Z' ι' → SimS K T Z' ι' st H' → EnvR K T Z' ι' σ' env → D.nx σ' H'
  | .rt w st => ∀ v H' Z' ι', Le Z ι Z' ι' → SimS K T Z' ι' st H' → RepW K T Z' ι' v w → D.rt v H'
  | .bk env st => ∀ σ' H' Z' ι', Le Z ι Z' ι' → SimS K T Z' ι' st H' → EnvR K T Z' ι' σ' env → D.bk σ' H'
  | .ct env st => ∀ σ' H' Z' ι', Le Z ι Z' ι' → SimS K T Z' ι' st H' → EnvR K T Z' ι' σ' env → D.ct σ' H'
  | .exc c fs st => PX K T E Z ι c fs st
  | .stuck => False
def RdS (t : TSv) : TS := fun D σ H => ∃ Z ι env st, SimS K T Z ι st H ∧ EnvR K T Z ι σ env ∧ PostS K T E Z ι (t env st) D
end
/-- a statement goes on with a value -/
def Res.thenS {α : Type} (r : Res α) (k : α → Store → SR) : SR := match r with
  | .ok a st => k a st
  | .exc c fs st => .exc c fs st
  | .stuck => .stuck

section
variable {K : PySem.W.Frag} {T : Tab} {E : XK} {Z Z' : Hp} {ι ι' : List Addr} {α β : Type}
theorem PX.le {c : Nat} {fs : List (Nat × F)} {st : Store} (l : Le Z ι Z' ι') (h : PX K T E Z ι c fs st) : PX K T E Z' ι' c fs st :=
  fun H' Z1 ι1 d l1 s x => h H' Z1 ι1 d (l.trans l1) s x
theorem Post.le {r : Res α} {k : α → Store → Hp → Hp → List Addr → Prop} (l : Le Z ι Z' ι') (h : Post K T E Z ι r k) : Post K T E Z' ι' r k := by
  cases r with
  | ok a st => exact fun H' Z1 ι1 l1 s => h H' Z1 ι1 (l.trans l1) s
  | exc c fs st => exact PX.le l h
  | stuck => exact h
theorem Post.bind {r : Res α} {f : α → Store → Res β} {k : β → Store → Hp → Hp → List Addr → Prop} (h : Post K T E Z ι (r.bind f) k) : Post K T E Z ι r (fun a st1 _ Z1 ι1 => Post K T E Z1 ι1 (f a st1) k) := by
  cases r with
  | ok a st => exact fun H' Z1 ι1 l1 s => Post.le l1 h
  | exc c fs st => exact h
  | stuck => exact h
theorem Post.imp {r : Res α} {k k' : α → Store → Hp → Hp → List Addr → Prop} (h : Post K T E Z ι r k) (hk : ∀ a st H' Z' ι', Le Z ι Z' ι' → SimS K T Z' ι' st H' → k a st H' Z' ι' → k' a st H' Z' ι') : Post K T E Z ι r k' := by
  cases r with
  | ok a st => exact fun H' Z1 ι1 l1 s => hk a st H' Z1 ι1 l1 s (h H' Z1 ι1 l1 s)
  | exc c fs st => exact h
  | stuck => exact h
theorem PostS.le {r : SR} {D : Ends} (l : Le Z ι Z' ι') (h : PostS K T E Z ι r D) : PostS K T E Z' ι' r D := by
  cases r with
  | nx env st => exact fun σ H' Z1 ι1 l1 s e => h σ H' Z1 ι1 (l.trans l1) s e
  | rt w st => exact fun v H' Z1 ι1 l1 s e => h v H' Z1 ι1 (l.trans l1) s e
  | bk env st => exact fun σ H' Z1 ι1 l1 s e => h σ H' Z1 ι1 (l.trans l1) s e
  | ct env st => exact fun σ H' Z1 ι1 l1 s e => h σ H' Z1 ι1 (l.trans l1) s e
  | exc c fs st => exact PX.le l h
  | stuck => exact h
theorem PostS.thenS {r : Res α} {f : α → Store → SR} {D : Ends} (h : PostS K T E Z ι (r.thenS f) D) : Post K T E Z ι r (fun a st1 _ Z1 ι1 => PostS K T E Z1 ι1 (f a st1) D) := by
  cases r with
  | ok a st => exact fun H' Z1 ι1 l1 s => PostS.le l1 h
  | exc c fs st => exact h
  | stuck => exact h
end

/-! ### weaker readings -/
theorem pe_weak {X : Cx} {e : Expr} {t t' : TE} (h : PE X e t) (w : ∀ σ H Q, t' σ H Q → t σ H Q) : PE X e t' := ⟨fun pins s σ H Q I q => h.run pins s σ H Q I (w σ H Q q)⟩
theorem pt_weak {X : Cx} {e : Expr} {t t' : TT} (h : PT X e t) (w : ∀ σ H Q, t' σ H Q → t σ H Q) : PT X e t' := ⟨fun pins s σ H Q I q => h.run pins s σ H Q I (w σ H Q q)⟩
theorem pw_weak {X : Cx} {e : Expr} {t t' : TT} (h : PW X e t) (w : ∀ σ H Q, t' σ H Q → t σ H Q) : PW X e t' := ⟨fun wh pins s σ H Q I q => h.run wh pins s σ H Q I (w σ H Q q)⟩
theorem pa_weak {X : Cx} {e : List Expr} {t t' : TA} (h : PA X e t) (w : ∀ σ H Q, t' σ H Q → t σ H Q) : PA X e t' := ⟨fun p pins s σ H Q I q => h.run p pins s σ H Q I (w σ H Q q)⟩
theorem ps_weak {X : Cx} {e : Stmt} {t t' : TS} (h : PS X e t) (w : ∀ D σ H, t' D σ H → t D σ H) : PS X e t' := ⟨fun pins s σ H Q I q => h.run pins s σ H Q I (w Q σ H q)⟩
theorem pss_weak {X : Cx} {e : List Stmt} {t t' : TS} (h : PSs X e t) (w : ∀ D σ H, t' D σ H → t D σ H) : PSs X e t' := ⟨fun pins s σ H Q I q => h.run pins s σ H Q I (w Q σ H q)⟩
theorem pi_weak {X : Cx} {tg e : Expr} {t t' : TI} (h : PI X tg e t) (w : ∀ σ H Q, t' σ H Q → t σ H Q) : PI X tg e t' := ⟨fun pins s σ H Q I q => h.run pins s σ H Q I (w σ H Q q)⟩
theorem pg_weak {X : Cx} {e : Expr} {t t' : TG} (h : PG X e t) (w : ∀ v σ H Q, t' v σ H Q → t v σ H Q) : PG X e t' := ⟨fun pins s σ H v u Q I r q => h.run pins s σ H v u Q I r (w v σ H Q q)⟩

/-! ### the judgements -/
abbrev VE (X : Cx) (T : Tab) (E : XK) (e : Expr) (t : TEv) : Prop := PE X e (RdE X.K T E t)
abbrev VT (X : Cx) (T : Tab) (E : XK) (e : Expr) (t : TTv) : Prop := PT X e (RdT X.K T E t)
abbrev VW (X : Cx) (T : Tab) (E : XK) (e : Expr) (t : TTv) : Prop := PW X e (RdT X.K T E t)
abbrev VA (X : Cx) (T : Tab) (E : XK) (e : List Expr) (t : TAv) : Prop := PA X e (RdA X.K T E t)
abbrev VS (X : Cx) (T : Tab) (E : XK) (e : Stmt) (t : TSv) : Prop := PS X e (RdS X.K T E t)
abbrev VB (X : Cx) (T : Tab) (E : XK) (e : List Stmt) (t : TSv) : Prop := PSs X e (RdS X.K T E t)

section
variable {X : Cx} {T : Tab} {E : XK} {a b c e : Expr} {ta tb tc te : TEv} {pos : Pos}
/-! ### names and constants -/
def eVar (i : Nat) : TEv := fun env st => match env[i]? with
  | some (some w) => .ok w st
  | _ => .stuck
def eC (x : F) : TEv := fun _ st => .ok (.f x) st
theorem ve_var {i : Nat} {x : Str} (hN : X.N[i]? = some x) (hv : Vis X.env.scope x) (hd : (x == ("__debug__" : Str)) = false := by decide) (hcd : (x == ("__classdict__" : Str)) = false := by decide) : VE X T E (.Name x pos) (eVar i) := by
  refine pe_weak (pe_var hN hv hd hcd) fun σ H Q h => ?_
  obtain ⟨Z, ι, env, st, s, r, p⟩ := h
  unfold eVar at p
  cases q : env[i]? with
  | none => rw [q] at p; exact p.elim
  | some o =>
    cases o with
    | none => rw [q] at p; exact p.elim
    | some w =>
      rw [q] at p
      obtain ⟨v, e, rv⟩ := r.get i w q
      exact ⟨v, e, p H Z ι Le.refl s v rv⟩
theorem rd_c {K : PySem.W.Frag} {x : F} {v : V} (hr : ∀ Z, RepF K T Z v x) {σ : L2.St} {H : Hp} {Q : VK} (h : RdE K T E (eC x) σ H Q) : tC v σ H Q := by
  obtain ⟨Z, ι, env, st, s, r, p⟩ := h
  exact p H Z ι Le.refl s v (.f (hr Z))
theorem ve_int {i : Int} {j : Nat} : VE X T E (.Constant (.int i) j pos) (eC (.int i)) := pe_weak pe_int fun _ _ _ h => rd_c (fun Z => .int i) h
theorem ve_bl {i : Bool} {j : Nat} : VE X T E (.Constant (.bool i) j pos) (eC (.bl i)) := pe_weak pe_bl fun _ _ _ h => rd_c (fun Z => .bl i) h
theorem ve_non {j : Nat} : VE X T E (.Constant .none j pos) (eC .non) := pe_weak pe_non fun _ _ _ h => rd_c (fun Z => .non) h
theorem ve_str {x : Str} {s : List Nat} {j : Nat} (hx : x = S s) : VE X T E (.Constant (.str x) j pos) (eC (.str s)) := by
  subst hx
  exact pe_weak pe_str fun _ _ _ h => rd_c (fun Z => .str s) h
/-! ### two values -/
/-- data out of the store: a cell's list or dict is looked at -/
def lookC : Option Cell → Option F
  | some (.lstF xs) => some (.lst xs)
  | some (.dct kvs) => some (.dct kvs)
  | _ => none
def look (st : Store) : W → Option F
  | .f x => some x
  | .loc n => lookC st[n]?
/-- data as it is to be seen in H -/
inductive View (K : PySem.W.Frag) (T : Tab) (Z H : Hp) : V → F → Prop
  | f {v : V} {x : F} : RepF K T Z v x → View K T Z H v x
  | lst {a : Addr} {vs : List V} {xs : List F} : H a = some (.lst vs) → RepFs K T Z vs xs → View K T Z H (.ref a) (.lst xs)
  | dct {a : Addr} {kvs : List (Key × V)} {kfs : List (F × F)} : H a = some (.dK kvs) → RepFk K T Z kvs kfs → View K T Z H (.ref a) (.dct kfs)
theorem RepW.view {K : PySem.W.Frag} {Z H : Hp} {ι : List Addr} {st : Store} {v : V} {w : W} {x : F} (s : SimS K T Z ι st H) (r : RepW K T Z ι v w) (h : look st w = some x) : View K T Z H v x := by
  cases r with
  | f r => cases h; exact .f r
  | loc e =>
    rename_i a n
    have h : lookC st[n]? = some x := h
    cases q : st[n]? with
    | none => rw [q] at h; cases h
    | some c =>
      rw [q] at h
      have k := s.cell n a c e q
      cases c with
      | dead => cases h
      | lstF xs => cases h; obtain ⟨_, vs, e1, r1⟩ := k; exact .lst e1 r1
      | lstW xs => cases h
      | dct xs => cases h; obtain ⟨_, vs, e1, r1⟩ := k; exact .dct e1 r1
      | dti xs => cases h
      | ins c fs => cases h
/-- a reading that hands on data: nothing old is touched -/
def Give (K : PySem.W.Frag) (T : Tab) (Z H : Hp) (z : F) (Q : VK) : Prop := ∀ v H' Z', Grow Z H Z' H' → RepF K T Z' v z → Q v H'
theorem Give.here {K : PySem.W.Frag} {Z H : Hp} {z : F} {Q : VK} (g : Give K T Z H z Q) (s : Same Z H) {v : V} (r : RepF K T Z v z) : Q v H := g v H Z (Grow.refl s) r
theorem Give.new {K : PySem.W.Frag} {Z H : Hp} {z : F} {Q : VK} (g : Give K T Z H z Q) (s : Same Z H) {p : Addr} {o : HO} (hp : H p = none) (r : RepF K T (upd Z p o) (.ref p) z) (ht : ∀ ps, o ≠ .tbl ps := by intro _ h; cases h) : Q (.ref p) (upd H p o) := g _ _ _ (Grow.laid s hp ht) r
/-- an operation on two values does g on data -/
def Op2 (X : Cx) (T : Tab) (r : R2) (g : F → F → Option F) : Prop := ∀ Z H x y fx fy z Q, Same Z H → View X.K T Z H x fx → View X.K T Z H y fy → g fx fy = some z → Give X.K T Z H z Q → r x y H Q
def Op1 (X : Cx) (T : Tab) (r : V → Hp → VK → Prop) (g : F → Option F) : Prop := ∀ Z H x fx z Q, Same Z H → View X.K T Z H x fx → g fx = some z → Give X.K T Z H z Q → r x H Q
def ofOpt (o : Option F) (st : Store) : Res W := match o with
  | some z => .ok (.f z) st
  | none => .stuck
def lk1 (g : F → Option F) (w : W) (st : Store) : Res W := ofOpt ((look st w).bind g) st
def lk2 (g : F → F → Option F) (w u : W) (st : Store) : Res W := ofOpt ((look st w).bind fun x => (look st u).bind fun y => g x y) st
def eOp1 (g : F → Option F) (ta : TEv) : TEv := fun env st => (ta env st).bind fun w st1 => lk1 g w st1
def eOp2 (g : F → F → Option F) (ta tb : TEv) : TEv := fun env st => (ta env st).bind fun w st1 => (tb env st1).bind fun u st2 => lk2 g w u st2
theorem lk1_ok {K : PySem.W.Frag} {Z H : Hp} {ι : List Addr} {g : F → Option F} {w : W} {st : Store} {Q : VK} (s : SimS K T Z ι st H) (h : Post K T E Z ι (lk1 g w st) fun w _ H' Z' ι' => ∀ v, RepW K T Z' ι' v w → Q v H') :
    ∃ x z, look st w = some x ∧ g x = some z ∧ Give K T Z H z Q := by
  unfold lk1 at h
  cases q : look st w with
  | none => rw [q] at h; exact h.elim
  | some x =>
    rw [q] at h
    cases q1 : g x with
    | none => simp only [Option.bind_some, q1] at h; exact h.elim
    | some z =>
      simp only [Option.bind_some, q1] at h
      exact ⟨x, z, rfl, q1, fun v H' Z' gr r => h H' Z' ι gr.le (s.grow gr) v (.f r)⟩
theorem lk2_ok {K : PySem.W.Frag} {Z H : Hp} {ι : List Addr} {g : F → F → Option F} {w u : W} {st : Store} {Q : VK} (s : SimS K T Z ι st H) (h : Post K T E Z ι (lk2 g w u st) fun w _ H' Z' ι' => ∀ v, RepW K T Z' ι' v w → Q v H') :
    ∃ x y z, look st w = some x ∧ look st u = some y ∧ g x y = some z ∧ Give K T Z H z Q := by
  unfold lk2 at h
  cases q : look st w with
  | none => rw [q] at h; exact h.elim
  | some x =>
    rw [q] at h
    cases q0 : look st u with
    | none => rw [q0] at h; exact h.elim
    | some y =>
      rw [q0] at h
      cases q1 : g x y with
      | none => simp only [Option.bind_some, q1] at h; exact h.elim
      | some z =>
        simp only [Option.bind_some, q1] at h
        exact ⟨x, y, z, rfl, rfl, q1, fun v H' Z' gr r => h H' Z' ι gr.le (s.grow gr) v (.f r)⟩
theorem rd_op2 {r : R2} {g : F → F → Option F} (ho : Op2 X T r g) {σ : L2.St} {H : Hp} {Q : VK} (h : RdE X.K T E (eOp2 g ta tb) σ H Q) : tOp r (RdE X.K T E ta) (RdE X.K T E tb) σ H Q := by
  obtain ⟨Z, ι, env, st, s, re, p⟩ := h
  refine ⟨Z, ι, env, st, s, re, (Post.bind p).imp fun w st1 H1 Z1 ι1 l1 s1 p1 v rv => ?_⟩
  refine ⟨Z1, ι1, env, st1, s1, re.mono l1, (Post.bind p1).imp fun u st2 H2 Z2 ι2 l2 s2 p2 v2 rv2 => ?_⟩
  obtain ⟨x, y, z, e1, e2, e3, g⟩ := lk2_ok s2 p2
  exact ho Z2 H2 v v2 x y z Q s2.sub ((rv.mono l2).view s2 e1) (rv2.view s2 e2) e3 g
theorem rd_op1 {r : V → Hp → VK → Prop} {g : F → Option F} (ho : Op1 X T r g) {σ : L2.St} {H : Hp} {Q : VK} (h : RdE X.K T E (eOp1 g ta) σ H Q) : tUn r (RdE X.K T E ta) σ H Q := by
  obtain ⟨Z, ι, env, st, s, re, p⟩ := h
  refine ⟨Z, ι, env, st, s, re, (Post.bind p).imp fun w st1 H1 Z1 ι1 l1 s1 p1 v rv => ?_⟩
  obtain ⟨x, z, e1, e3, g⟩ := lk1_ok s1 p1
  exact ho Z1 H1 v x z Q s1.sub (rv.view s1 e1) e3 g
theorem ve_op {op : Operator} {r : R2} {g : F → F → Option F} (hr : OpR X (binaryOp op) r) (ho : Op2 X T r g) (ha : VE X T E a ta) (hb : VE X T E b tb) : VE X T E (.BinOp a op b pos) (eOp2 g ta tb) :=
  pe_weak (pe_op hr ha hb) fun _ _ _ h => rd_op2 ho h
theorem ve_un {op : UnaryOp} {r : V → Hp → VK → Prop} {g : F → Option F} (hr : UnR X (unaryOp op) r) (ho : Op1 X T r g) (ha : VE X T E a ta) : VE X T E (.UnaryOp op a pos) (eOp1 g ta) :=
  pe_weak (pe_un hr ha) fun _ _ _ h => rd_op1 ho h
theorem ve_cmp {op : CmpOp} {r : R2} {g : F → F → Option F} (hr : OpR X (compareOp op) r) (ho : Op2 X T r g) (ha : VE X T E a ta) (hb : VE X T E b tb) (hm : behindInMarks op b = false) : VE X T E (.Compare a [op] [b] pos) (eOp2 g ta tb) :=
  pe_weak (pe_cmpR hr ha hb hm) fun _ _ _ h => rd_op2 ho h

/-! ### tests -/
def toB : W → Option Bool
  | .f (.bl b) => some b
  | _ => none
def asB (w : W) (st : Store) : Res Bool := match toB w with
  | some b => .ok b st
  | none => .stuck
/-- a value that is a bool, as a test -/
def tVal (t : TEv) : TTv := fun env st => (t env st).bind fun w st1 => asB w st1
theorem toB_some {w : W} {b : Bool} (h : toB w = some b) : w = .f (.bl b) := by
  cases w with
  | loc n => cases h
  | f x => cases x <;> first | (cases h; rfl) | cases h
theorem rd_tval {K : PySem.W.Frag} {σ : L2.St} {H : Hp} {Q : Bool → Hp → Prop} (h : RdT K T E (tVal te) σ H Q) : RdE K T E te σ H (fun x H1 => ∃ c, x = .bl c ∧ Q c H1) := by
  obtain ⟨Z, ι, env, st, s, re, p⟩ := h
  refine ⟨Z, ι, env, st, s, re, (Post.bind p).imp fun w st1 H1 Z1 ι1 l1 s1 p1 v rv => ?_⟩
  unfold asB at p1
  cases q : toB w with
  | none => rw [q] at p1; exact p1.elim
  | some b =>
    rw [q] at p1
    cases toB_some q
    cases rv with
    | f rv => cases rv; exact ⟨b, rfl, p1 H1 Z1 ι1 Le.refl s1⟩
/-- any expression whose value is a bool -/
theorem vt_val (h : VE X T E e te) (he : ∀ whole, isTrue e X.env whole = (do let v ← whole; standAt e.pos; holding [v] (truthy v)) := by intro _; rfl) : VT X T E e (tVal te) :=
  pt_weak (pt_val h he) fun _ _ _ q => rd_tval q
theorem vt_cmp {op : CmpOp} {r : R2} {g : F → F → Option F} (hr : OpR X (compareOp op) r) (ho : Op2 X T r g) (ha : VE X T E a ta) (hb : VE X T E b tb) (hm : behindInMarks op b = false) : VT X T E (.Compare a [op] [b] pos) (tVal (eOp2 g ta tb)) :=
  pt_weak (pt_cmpR hr ha hb hm) fun σ H Q h => by
    obtain ⟨Z, ι, env, st, s, re, p⟩ := rd_tval h
    exact rd_op2 ho ⟨Z, ι, env, st, s, re, p⟩
variable {wa wb wc : TTv}
def tAndV (p q : TTv) : TTv := fun env st => (p env st).bind fun b st1 => if b = true then q env st1 else .ok false st1
def tOrV (p q : TTv) : TTv := fun env st => (p env st).bind fun b st1 => if b = true then .ok true st1 else q env st1
def tNotV (p : TTv) : TTv := fun env st => (p env st).bind fun b st1 => .ok (!b) st1
theorem rd_and {K : PySem.W.Frag} {σ : L2.St} {H : Hp} {Q : Bool → Hp → Prop} (h : RdT K T E (tAndV wa wb) σ H Q) : tAnd (RdT K T E wa) (RdT K T E wb) σ H Q := by
  obtain ⟨Z, ι, env, st, s, re, p⟩ := h
  refine ⟨Z, ι, env, st, s, re, (Post.bind p).imp fun b st1 H1 Z1 ι1 l1 s1 p1 => ?_⟩
  cases b with
  | true => exact ⟨Z1, ι1, env, st1, s1, re.mono l1, p1⟩
  | false => exact p1 H1 Z1 ι1 Le.refl s1
theorem rd_or {K : PySem.W.Frag} {σ : L2.St} {H : Hp} {Q : Bool → Hp → Prop} (h : RdT K T E (tOrV wa wb) σ H Q) : tOr (RdT K T E wa) (RdT K T E wb) σ H Q := by
  obtain ⟨Z, ι, env, st, s, re, p⟩ := h
  refine ⟨Z, ι, env, st, s, re, (Post.bind p).imp fun b st1 H1 Z1 ι1 l1 s1 p1 => ?_⟩
  cases b with
  | false => exact ⟨Z1, ι1, env, st1, s1, re.mono l1, p1⟩
  | true => exact p1 H1 Z1 ι1 Le.refl s1
variable {rest : List Expr}
theorem vw_and1 (ha : VT X T E a wa) : VW X T E (.BoolOp .And [a] pos) wa := pw_and1 ha
theorem vw_or1 (ha : VT X T E a wa) : VW X T E (.BoolOp .Or [a] pos) wa := pw_or1 ha
theorem vw_and (ha : VT X T E a wa) (hb : VW X T E (.BoolOp .And (b :: rest) pos) wb) : VW X T E (.BoolOp .And (a :: b :: rest) pos) (tAndV wa wb) := pw_weak (pw_and ha hb) fun _ _ _ h => rd_and h
theorem vw_or (ha : VT X T E a wa) (hb : VW X T E (.BoolOp .Or (b :: rest) pos) wb) : VW X T E (.BoolOp .Or (a :: b :: rest) pos) (tOrV wa wb) := pw_weak (pw_or ha hb) fun _ _ _ h => rd_or h
theorem VW.vt (h : VW X T E a wa) : VT X T E a wa := PW.pt h
theorem vt_not (ha : VT X T E a wa) : VT X T E (.UnaryOp .Not a pos) (tNotV wa) := pt_weak (pt_not ha) fun σ H Q h => by
  obtain ⟨Z, ι, env, st, s, re, p⟩ := h
  exact ⟨Z, ι, env, st, s, re, (Post.bind p).imp fun b st1 H1 Z1 ι1 l1 s1 p1 => p1 H1 Z1 ι1 Le.refl s1⟩
def eOr (p q : TEv) : TEv := fun env st => (p env st).bind fun w st1 => (asB w st1).bind fun b st2 => if b = true then .ok (.f (.bl true)) st2 else q env st2
theorem asB_ok {K : PySem.W.Frag} {Z : Hp} {ι : List Addr} {w : W} {v : V} {st : Store} {β : Type} {f : Bool → Store → Res β} {k : β → Store → Hp → Hp → List Addr → Prop} (rv : RepW K T Z ι v w) (h : Post K T E Z ι ((asB w st).bind f) k) : ∃ b, w = .f (.bl b) ∧ v = .bl b ∧ Post K T E Z ι (f b st) k := by
  unfold asB at h
  cases q : toB w with
  | none => rw [q] at h; exact h.elim
  | some b =>
    rw [q] at h
    cases toB_some q
    cases rv with
    | f rv => cases rv; exact ⟨b, rfl, rfl, h⟩
theorem ve_one {op : BoolOp} (h : VE X T E a ta) : VE X T E (.BoolOp op [a] pos) ta := pe_one h
theorem ve_or (ha : VE X T E a ta) (hb : VE X T E (.BoolOp .Or (b :: rest) pos) tb) : VE X T E (.BoolOp .Or (a :: b :: rest) pos) (eOr ta tb) := pe_weak (pe_or ha hb) fun σ H Q h => by
  obtain ⟨Z, ι, env, st, s, re, p⟩ := h
  refine ⟨Z, ι, env, st, s, re, (Post.bind p).imp fun w st1 H1 Z1 ι1 l1 s1 p1 v rv => ?_⟩
  obtain ⟨b, rfl, rfl, p2⟩ := asB_ok rv p1
  refine ⟨b, rfl, ?_⟩
  cases b with
  | false => exact ⟨Z1, ι1, env, st1, s1, re.mono l1, p2⟩
  | true => exact p2 H1 Z1 ι1 Le.refl s1 _ (.f (.bl true))
def eIf (p : TTv) (ta tb : TEv) : TEv := fun env st => (p env st).bind fun b st1 => if b = true then ta env st1 else tb env st1
theorem ve_if (hc : VT X T E c wa) (ha : VE X T E a ta) (hb : VE X T E b tb) : VE X T E (.IfExp c a b pos) (eIf wa ta tb) := pe_weak (pe_ifExp hc ha hb) fun σ H Q h => by
  obtain ⟨Z, ι, env, st, s, re, p⟩ := h
  refine ⟨Z, ι, env, st, s, re, (Post.bind p).imp fun b st1 H1 Z1 ι1 l1 s1 p1 => ?_⟩
  cases b with
  | true => exact ⟨Z1, ι1, env, st1, s1, re.mono l1, p1⟩
  | false => exact ⟨Z1, ι1, env, st1, s1, re.mono l1, p1⟩
/-! ### arguments -/
def aNil : TAv := fun _ st => .ok [] st
def aCons (t : TEv) (r : TAv) : TAv := fun env st => (t env st).bind fun w st1 => (r env st1).bind fun ws st2 => .ok (w :: ws) st2
variable {es : List Expr} {tr : TAv}
theorem va_nil : VA X T E [] aNil := pa_weak pa_nil fun σ H Q h => by
  obtain ⟨Z, ι, env, st, s, re, p⟩ := h
  exact p H Z ι Le.refl s _ .nil
theorem va_cons (ha : VE X T E e te) (hr : VA X T E es tr) (hs : starEach (e :: es) X.env = (false, eval e X.env) :: starEach es X.env := by rfl) : VA X T E (e :: es) (aCons te tr) := pa_weak (pa_cons ha hr hs) fun σ H Q h => by
  obtain ⟨Z, ι, env, st, s, re, p⟩ := h
  refine ⟨Z, ι, env, st, s, re, (Post.bind p).imp fun w st1 H1 Z1 ι1 l1 s1 p1 v rv => ?_⟩
  refine ⟨Z1, ι1, env, st1, s1, re.mono l1, (Post.bind p1).imp fun ws st2 H2 Z2 ι2 l2 s2 p2 vs rvs => ?_⟩
  exact p2 H2 Z2 ι2 Le.refl s2 _ (.cons (rv.mono l2) rvs)
end
end VS

set_option Elab.async false
set_option linter.all false
set_option maxRecDepth 100000
set_option maxHeartbeats 4000000
set_option autoImplicit false
/-! VC: statements, targets, loops, defs. -/
namespace VS
open PySem PySem.Spec PyProof.Rows L2

section
variable {X : Cx} {T : Tab} {E : XK} {a b c e : Expr} {ta tb tc te : TEv} {wa : TTv} {pos : Pos} {s s1 s2 : Stmt} {ss : List Stmt} {u u1 u2 : TSv}
/-! ### blocks -/
def bNil : TSv := fun env st => .nx env st
def bCons (t r : TSv) : TSv := fun env st => match t env st with
  | .nx env1 st1 => r env1 st1
  | x => x
theorem vb_nil : VB X T E [] bNil := pss_weak pss_nil fun D σ H h => by
  obtain ⟨Z, ι, env, st, s, re, p⟩ := h
  exact p σ H Z ι Le.refl s re
theorem vb_cons (h1 : VS X T E s u) (h2 : VB X T E ss u1) : VB X T E (s :: ss) (bCons u u1) := pss_weak (pss_cons h1 h2) fun D σ H h => by
  obtain ⟨Z, ι, env, st, s, re, p⟩ := h
  refine ⟨Z, ι, env, st, s, re, ?_⟩
  unfold bCons at p
  cases q : u env st with
  | nx env1 st1 =>
    rw [q] at p
    exact fun σ' H' Z' ι' l s' re' => ⟨Z', ι', env1, st1, s', re', p.le l⟩
  | rt w st1 => rw [q] at p; exact p
  | bk w st1 => rw [q] at p; exact p
  | ct w st1 => rw [q] at p; exact p
  | exc c fs st1 => rw [q] at p; exact p
  | stuck => rw [q] at p; exact p
theorem vb_one (h1 : VS X T E s u) : VB X T E [s] u := pss_one h1
/-! ### small statements -/
def sExpr (t : TEv) : TSv := fun env st => (t env st).thenS fun _ st1 => .nx env st1
theorem vs_expr (he : VE X T E e te) (hs : swapsWith e none pos.line X.env = pure false := by rfl) : VS X T E (.Expr e pos) (sExpr te) := ps_weak (ps_expr he hs) fun D σ H h => by
  obtain ⟨Z, ι, env, st, s, re, p⟩ := h
  exact ⟨Z, ι, env, st, s, re, (PostS.thenS p).imp fun w st1 H1 Z1 ι1 l1 s1 p1 v rv => p1 σ H1 Z1 ι1 Le.refl s1 (re.mono l1)⟩
def sRet (t : TEv) : TSv := fun env st => (t env st).thenS fun w st1 => .rt w st1
theorem vs_ret (he : VE X T E e te) : VS X T E (.Return (some e) pos) (sRet te) := ps_weak (ps_ret he) fun D σ H h => by
  obtain ⟨Z, ι, env, st, s, re, p⟩ := h
  exact ⟨Z, ι, env, st, s, re, (PostS.thenS p).imp fun w st1 H1 Z1 ι1 l1 s1 p1 v rv => p1 v H1 Z1 ι1 Le.refl s1 rv⟩
def sIf (w : TTv) (t r : TSv) : TSv := fun env st => (w env st).thenS fun b st1 => if b = true then t env st1 else r env st1
theorem vs_if {sa sb : List Stmt} (hc : VT X T E c wa) (ha : VB X T E sa u1) (hb : VB X T E sb u2) : VS X T E (.If c sa sb pos) (sIf wa u1 u2) := ps_weak (ps_if hc ha hb) fun D σ H h => by
  obtain ⟨Z, ι, env, st, s, re, p⟩ := h
  refine ⟨Z, ι, env, st, s, re, (PostS.thenS p).imp fun b st1 H1 Z1 ι1 l1 s1 p1 => ?_⟩
  cases b with
  | true => exact ⟨Z1, ι1, env, st1, s1, re.mono l1, p1⟩
  | false => exact ⟨Z1, ι1, env, st1, s1, re.mono l1, p1⟩
def sSet (i : Nat) (t : TEv) : TSv := fun env st => (t env st).thenS fun w st1 => .nx (env.set i (some w)) st1
theorem vs_set {i : Nat} {x : Str} {pos' : Pos} (hN : X.N.Nodup) (hi : X.N[i]? = some x) (hx : Loc X.env.scope x) (he : VE X T E e te) (hs : swapsWith e (some (.Name x pos')) pos.line X.env = pure false := by rfl) (hf : X.fn x = true ∨ X.env.scope.names.lookup x = some .local := by first | exact .inl rfl | exact .inr rfl | assumption) :
    VS X T E (.Assign [.Name x pos'] e pos) (sSet i te) := ps_weak (ps_set hN hi hx he hs hf) fun D σ H h => by
  obtain ⟨Z, ι, env, st, s, re, p⟩ := h
  exact ⟨Z, ι, env, st, s, re, (PostS.thenS p).imp fun w st1 H1 Z1 ι1 l1 s1 p1 v rv => p1 _ H1 Z1 ι1 Le.refl s1 ((re.mono l1).set rv i)⟩
/-! ### targets -/
abbrev TGv := W → Env → Option Env
abbrev TGsv := List F → Env → Option Env
def RdG (K : PySem.W.Frag) (T : Tab) (g : TGv) : TG := fun v σ H Q => ∃ Z ι env st w env', SimS K T Z ι st H ∧ EnvR K T Z ι σ env ∧ RepW K T Z ι v w ∧ g w env = some env' ∧ ∀ σ', EnvR K T Z ι σ' env' → Q σ' H
def RdGs (K : PySem.W.Frag) (T : Tab) (g : TGsv) : TGs := fun vs σ H Q => ∃ Z ι env st xs env', SimS K T Z ι st H ∧ EnvR K T Z ι σ env ∧ RepFs K T Z vs xs ∧ g xs env = some env' ∧ ∀ σ', EnvR K T Z ι σ' env' → Q σ' H
abbrev VG (X : Cx) (T : Tab) (e : Expr) (g : TGv) : Prop := PG X e (RdG X.K T g)
abbrev VGs (X : Cx) (T : Tab) (es : List Expr) (g : TGsv) : Prop := PGs X es (RdGs X.K T g)
def gNm (i : Nat) : TGv := fun w env => some (env.set i (some w))
def gsNil : TGsv := fun xs env => match xs with
  | [] => some env
  | _ => none
def gsCons (g : TGv) (gs : TGsv) : TGsv := fun xs env => match xs with
  | x :: r => (g (.f x) env).bind fun env1 => gs r env1
  | _ => none
def gTp (gs : TGsv) : TGv := fun w env => match w with
  | .f (.tup xs) => gs xs env
  | _ => none
theorem vg_name {i : Nat} {x : Str} (hN : X.N.Nodup) (hi : X.N[i]? = some x) (hx : Loc X.env.scope x) (hf : X.fn x = true ∨ X.env.scope.names.lookup x = some .local := by first | exact .inl rfl | exact .inr rfl | assumption) : VG X T (.Name x pos) (gNm i) := pg_weak (pg_name hN hi hx hf) fun v σ H Q h => by
  obtain ⟨Z, ι, env, st, w, env', s, re, rv, e, k⟩ := h
  cases e
  exact k _ (re.set rv i)
theorem pgs_weak {es : List Expr} {t t' : TGs} (h : PGs X es t) (w : ∀ v σ H Q, t' v σ H Q → t v σ H Q) : PGs X es t' := ⟨fun pins s σ H v u Q I r q => h.run pins s σ H v u Q I r (w v σ H Q q)⟩
theorem vgs_nil : VGs X T [] gsNil := pgs_weak pgs_nil fun vs σ H Q h => by
  obtain ⟨Z, ι, env, st, xs, env', s, re, rv, e, k⟩ := h
  cases rv with
  | nil => cases e; exact ⟨rfl, k _ re⟩
  | cons _ _ => cases e
theorem vgs_cons {es : List Expr} {g : TGv} {gs : TGsv} (h1 : VG X T e g) (h2 : VGs X T es gs)
    (hs : (assignEach (e :: es) X.env).map (·.2) = assign e X.env :: (assignEach es X.env).map (·.2) := by rfl) : VGs X T (e :: es) (gsCons g gs) := pgs_weak (pgs_cons h1 h2 hs) fun vs σ H Q h => by
  obtain ⟨Z, ι, env, st, xs, env', s, re, rv, e, k⟩ := h
  cases rv with
  | nil => cases e
  | cons r rr =>
    rename_i v x vs xs
    have e : (g (.f x) env).bind (fun env1 => gs xs env1) = some env' := e
    cases q : g (.f x) env with
    | none => rw [q] at e; cases e
    | some env1 =>
      rw [q] at e
      exact ⟨_, _, rfl, Z, ι, env, st, _, env1, s, re, .f r, q, fun σ' re' => ⟨Z, ι, env1, st, xs, env', s, re', rr, e, k⟩⟩
theorem vg_tup {es : List Expr} {k : Nat} {gs : TGsv} {n : Nat} (hc : X.calm = true) (h : VGs X T es gs) (hl : ∀ xs env env', gs xs env = some env' → xs.length = n)
    (hn : (assignEach es X.env).length = n := by rfl) (hst : (assignEach es X.env).findIdx? (·.1) = none := by rfl) : VG X T (.Tuple es k pos) (gTp gs) := pg_weak (pg_tup hc h hn hst) fun v σ H Q h => by
  obtain ⟨Z, ι, env, st, w, env', s, re, rv, e, k⟩ := h
  cases rv with
  | loc _ => cases e
  | f r =>
    cases r with
    | tup ht rs => exact ⟨_, _, rfl, same_sqt s.sub ht, by rw [rs.length]; exact hl _ _ _ e, Z, ι, env, st, _, env', s, re, rs, e, k⟩
    | _ => cases e
theorem gsNil_len {xs : List F} {env env' : Env} (h : gsNil xs env = some env') : xs.length = 0 := by
  cases xs with
  | nil => rfl
  | cons _ _ => cases h
theorem gsCons_len {g : TGv} {gs : TGsv} {n : Nat} (hl : ∀ xs env env', gs xs env = some env' → xs.length = n) : ∀ xs env env', gsCons g gs xs env = some env' → xs.length = n + 1 := by
  intro xs env env' h
  cases xs with
  | nil => cases h
  | cons x xs =>
    have h : (g (.f x) env).bind (fun env1 => gs xs env1) = some env' := h
    cases q : g (.f x) env with
    | none => rw [q] at h; cases h
    | some env1 =>
      rw [q] at h
      rw [List.length_cons, hl xs env1 env' h]
/-! ### while -/
/-! ### for -/
def Walks (K : PySem.W.Frag) (T : Tab) (Z : Hp) (ι : List Addr) (J : It) (ws : List W) : Prop := ∀ (i : Nat) Z' ι' H' st', Le Z ι Z' ι' → SimS K T Z' ι' st' H' →
  (∀ w, ws[i]? = some w → J.go i H' ∧ ∀ x H2, J.yld i H' x H2 → ∃ Z2, Grow Z' H' Z2 H2 ∧ RepW K T Z2 ι' x w) ∧ (ws[i]? = none → J.stop i H')
abbrev TIv := Env → Store → Res (List W)
def RdI (K : PySem.W.Frag) (T : Tab) (E : XK) (t : TIv) : TI := fun σ H R => ∃ Z ι env st, SimS K T Z ι st H ∧ EnvR K T Z ι σ env ∧ Post K T E Z ι (t env st) fun ws _ H' Z' ι' => ∀ J, Walks K T Z' ι' J ws → R J H'
abbrev VI (X : Cx) (T : Tab) (E : XK) (tg e : Expr) (t : TIv) : Prop := PI X tg e (RdI X.K T E t)
def forL (g : TGv) (t : TSv) : List W → TSv
  | [], env, st => .nx env st
  | w :: ws, env, st => match g w env with
    | none => .stuck
    | some env1 => match t env1 st with
      | .nx env2 st2 => forL g t ws env2 st2
      | .ct env2 st2 => forL g t ws env2 st2
      | .bk env2 st2 => .nx env2 st2
      | r => r
def sFor (ti : TIv) (g : TGv) (t : TSv) : TSv := fun env st => (ti env st).thenS fun ws st1 => forL g t ws env st1
theorem vs_for {tg iter : Expr} {body : List Stmt} {ti : TIv} {g : TGv} (hp : PassesOwn (model X.prog X.w) X.A X.env X.xe) (hc : X.calm = true) (hi : VI X T E tg iter ti) (hg : VG X T tg g) (hb : VB X T E body u)
    (hs : ∀ x, foldedSetIterable iter X.env x = pure x := by intro _; rfl) : VS X T E (.For tg iter body [] pos) (sFor ti g u) := ps_weak (ps_for hp hc hi hg hb hs) fun D σ H h => by
  obtain ⟨Z, ι, env, st, s, re, p⟩ := h
  refine ⟨Z, ι, env, st, s, re, (PostS.thenS p).imp fun ws st1 H1 Z1 ι1 l1 s1 p1 J wk => ?_⟩
  refine ⟨fun i m σ H => ∃ Z ι env st, Le Z1 ι1 Z ι ∧ SimS X.K T Z ι st H ∧ EnvR X.K T Z ι σ env ∧ m = ws.length - i ∧ PostS X.K T E Z ι (forL g u (ws.drop i) env st) D,
    ⟨ws.length, Z1, ι1, env, st1, Le.refl, s1, re.mono l1, by simp, p1⟩, fun i m σ H h => ?_⟩
  obtain ⟨Z2, ι2, env2, st2, l2, s2, re2, hm, p2⟩ := h
  have wki := wk i Z2 ι2 H st2 l2 s2
  by_cases hlt : i < ws.length
  · have e : ws[i]? = some ws[i] := by simp [hlt]
    have ed : ws.drop i = ws[i] :: ws.drop (i + 1) := (List.drop_eq_getElem_cons hlt)
    rw [ed] at p2
    obtain ⟨go, yl⟩ := wki.1 _ e
    refine .inr ⟨go, fun σ' H' => ∃ Z ι env st, Le Z1 ι1 Z ι ∧ SimS X.K T Z ι st H' ∧ EnvR X.K T Z ι σ' env ∧ PostS X.K T E Z ι (forL g u (ws.drop (i + 1)) env st) D,
      fun σ' H' ⟨Z, ι, env, st, l, s, r, p⟩ => ⟨ws.length - (i + 1), by omega, Z, ι, env, st, l, s, r, rfl, p⟩, fun x H' y => ?_⟩
    obtain ⟨Z3, gr, rx⟩ := yl x H' y
    have p2 : PostS X.K T E Z2 ι2 (match g ws[i] env2 with
      | none => .stuck
      | some env1 => match u env1 st2 with
        | .nx env2 st2 => forL g u (ws.drop (i + 1)) env2 st2
        | .ct env2 st2 => forL g u (ws.drop (i + 1)) env2 st2
        | .bk env2 st2 => .nx env2 st2
        | r => r) D := p2
    cases q : g ws[i] env2 with
    | none => rw [q] at p2; exact p2.elim
    | some env3 =>
      rw [q] at p2
      refine ⟨Z3, ι2, env2, st2, _, env3, s2.grow gr, re2.mono gr.le, rx, q, fun σ4 re4 => ?_⟩
      refine ⟨Z3, ι2, env3, st2, s2.grow gr, re4, ?_⟩
      cases q2 : u env3 st2 with
      | nx env5 st5 => simp only [q2] at p2; exact fun σ' H' Z' ι' l s' re' => ⟨Z', ι', env5, st5, (l2.trans gr.le).trans l, s', re', p2.le (gr.le.trans l)⟩
      | ct env5 st5 => simp only [q2] at p2; exact fun σ' H' Z' ι' l s' re' => ⟨Z', ι', env5, st5, (l2.trans gr.le).trans l, s', re', p2.le (gr.le.trans l)⟩
      | bk env5 st5 => simp only [q2] at p2; exact p2.le gr.le
      | rt w st5 => simp only [q2] at p2; exact p2.le gr.le
      | exc c fs st5 => simp only [q2] at p2; exact p2.le gr.le
      | stuck => simp only [q2] at p2; exact p2
  · have ed : ws.drop i = [] := by simp; omega
    rw [ed] at p2
    exact .inl ⟨wki.2 (by simp; omega), p2 σ H Z2 ι2 Le.refl s2 re2⟩
/-! ### a def -/
abbrev FnM := List W → Store → Res W
def spV (K : PySem.W.Frag) (T : Tab) (n : Nat) (m : FnM) : Sp := fun vs H Q E => ∃ Z ι ws st, SimS K T Z ι st H ∧ RepWs K T Z ι vs ws ∧ ws.length = n ∧ Post K T E Z ι (m ws st) fun w _ H' Z' ι' => ∀ v, RepW K T Z' ι' v w → Q v H'
/-- what a call leaves of the store: its own cells are dropped, a list that it hands back stands last -/
def retC (b n : Nat) (st : Store) : Option Cell → Res W
  | some c => if c.below b = true then .ok (.loc b) (st.take b ++ [c]) else .ok (.loc n) st
  | none => .ok (.loc n) st
def retW (b : Nat) (w : W) (st : Store) : Res W := match clean b (st.take b) with
  | false => .ok w st
  | true => match w with
    | .f x => .ok (.f x) (st.take b)
    | .loc n => if n < b then .ok (.loc n) (st.take b) else retC b n st st[n]?
def runFn (n : Nat) (t : TSv) : FnM := fun ws st => match t (ws.map some ++ List.replicate (n - ws.length) none) st with
  | .rt w st1 => retW st.length w st1
  | .nx _ st1 => retW st.length (.f .non) st1
  | .exc c fs st1 => .exc c fs st1
  | _ => .stuck
/-- one cell kept behind a cut -/
theorem SimS.cutTo {K : PySem.W.Frag} {Z H : Hp} {ι : List Addr} {st : Store} {b n : Nat} {a : Addr} {c : Cell} (s : SimS K T Z ι st H) (hb : b ≤ st.length) (h : clean b (st.take b) = true) (hn : b ≤ n) (hi : ι[n]? = some a) (hc : st[n]? = some c) (hl : c.below b = true) :
    SimS K T Z (ι.take b ++ [a]) (st.take b ++ [c]) H := by
  have s0 := s.cut h
  have l : Le Z (ι.take b) Z (ι.take b ++ [a]) := ⟨Same.refl Z, fun _ _ h => get_app h⟩
  have g : Grow Z H Z H := Grow.refl s.sub
  have hlen : (ι.take b).length = b := by rw [List.length_take, s.len]; omega
  have na : a ∉ ι.take b := fun hm => by
    obtain ⟨m, hm1, e⟩ := List.getElem_of_mem hm
    rw [List.getElem_take] at e
    obtain ⟨l2, e2⟩ := List.getElem?_eq_some_iff.mp hi
    have := (List.getElem_inj s.nd).mp (e.trans e2.symm)
    omega
  refine ⟨s.sub, by simp [s.len], ?_, fun m a' d h1 h2 => ?_, fun a' ha => ?_, s.tab.sub fun b hb => by
    rcases List.mem_append.mp hb with hb | hb
    · exact List.mem_of_mem_take hb
    · simp at hb; subst hb; exact List.mem_of_getElem? hi⟩
  · rw [List.nodup_append]
    exact ⟨s0.nd, by simp, fun x hx y hy => by simp at hy; subst hy; exact fun e => na (e ▸ hx)⟩
  · rcases get_app_cases h1 with h1 | ⟨rfl, rfl⟩
    · rcases get_app_cases h2 with h2 | ⟨rfl, rfl⟩
      · exact (s0.cell m a' d h1 h2).grow g l
      · exact absurd (List.getElem?_eq_some_iff.mp h1).1 (by rw [s0.len]; omega)
    · rcases get_app_cases h2 with h2 | ⟨_, rfl⟩
      · exact absurd (List.getElem?_eq_some_iff.mp h2).1 (by rw [s0.len]; omega)
      · have q := s.cell n a' d hi hc
        cases d with
        | dead => trivial
        | lstF xs => exact q
        | dct xs => exact q
        | dti xs => exact q
        | lstW xs => obtain ⟨n, vs, e, r⟩ := q; exact ⟨n, vs, e, (r.cut hl).mono l⟩
        | ins c fs => obtain ⟨n, dx, fvs, e, hk, r⟩ := q; exact ⟨n, dx, fvs, e, hk, (r.cut hl).mono l⟩
  · rcases List.mem_append.mp ha with ha | ha
    · exact s0.there a' ha
    · simp at ha
      subst ha
      exact s.there _ (List.mem_of_getElem? hi)
theorem retW_ok {K : PySem.W.Frag} {Z Z' H' : Hp} {ι ι' : List Addr} {st' : Store} {w : W} {v : V} {Q : VK} {b : Nat} (hb : ι.length = b) (l : Le Z ι Z' ι') (s : SimS K T Z' ι' st' H') (r : RepW K T Z' ι' v w)
    (h : Post K T E Z ι (retW b w st') fun w _ H' Z' ι' => ∀ v, RepW K T Z' ι' v w → Q v H') : Q v H' := by
  have hle : b ≤ st'.length := by
    rw [← s.len]
    by_cases h0 : b = 0
    · omega
    · have : ι[b - 1]? = some ι[b - 1] := by simp
      have := (List.getElem?_eq_some_iff.mp (l.i _ _ this)).1
      omega
  have lc : Le Z ι Z' (ι'.take b) := l.cut (by omega)
  have hlen : (ι'.take b).length = b := by rw [List.length_take, s.len]; omega
  unfold retW at h
  cases q : clean b (st'.take b) with
  | false => rw [q] at h; exact h H' Z' ι' l s v r
  | true =>
    rw [q] at h
    cases r with
    | f r => exact h H' Z' _ lc (s.cut q) v (.f r)
    | loc e =>
      rename_i a n
      have h : Post K T E Z ι (if n < b then Res.ok (W.loc n) (st'.take b) else retC b n st' st'[n]?) _ := h
      by_cases hn : n < b
      · rw [if_pos hn] at h
        exact h H' Z' _ lc (s.cut q) _ (.loc (by rw [List.getElem?_take_of_lt hn]; exact e))
      · rw [if_neg hn] at h
        cases qc : st'[n]? with
        | none => rw [qc] at h; exact h H' Z' ι' l s _ (.loc e)
        | some c =>
          rw [qc] at h
          unfold retC at h
          by_cases hx : c.below b = true
          · simp only [hx, if_true] at h
            exact h H' Z' (ι'.take b ++ [a]) (lc.trans ⟨Same.refl _, fun _ _ h => get_app h⟩) (s.cutTo hle q (by omega) e qc hx) _ (.loc (by rw [List.getElem?_append_right (by omega), hlen]; simp))
          · simp only [hx] at h
            exact h H' Z' ι' l s _ (.loc e)
theorem env_start {K : PySem.W.Frag} {Z : Hp} {ι : List Addr} {N : List Str} {vs : List V} {ws : List W} (r : RepWs K T Z ι vs ws) : EnvR K T Z ι (L2.start N vs) (ws.map some ++ List.replicate (N.length - ws.length) none) := by
  refine ⟨by unfold L2.start; simp [r.length], fun i w h => ?_⟩
  by_cases hi : i < ws.length
  · rw [List.getElem?_append_left (by simp; exact hi), List.getElem?_map] at h
    have hw : ws[i]? = some w := by
      cases q : ws[i]? with
      | none => rw [q] at h; cases h
      | some u => rw [q] at h; simp at h; rw [h]
    obtain ⟨v, e, rv⟩ := r.get hw
    refine ⟨v, ?_, rv⟩
    unfold L2.start
    rw [List.getElem?_append_left (by simp; rw [r.length]; exact hi), List.getElem?_map, e]
    rfl
  · rw [List.getElem?_append_right (by simp; omega)] at h
    have := List.mem_of_getElem? h
    rw [List.mem_replicate] at this
    cases this.2
theorem rd_fn {K : PySem.W.Frag} {N : List Str} {n : Nat} {vs : List V} {H : Hp} {Q : VK} {t : TSv} (h : spV K T n (runFn N.length t) vs H Q E) : RdS K T E t { nx := fun _ H' => Q .non H', rt := Q } (L2.start N vs) H := by
  obtain ⟨Z, ι, ws, st, s, r, hl, p⟩ := h
  refine ⟨Z, ι, _, st, s, env_start (N := N) r, ?_⟩
  unfold runFn at p
  cases q : t (ws.map some ++ List.replicate (N.length - ws.length) none) st with
  | nx env1 st1 => simp only [q] at p; exact fun σ' H' Z' ι' l s' _ => retW_ok s.len l s' (.f .non) p
  | rt w st1 => simp only [q] at p; exact fun v H' Z' ι' l s' rv => retW_ok s.len l s' rv p
  | bk env1 st1 => simp only [q] at p; exact p.elim
  | ct env1 st1 => simp only [q] at p; exact p.elim
  | exc c fs st1 => simp only [q] at p; exact p
  | stuck => simp only [q] at p; exact p.elim
end
end VS

set_option Elab.async false
set_option linter.all false
set_option maxRecDepth 100000
set_option maxHeartbeats 4000000
set_option autoImplicit false
/-! VD: defs and their calls, objects, cells that become data. -/
namespace VS
open PySem PySem.Spec PyProof.Rows L2

/-- a def by its body: np parameters, n names -/
def fnM (np n : Nat) (t : TSv) : FnM := fun ws st => if ws.length = np then runFn n t ws st else .stuck
def spM (K : PySem.W.Frag) (T : Tab) (m : FnM) : Sp := fun vs H Q E => ∃ Z ι ws st, SimS K T Z ι st H ∧ RepWs K T Z ι vs ws ∧ Post K T E Z ι (m ws st) fun w _ H' Z' ι' => ∀ v, RepW K T Z' ι' v w → Q v H'
/-- the def at f, called with positional arguments, does m -/
structure Fn (P : Program) (w : World) (K : PySem.W.Frag) (mg : Str → Option Value) (base : Heap) (T : Tab) (CX : CXT) (k : Nat) (f : Addr) (m : FnM) : Prop where
  ex : ∃ (fd : FuncData) (ps : List Str) (ds : List Value) (dvs : List V) (dfs : List F) (m0 : FnM), FnOk P w K mg base CX k f fd ps (spM K T m0) ∧ Binds K fd ps ds ∧ Vals dvs ds ∧ (∀ Z, RepFs K T Z dvs dfs) ∧ m = fun ws st => m0 (ws ++ dfs.map W.f) st
  kp : PySem.W.keepIn K (.ref f) = true
section
variable {P : Program} {w : World} {K : PySem.W.Frag} {mg : Str → Option Value} {base : Heap} {T : Tab} {x qual : Str} {params : Arguments} {body : List Stmt} {scope : Scope} {dvs : List V} {kws : List (Str × V)} {f : Addr} {fd : FuncData} {N ps : List Str} {k : Nat} {t : TSv}
theorem spM_len {np n : Nat} {vs : List V} {H : Hp} {Q : VK} {E : XK} (h : spM K T (fnM np n t) vs H Q E) : vs.length = np := by
  obtain ⟨Z, ι, ws, st, s, r, p⟩ := h
  unfold fnM at p
  by_cases hl : ws.length = np
  · rw [r.length, hl]
  · rw [if_neg hl] at p
    exact p.elim
theorem fn_v0 (F : FunD K x qual params body scope dvs kws f fd) (S : FnScope N ps scope)
    (hb : ∀ (cdv : Value) (A : Around) (outer : List PySem.Env) (s : Shared) (H : Hp) (E E' : XK), Room k (A.deeper (envOfC qual scope s.heap.objs.size f cdv)) → VB (cxOf CX0 P w K mg base N qual scope f cdv A outer s H E).nox T E' body t) :
    FnOk P w K mg base CX0 (k + 1) f fd ps (spM K T (fnM ps.length N.length t)) := by
  refine F.ok S (fun vs H Q E h => spM_len h) (fun cdv A outer s H vs Q E hr h => ⟨_, (hb cdv A outer s H E E hr).nox, ?_⟩)
  refine rd_fn (n := ps.length) ?_
  have hl := spM_len h
  obtain ⟨Z, ι, ws, st, s, r, p⟩ := h
  have hw : ws.length = ps.length := by rw [← r.length]; exact hl
  unfold fnM at p
  rw [if_pos hw] at p
  exact ⟨Z, ι, ws, st, s, r, hw, p⟩
theorem Fn.mono {CX : CXT} {j : Nat} {m : FnM} (F : Fn P w K mg base T CX j f m) (h : j ≤ k) : Fn P w K mg base T CX k f m := by
  obtain ⟨fd, ps, ds, dvs, dfs, m0, F0, b, v, r, e⟩ := F.ex
  exact ⟨⟨fd, ps, ds, dvs, dfs, m0, F0.mono h, b, v, r, e⟩, F.kp⟩
theorem Fn.plain {CX : CXT} {m : FnM} (F : FnOk P w K mg base CX k f fd ps (spM K T m)) (b : Binds K fd ps []) (kp : PySem.W.keepIn K (.ref f) = true) : Fn P w K mg base T CX k f m :=
  ⟨⟨fd, ps, [], [], [], m, F, b, .nil, fun _ => .nil, by simp⟩, kp⟩
theorem RepWs.map_f {Z : Hp} {ι : List Addr} {vs : List V} {xs : List F} (h : RepFs K T Z vs xs) : RepWs K T Z ι vs (xs.map W.f) := RepWs.ofFs h
end

section
variable {X : Cx} {T : Tab} {E : XK} {CX : CXT} {k : Nat} {f C : Addr} {m : FnM} {x mn : Str} {p pos apos pos' : Pos} {e o value : Expr} {es : List Expr} {te to tv : TEv} {tr : TAv}
/-! ### calls -/
def eCall (m : FnM) (t : TAv) : TEv := fun env st => (t env st).bind fun ws st1 => m ws st1
theorem ve_call (F : Fn X.prog X.w X.K X.mg X.base T CX k f m) (hr : Room k X.A) (hg : Gl X x) (hm : X.mg x = some (.ref f)) (hx : Passes CX X E)
    (ha : VA X T E (e :: es) tr) (hdb : (x == ("__debug__" : Str)) = false := by decide) (he : starEach (e :: es) X.env = (false, eval e X.env) :: starEach es X.env := by rfl) (hpl : (backTo pos (starEach es X.env)).any (·.1) = false := by rfl) :
    VE X T E (.Call (.Name x p) (e :: es) [] pos) (eCall m tr) := by
  obtain ⟨fd, ps, ds, dvs, dfs, m0, F0, b, v, r, rfl⟩ := F.ex
  refine pe_weak (pe_call F0 hr hg hm F.kp b v hx ha hdb he hpl) fun σ H Q h => ?_
  obtain ⟨Z, ι, env, st, s, re, p⟩ := h
  exact ⟨Z, ι, env, st, s, re, (Post.bind p).imp fun ws st1 H1 Z1 ι1 l1 s1 p1 vs rvs => ⟨Z1, ι1, _, st1, s1, rvs.append (RepWs.map_f (r Z1)), p1⟩⟩
/-! ### objects -/
def ofW (o : Option W) (st : Store) : Res W := match o with
  | some w => .ok w st
  | none => .stuck
theorem okf_lt {c i : Nat} (hi : T.okf c i = true) : i < T.fld.length := by
  unfold Tab.okf at hi
  split at hi
  · rw [Bool.and_eq_true] at hi; exact of_decide_eq_true hi.2
  · cases hi
end
end VS

set_option Elab.async false
set_option linter.all false
set_option maxRecDepth 100000
set_option maxHeartbeats 4000000
set_option autoImplicit false
/-! VF: displays, cells that become data, lists that change. -/
namespace VS
open PySem PySem.Spec PyProof.Rows L2

/-! ### cells become data -/
/-- a value as data; only cells from b on are opened -/
def deepF (b : Nat) (st : Store) : Nat → W → Option F
  | _, .f x => some x
  | 0, .loc _ => none
  | n + 1, .loc k => if b ≤ k then (match st[k]? with
    | some (.lstF xs) => some (.lst xs)
    | some (.dct kvs) => some (.dct kvs)
    | some (.lstW ws) => (ws.mapM (deepF b st n)).map F.lst
    | some (.ins c fs) => (fs.mapM fun p => (deepF b st n p.2).map fun x => (p.1, x)).map (F.obj c)
    | _ => none) else none
theorem RepWs.take {K : PySem.W.Frag} {T : Tab} {Z : Hp} {ι : List Addr} : ∀ {vs : List V} {xs : List W} (n : Nat), RepWs K T Z ι vs xs → RepWs K T Z ι (vs.take n) (xs.take n)
  | _, _, 0, _ => .nil
  | _, _, _ + 1, .nil => .nil
  | _, _, n + 1, .cons r t => .cons r (RepWs.take n t)
theorem RepWs.drop {K : PySem.W.Frag} {T : Tab} {Z : Hp} {ι : List Addr} : ∀ {vs : List V} {xs : List W} (n : Nat), RepWs K T Z ι vs xs → RepWs K T Z ι (vs.drop n) (xs.drop n)
  | _, _, 0, r => r
  | _, _, _ + 1, .nil => .nil
  | _, _, n + 1, .cons _ t => RepWs.drop n t
def frz (b : Nat) (w : W) (st : Store) : Res W := match deepF b st 3 w with
  | some x => if clean b (st.take b) = true then .ok (.f x) (st.take b) else .stuck
  | none => .stuck
/-- the value of t as data; the cells that t has made are dropped -/
def eFrz (t : TEv) : TEv := fun env st => (t env st).bind fun w st1 => frz st.length w st1

section
variable {K : PySem.W.Frag} {T : Tab} {Z H : Hp} {ι : List Addr} {st : Store}
/-- the frozen heap with the cells from b on in it -/
def zAll (Z H : Hp) (ι : List Addr) (b : Nat) : Hp := fun a => if a ∈ ι.drop b then H a else Z a
theorem zAll_same (s : SimS K T Z ι st H) (b : Nat) : Same Z (zAll Z H ι b) := fun a o e => by
  unfold zAll
  by_cases h : a ∈ ι.drop b
  · rw [if_pos h]; exact s.sub a o e
  · rw [if_neg h]; exact e
theorem mapM_some {α β : Type} {f : α → Option β} : ∀ {l : List α} {m : List β}, l.mapM f = some m → l.length = m.length ∧ ∀ (i : Nat) x y, l[i]? = some x → m[i]? = some y → f x = some y
  | [], m, h => by
    simp [List.mapM_nil] at h
    subst h
    exact ⟨rfl, fun i x y h => by simp at h⟩
  | x :: l, m, h => by
    rw [List.mapM_cons] at h
    cases q : f x with
    | none => rw [q] at h; cases h
    | some y =>
      rw [q] at h
      cases q2 : l.mapM f with
      | none => simp [q2] at h
      | some m' =>
        simp [q2] at h
        subst h
        obtain ⟨h1, h2⟩ := mapM_some q2
        refine ⟨by simp [h1], fun i x' y' e1 e2 => ?_⟩
        cases i with
        | zero => simp at e1 e2; subst e1 e2; exact q
        | succ i => exact h2 i x' y' (by simpa using e1) (by simpa using e2)
theorem RepFs.of_get : ∀ {vs : List V} {xs : List F}, vs.length = xs.length → (∀ (i : Nat) v x, vs[i]? = some v → xs[i]? = some x → RepF K T Z v x) → RepFs K T Z vs xs
  | [], [], _, _ => .nil
  | [], _ :: _, h, _ => by simp at h
  | _ :: _, [], h, _ => by simp at h
  | v :: vs, x :: xs, h, k => .cons (k 0 v x rfl rfl) (RepFs.of_get (by simpa using h) fun i v' x' e1 e2 => k (i + 1) v' x' (by simpa using e1) (by simpa using e2))
theorem deep_fd {b : Nat} {n : Nat} (ih : ∀ {v : V} {w : W} {x : F}, RepW K T Z ι v w → deepF b st n w = some x → RepF K T (zAll Z H ι b) v x) : ∀ {c : Nat} {fvs : List (Str × V)} {fs : List (Nat × W)} {xs : List (Nat × F)}, RepWd K T Z ι c fvs fs →
    (fs.mapM fun p => (deepF b st n p.2).map fun x => (p.1, x)) = some xs → RepFd K T (zAll Z H ι b) c fvs xs
  | _, _, _, _, .nil, h => by
    simp [List.mapM_nil] at h
    subst h
    exact .nil
  | _, _, _, _, .cons (i := i) (x := w) (xs := fs) hi r t, h => by
    rw [List.mapM_cons] at h
    cases q : deepF b st n w with
    | none => simp [q] at h
    | some y =>
      cases q2 : (fs.mapM fun p => (deepF b st n p.2).map fun x => (p.1, x)) with
      | none => simp [q2] at h
      | some m' =>
        simp [q, q2] at h
        subst h
        exact .cons hi (ih r q) (deep_fd ih t q2)
theorem deepF_ok (s : SimS K T Z ι st H) (b : Nat) : ∀ (n : Nat) {v : V} {w : W} {x : F}, RepW K T Z ι v w → deepF b st n w = some x → RepF K T (zAll Z H ι b) v x := by
  have hs := zAll_same s b
  have at_ : ∀ {k : Nat} {a : Addr}, b ≤ k → ι[k]? = some a → zAll Z H ι b a = H a := fun {k a} hb e => by
    unfold zAll
    rw [if_pos]
    refine List.mem_of_getElem? (i := k - b) ?_
    rw [List.getElem?_drop, show b + (k - b) = k by omega]
    exact e
  intro n
  induction n with
  | zero =>
    intro v w x r h
    cases r with
    | f r => cases h; exact r.mono hs
    | loc e => cases h
  | succ n ih =>
    intro v w x r h
    cases r with
    | f r => cases h; exact r.mono hs
    | loc e =>
      rename_i a k
      unfold deepF at h
      by_cases hb : b ≤ k
      · rw [if_pos hb] at h
        have ha := at_ hb e
        cases q : st[k]? with
        | none => rw [q] at h; cases h
        | some cl =>
          have kk := s.cell k a cl e q
          cases cl with
          | dead => rw [q] at h; cases h
          | lstF xs => rw [q] at h; cases h; obtain ⟨_, vs, e1, r1⟩ := kk; exact .lst (ha.trans e1) (r1.mono hs)
          | dct xs => rw [q] at h; cases h; obtain ⟨_, vs, e1, r1⟩ := kk; exact .dct (ha.trans e1) (r1.mono hs)
          | dti xs => rw [q] at h; cases h
          | lstW ws =>
            rw [q] at h
            obtain ⟨_, vs, e1, r1⟩ := kk
            have h : (ws.mapM (deepF b st n)).map F.lst = some x := h
            cases q2 : ws.mapM (deepF b st n) with
            | none => rw [q2] at h; cases h
            | some xs =>
              rw [q2] at h; cases h
              obtain ⟨hl, hk⟩ := mapM_some q2
              refine .lst (ha.trans e1) (RepFs.of_get (by rw [r1.length, hl]) fun i v' x' e2 e3 => ?_)
              have hlt : i < ws.length := by rw [hl]; exact (List.getElem?_eq_some_iff.mp e3).1
              have e4 : ws[i]? = some ws[i] := by simp [hlt]
              obtain ⟨v2, e5, r5⟩ := r1.get e4
              rw [e2] at e5; cases e5
              exact ih r5 (hk i _ _ e4 e3)
          | ins c fs =>
            rw [q] at h
            obtain ⟨_, dx, fvs, e1, hc, r1⟩ := kk
            have h : (fs.mapM fun p => (deepF b st n p.2).map fun x => (p.1, x)).map (F.obj c) = some x := h
            cases q2 : (fs.mapM fun p => (deepF b st n p.2).map fun x => (p.1, x)) with
            | none => rw [q2] at h; cases h
            | some xs =>
              rw [q2] at h; cases h
              exact .obj (ha.trans e1) hc (deep_fd ih r1 q2)
      · rw [if_neg hb] at h; cases h
theorem SimS.zall (s : SimS K T Z ι st H) {b : Nat} (h : clean b (st.take b) = true) : SimS K T (zAll Z H ι b) (ι.take b) (st.take b) H := by
  have hs := zAll_same s b
  have s0 := s.cut h
  have l : Le Z (ι.take b) (zAll Z H ι b) (ι.take b) := ⟨hs, fun _ _ h => h⟩
  have hz : ∀ a, a ∈ ι.take b → zAll Z H ι b a = Z a := fun a ha => by
    unfold zAll
    rw [if_neg]
    intro hd
    have nd := s.nd
    rw [← List.take_append_drop b ι, List.nodup_append] at nd
    exact nd.2.2 a ha a hd rfl
  refine ⟨fun a o e => ?_, s0.len, s0.nd, fun n a c h1 h2 => ?_, s0.there, s.tab.step (fun a ps e => ?_) s0.tab.ct (fun _ _ e _ => e) fun a u e hn h0 => by
    unfold zAll
    rw [if_neg fun hd => hn (List.mem_of_mem_drop hd)]
    exact h0⟩
  rotate_right
  · unfold zAll at e
    by_cases hd : a ∈ ι.drop b
    · rw [if_pos hd] at e
      exact absurd rfl ((s.tab.ct a (List.mem_of_mem_drop hd) _ e).1 ps)
    · rw [if_neg hd] at e
      exact e
  · unfold zAll at e
    by_cases hd : a ∈ ι.drop b
    · rw [if_pos hd] at e; exact e
    · rw [if_neg hd] at e; exact s.sub a o e
  · have k := s0.cell n a c h1 h2
    have hza := hz a (List.mem_of_getElem? h1)
    cases c with
    | dead => trivial
    | lstF xs => obtain ⟨n, vs, e, r⟩ := k; exact ⟨hza.trans n, vs, e, r.mono hs⟩
    | lstW xs => obtain ⟨n, vs, e, r⟩ := k; exact ⟨hza.trans n, vs, e, r.mono l⟩
    | dct xs => obtain ⟨n, vs, e, r⟩ := k; exact ⟨hza.trans n, vs, e, r.mono hs⟩
    | dti xs => obtain ⟨n, vs, e, r⟩ := k; exact ⟨hza.trans n, vs, e, r.mono hs⟩
    | ins c fs => obtain ⟨n, dx, fvs, e, hk, r⟩ := k; exact ⟨hza.trans n, dx, fvs, e, hk, r.mono l⟩
theorem frz_ok {E : XK} {Z0 : Hp} {ι0 : List Addr} {b : Nat} {w : W} {v : V} {Q : VK} (hb : ι0.length = b) (l : Le Z0 ι0 Z ι) (s : SimS K T Z ι st H) (r : RepW K T Z ι v w)
    (h : Post K T E Z0 ι0 (frz b w st) fun w _ H' Z' ι' => ∀ v, RepW K T Z' ι' v w → Q v H') : Q v H := by
  unfold frz at h
  cases q : deepF b st 3 w with
  | none => rw [q] at h; exact h.elim
  | some x =>
    rw [q] at h
    by_cases hc : clean b (st.take b) = true
    · have h : Post K T E Z0 ι0 (if clean b (st.take b) = true then Res.ok (W.f x) (st.take b) else Res.stuck) _ := h
      rw [if_pos hc] at h
      have lc := l.cut (b := b) (by omega)
      exact h H (zAll Z H ι b) (ι.take b) (lc.trans ⟨zAll_same s b, fun _ _ h => h⟩) (s.zall hc) v (.f (deepF_ok s b 3 r q))
    · have h : Post K T E Z0 ι0 (if clean b (st.take b) = true then Res.ok (W.f x) (st.take b) else Res.stuck) _ := h
      rw [if_neg hc] at h
      exact h.elim
end

section
variable {X : Cx} {T : Tab} {E : XK} {e o i value : Expr} {es : List Expr} {te to ti tv : TEv} {tr : TAv} {pos pos' apos : Pos}
theorem rd_frz {K : PySem.W.Frag} {σ : L2.St} {H : Hp} {Q : VK} (h : RdE K T E (eFrz te) σ H Q) : RdE K T E te σ H Q := by
  obtain ⟨Z, ι, env, st, s, re, p⟩ := h
  refine ⟨Z, ι, env, st, s, re, ?_⟩
  unfold eFrz at p
  cases q : te env st with
  | ok w st1 => rw [q] at p; exact fun H' Z' ι' l s' v rv => frz_ok (Z0 := Z) (ι0 := ι) s.len l s' rv p
  | exc c fs st1 => rw [q] at p; exact p
  | stuck => rw [q] at p; exact p
theorem ve_frz (h : VE X T E e te) : VE X T E e (eFrz te) := pe_weak h fun _ _ _ q => rd_frz q

/-! ### displays -/
/-- all data, and not too many -/
def small (n : Nat) : Bool := decide (n ≤ 1000000)
theorem small_line {n : Nat} (h : small n = true) : n ≤ sizeLine := Nat.le_trans (of_decide_eq_true h) (by decide)
def eTup (t : TAv) : TEv := fun env st => (t env st).bind fun ws st1 => match allF ws with
  | some xs => if small xs.length = true then .ok (.f (.tup xs)) st1 else .stuck
  | none => .stuck
theorem ve_tup {x1 : Nat} (h : VA X T E es tr) : VE X T E (.Tuple es x1 pos) (eTup tr) := pe_weak (pe_tup h) fun σ H Q h => by
  obtain ⟨Z, ι, env, st, s, re, p⟩ := h
  refine ⟨Z, ι, env, st, s, re, (Post.bind p).imp fun ws st1 H1 Z1 ι1 l1 s1 p1 vs rvs => ?_⟩
  cases q : allF ws with
  | none => simp only [q] at p1; exact p1.elim
  | some xs =>
    simp only [q] at p1
    by_cases hs : small xs.length = true
    · rw [if_pos hs] at p1
      have rs := rvs.allF q
      refine ⟨small_line (by rw [rs.length]; exact hs), fun a ha => ?_⟩
      have g := Grow.laid (o := .tup vs) s1.sub ha
      exact p1 _ _ _ g.le (s1.grow g) _ (.f (.tup (SqT.of upd_same) (rs.mono g.z)))
    · rw [if_neg hs] at p1; exact p1.elim
/-- a list as data -/
def eLst (t : TAv) : TEv := fun env st => (t env st).bind fun ws st1 => match allF ws with
  | some xs => if small xs.length = true then .ok (.f (.lst xs)) st1 else .stuck
  | none => .stuck
theorem ve_lst (h : VA X T E es tr) : VE X T E (.List es pos) (eLst tr) := pe_weak (pe_lst h) fun σ H Q h => by
  obtain ⟨Z, ι, env, st, s, re, p⟩ := h
  refine ⟨Z, ι, env, st, s, re, (Post.bind p).imp fun ws st1 H1 Z1 ι1 l1 s1 p1 vs rvs => ?_⟩
  cases q : allF ws with
  | none => simp only [q] at p1; exact p1.elim
  | some xs =>
    simp only [q] at p1
    by_cases hs : small xs.length = true
    · rw [if_pos hs] at p1
      have rs := rvs.allF q
      refine ⟨small_line (by rw [rs.length]; exact hs), fun a ha => ?_⟩
      have g := Grow.laid (o := .lst vs) s1.sub ha
      exact p1 _ _ _ g.le (s1.grow g) _ (.f (.lst upd_same (rs.mono g.z)))
    · rw [if_neg hs] at p1; exact p1.elim
/-- a list as a cell -/
def cellOf (ws : List W) : Cell := match allF ws with
  | some xs => .lstF xs
  | none => .lstW ws
def eLstM (t : TAv) : TEv := fun env st => (t env st).bind fun ws st1 => if small ws.length = true then .ok (.loc st1.length) (st1 ++ [cellOf ws]) else .stuck
theorem last_get {α : Type} (l : List α) (a : α) : (l ++ [a])[l.length]? = some a := by simp
theorem ve_lstM (h : VA X T E es tr) : VE X T E (.List es pos) (eLstM tr) := pe_weak (pe_lst h) fun σ H Q h => by
  obtain ⟨Z, ι, env, st, s, re, p⟩ := h
  refine ⟨Z, ι, env, st, s, re, (Post.bind p).imp fun ws st1 H1 Z1 ι1 l1 s1 p1 vs rvs => ?_⟩
  by_cases hs : small ws.length = true
  · rw [if_pos hs] at p1
    refine ⟨small_line (by rw [rvs.length]; exact hs), fun a ha => ?_⟩
    have hz := free_sub s1.sub ha
    have s2 := s1.alloc (c := cellOf ws) (o := .lst vs) ha (by
      unfold cellOf
      cases q : allF ws with
      | none => exact ⟨hz, vs, upd_same, rvs.mono Le.alloc⟩
      | some xs => exact ⟨hz, vs, upd_same, rvs.allF q⟩)
    exact p1 _ _ _ Le.alloc s2 _ (.loc (by rw [← s1.len]; exact last_get _ _))
  · rw [if_neg hs] at p1; exact p1.elim

/-! ### methods of built-in types that change a cell -/
/-- what is handed back, the new cell -/
abbrev CellOp := Cell → List W → Option (W × Cell)
def isCell (d : Bool) : Option Cell → Bool
  | some (.lstF _) => !d
  | some (.lstW _) => !d
  | some (.dct _) => d
  | _ => false
def doCell (g : CellOp) (n : Nat) (ws : List W) (st : Store) : Res W := match st[n]? with
  | some c => (match g c ws with
    | some (w, c') => .ok w (st.set n c')
    | none => .stuck)
  | none => .stuck
/-- o.m(..), o a list's (d: a dict's) cell -/
def eMut (d : Bool) (g : CellOp) (to : TEv) (t : TAv) : TEv := fun env st => (to env st).bind fun o st1 => match o with
  | .loc n => if isCell d st1[n]? = true then (t env st1).bind fun ws st2 => doCell g n ws st2 else .stuck
  | _ => .stuck
/-- what a method's rule r does to a cell -/
def MutOk (X : Cx) (T : Tab) (r : V → List V → Hp → VK → Prop) (g : CellOp) : Prop :=
  ∀ (Z H : Hp) (ι : List Addr) (a : Addr) (c c' : Cell) (ws : List W) (w : W) (vs : List V) (Q : VK), Same Z H → CellOk X.K T Z ι H a c → RepWs X.K T Z ι vs ws → g c ws = some (w, c') →
    (∀ v o, RepW X.K T Z ι v w → CellOk X.K T Z ι (upd H a o) a c' → Z a = none → Hard o → Q v (upd H a o)) → r (.ref a) vs H Q
theorem tyV_cell {K : PySem.W.Frag} {Z H : Hp} {ι : List Addr} {a : Addr} {c : Cell} {d : Bool} (k : CellOk K T Z ι H a c) (h : isCell d (some c) = true) : tyV K (if d = true then "dict" else "list") (.ref a) H := by
  cases c with
  | dead => cases h
  | ins c fs => cases h
  | lstF xs => cases d with
    | true => cases h
    | false => obtain ⟨_, vs, e, _⟩ := k; exact .inl ⟨rfl, vs, SqL.of e⟩
  | lstW xs => cases d with
    | true => cases h
    | false => obtain ⟨_, vs, e, _⟩ := k; exact .inl ⟨rfl, vs, SqL.of e⟩
  | dti xs => cases h
  | dct xs => cases d with
    | false => cases h
    | true => obtain ⟨_, vs, e, _⟩ := k; exact .inr (.inr (.inl ⟨rfl, .inl ⟨vs, e⟩⟩))
theorem rd_mut {d : Bool} {r : V → List V → Hp → VK → Prop} {g : CellOp} (hm : MutOk X T r g) {σ : L2.St} {H : Hp} {Q : VK} (h : RdE X.K T E (eMut d g to tr) σ H Q) : tBM X.K (if d = true then "dict" else "list") r (RdE X.K T E to) (RdA X.K T E tr) σ H Q := by
  obtain ⟨Z, ι, env, st, s, re, p⟩ := h
  refine ⟨Z, ι, env, st, s, re, (Post.bind p).imp fun w st1 H1 Z1 ι1 l1 s1 p1 v rv => ?_⟩
  cases rv with
  | f rv => exact p1.elim
  | loc e =>
    rename_i a n
    have p1 : Post X.K T E Z1 ι1 (if isCell d st1[n]? = true then (tr env st1).bind fun ws st2 => doCell g n ws st2 else .stuck) _ := p1
    by_cases hc : isCell d st1[n]? = true
    · rw [if_pos hc] at p1
      cases q : st1[n]? with
      | none => rw [q] at hc; cases hc
      | some c =>
        rw [q] at hc
        refine ⟨tyV_cell (s1.cell n a c e q) hc, Z1, ι1, env, st1, s1, re.mono l1, (Post.bind p1).imp fun ws st2 H2 Z2 ι2 l2 s2 p2 vs rvs => ?_⟩
        have e2 := l2.i _ _ e
        unfold doCell at p2
        cases q2 : st2[n]? with
        | none => simp only [q2] at p2; exact p2.elim
        | some c2 =>
          simp only [q2] at p2
          cases q3 : g c2 ws with
          | none => simp only [q3] at p2; exact p2.elim
          | some wc =>
            obtain ⟨w, c'⟩ := wc
            simp only [q3] at p2
            exact hm Z2 H2 ι2 a c2 c' ws w vs Q s2.sub (s2.cell n a c2 e2 q2) rvs q3 fun v o rv ok hz hd => p2 _ Z2 ι2 Le.refl (s2.write e2 hz ok hd) v rv
    · rw [if_neg hc] at p1; exact p1.elim
variable {name : Str} {id : String} {cpos : Pos}
/-- o.m(e, ..) on a list's cell -/
theorem ve_mutL {r : V → List V → Hp → VK → Prop} {g : CellOp} (slot : Slot "list" name id) (hty : typeOf (.builtin id) = pure (.type "method_descriptor")) (hr : MtR X id r) (hm : MutOk X T r g) (ho : VE X T E o to) (ha : VA X T E (e :: es) tr)
    (hbase : attributeBase o name X.env (eval o X.env) = eval o X.env := by rfl)
    (hfew : ((backTo cpos (starEach (e :: es) X.env)).all (fun x => !x.1) && (backToKw cpos (keywordEach [] X.env)).all (fun x => x.1.isSome)
      && decide ((e :: es).length + ([] : List Keyword).length + (if ([] : List Keyword).isEmpty then 0 else 1) < 30)) = true := by rfl)
    (hline : (apos.endLine == cpos.line) = true := by rfl) (hs : starEach (e :: es) X.env = (false, eval e X.env) :: starEach es X.env := by rfl) (hplain : (backTo cpos (starEach es X.env)).any (·.1) = false := by rfl) :
    VE X T E (.Call (.Attribute o name apos) (e :: es) [] cpos) (eMut false g to tr) :=
  pe_weak (pe_bm PySem.F.plainAttrs_list slot hty hr ho ha hbase hfew hline hs hplain) fun _ _ _ h => rd_mut (d := false) hm h
/-! the operations -/
def cAppend : CellOp := fun c ws => match c, ws with
  | .lstF xs, [.f x] => if small (xs.length + 1) = true then some (.f .non, .lstF (xs ++ [x])) else none
  | .lstF xs, [.loc n] => if small (xs.length + 1) = true then some (.f .non, .lstW (xs.map W.f ++ [.loc n])) else none
  | .lstW xs, [w] => if small (xs.length + 1) = true then some (.f .non, .lstW (xs ++ [w])) else none
  | _, _ => none
theorem ifSome {α : Type} {p : Prop} [Decidable p] {a b : α} (h : (if p then some a else none) = some b) : p ∧ a = b := by
  by_cases hp : p
  · rw [if_pos hp] at h; exact ⟨hp, Option.some.inj h⟩
  · rw [if_neg hp] at h; cases h
theorem small_app {n : Nat} (h : small (n + 1) = true) : n < sizeLine := Nat.lt_of_lt_of_le (Nat.lt_succ_self n) (small_line h)
/-- xs.extend(ys), ys data -/
def cExtend : CellOp := fun c ws => match c, ws with
  | .lstF xs, [.f (.lst ys)] => if small (xs.length + ys.length) = true then some (.f .non, .lstF (xs ++ ys)) else none
  | _, _ => none
theorem mut_extend : MutOk X T rExtend cExtend := by
  intro Z H ι a c c' ws w vs Q s k r h q
  cases c with
  | lstF xs =>
    obtain ⟨hz, us, e, ru⟩ := k
    cases r with
    | nil => cases h
    | cons r1 r2 =>
      cases r1 with
      | loc _ => cases h
      | f r1 =>
        cases r1 with
        | lst e2 rs =>
          cases r2 with
          | cons _ _ => cases h
          | nil =>
            obtain ⟨hs, h⟩ := ifSome h
            cases h
            exact ⟨a, _, us, _, rfl, rfl, e, s _ _ e2, by rw [ru.length, rs.length]; exact small_line hs, q _ _ (.f .non) ⟨hz, _, upd_same, ru.append rs⟩ hz ⟨fun _ => nofun, fun _ => nofun⟩⟩
        | _ => cases h
  | lstW xs => cases h
  | dead => cases h
  | dct _ => cases h
  | dti _ => cases h
  | ins _ _ => cases h
theorem ve_extend (ho : VE X T E o to) (he : VE X T E e te) (hbase : attributeBase o "extend" X.env (eval o X.env) = eval o X.env := by rfl)
    (hline : (apos.endLine == cpos.line) = true := by rfl) (hs : starEach [e] X.env = [(false, eval e X.env)] := by rfl) :
    VE X T E (.Call (.Attribute o "extend" apos) [e] [] cpos) (eMut false cExtend to (aCons te aNil)) :=
  ve_mutL PySem.F.slot_list_extend PySem.F.type_list_extend mt_extend mut_extend ho (va_cons he va_nil hs) hbase (by rw [hs]; rfl) hline hs rfl
end
end VS

set_option Elab.async false
set_option linter.all false
set_option maxRecDepth 100000
set_option maxHeartbeats 4000000
set_option autoImplicit false
/-! VG: operations on plain data. -/
namespace VS
open PySem PySem.Spec PyProof.Rows L2
section
variable {K : PySem.W.Frag} {T : Tab} {Z H : Hp} {x : V}
theorem View.int {i : Int} (h : View K T Z H x (.int i)) : x = .int i := by cases h with | f r => cases r; rfl
theorem View.bl {i : Bool} (h : View K T Z H x (.bl i)) : x = .bl i := by cases h with | f r => cases r; rfl
theorem View.str {i : List Nat} (h : View K T Z H x (.str i)) : x = .str (S i) := by cases h with | f r => cases r; rfl
theorem View.non (h : View K T Z H x .non) : x = .non := by cases h with | f r => cases r; rfl
theorem View.lst' {xs : List F} (h : View K T Z H x (.lst xs)) (s : Same Z H) : ∃ a vs, x = .ref a ∧ H a = some (.lst vs) ∧ RepFs K T Z vs xs := by
  cases h with
  | f r => cases r with | lst e rs => exact ⟨_, _, rfl, s _ _ e, rs⟩
  | lst e rs => exact ⟨_, _, rfl, e, rs⟩
theorem View.tup' {xs : List F} (h : View K T Z H x (.tup xs)) : ∃ a vs, x = .ref a ∧ SqT K Z a vs ∧ RepFs K T Z vs xs := by
  cases h with | f r => cases r with | tup e rs => exact ⟨_, _, rfl, e, rs⟩
theorem View.dct' {xs : List (F × F)} (h : View K T Z H x (.dct xs)) (s : Same Z H) : ∃ a vs, x = .ref a ∧ H a = some (.dK vs) ∧ RepFk K T Z vs xs := by
  cases h with
  | f r => cases r with | dct e rs => exact ⟨_, _, rfl, s _ _ e, rs⟩
  | dct e rs => exact ⟨_, _, rfl, e, rs⟩
theorem S_len (l : List Nat) : (S l).length = l.length := by show l.toArray.size = _; simp
theorem S_app (a b : List Nat) : S a ++ S b = S (a ++ b) := by
  show Str.mk (a.toArray ++ b.toArray) = Str.mk (a ++ b).toArray
  simp
theorem S_inj {a b : List Nat} : S a = S b ↔ a = b := ⟨fun h => by
  have : a.toArray = b.toArray := congrArg Str.cps h
  simpa using this, fun h => by rw [h]⟩
theorem S_list (l : List Nat) : (S l).cps.toList = l := by show l.toArray.toList = l; simp
end

section
variable {X : Cx} {T : Tab}
/-! ### arithmetic -/
def addF : F → F → Option F
  | .int i, .int j => some (.int (i + j))
  | .str a, .str b => if small (a.length + b.length) = true then some (.str (a ++ b)) else none
  | .lst xs, .lst ys => if small (xs.length + ys.length) = true then some (.lst (xs ++ ys)) else none
  | .tup xs, .tup ys => if small (xs.length + ys.length) = true then some (.tup (xs ++ ys)) else none
  | _, _ => none
def rAddF (K : PySem.W.Frag) : R2 := fun x y H Q => (rI0 (fun i j => .int (i + j)) x y H Q ∨ ∃ i j, x = .str i ∧ y = .str j ∧ i.length + j.length ≤ sizeLine ∧ Q (.str (i ++ j)) H) ∨ (rCat x y H Q ∨ rCatA K x y H Q)
theorem or_add : OpR X (binaryOp .Add) (rAddF X.K) := OpR.or (OpR.or op_add op_add_str) (OpR.or op_cat op_catA)
theorem o2_add : Op2 X T (rAddF X.K) addF := by
  intro Z H x y fx fy z Q s vx vy h g
  cases fx with
  | int i => cases fy with
    | int j => cases h; cases vx.int; cases vy.int; exact .inl (.inl ⟨i, j, rfl, rfl, g.here s (.int _)⟩)
    | _ => cases h
  | str a => cases fy with
    | str b =>
      obtain ⟨hs, h⟩ := ifSome h
      cases h; cases vx.str; cases vy.str
      exact .inl (.inr ⟨_, _, rfl, rfl, by rw [S_len, S_len]; exact small_line hs, by rw [S_app]; exact g.here s (.str _)⟩)
    | _ => cases h
  | lst xs => cases fy with
    | lst ys =>
      obtain ⟨hs, h⟩ := ifSome h
      cases h
      obtain ⟨a, vs, rfl, e1, r1⟩ := vx.lst' s
      obtain ⟨b, us, rfl, e2, r2⟩ := vy.lst' s
      refine .inr (.inl ⟨a, b, vs, us, rfl, rfl, e1, e2, by rw [r1.length, r2.length]; exact small_line hs, fun p hp => g.new s hp ?_⟩)
      have gr := Grow.laid (o := .lst (vs ++ us)) s hp
      exact .lst upd_same ((r1.append r2).mono gr.z)
    | _ => cases h
  | tup xs => cases fy with
    | tup ys =>
      obtain ⟨hs, h⟩ := ifSome h
      cases h
      obtain ⟨a, vs, rfl, e1, r1⟩ := vx.tup'
      obtain ⟨b, us, rfl, e2, r2⟩ := vy.tup'
      refine .inr (.inr ⟨a, b, vs, us, rfl, rfl, same_sqt s e1, same_sqt s e2, by rw [r1.length, r2.length]; exact small_line hs, fun h0 => ?_, fun h0 h1 => ?_, fun h0 h1 p hp => ?_⟩)
      · subst h0
        cases r1
        exact g.here s (.tup e2 r2)
      · subst h1
        cases r2
        rw [List.append_nil] at g
        exact g.here s (.tup e1 r1)
      · have gr := Grow.laid (o := .tup (vs ++ us)) s hp
        exact g.new s hp (.tup (SqT.of upd_same) ((r1.append r2).mono gr.z))
    | _ => cases h
  | _ => cases h
/-- bits -/
def bitsI (i : Int) : Nat := i.natAbs.log2
def repS (n : Int) (s : List Nat) : List Nat := (List.replicate n.toNat s).flatten
def mulF : F → F → Option F
  | .int i, .int j => if (decide (-(2 ^ 64) < i) && decide (i < 2 ^ 64)) = true ∨ (decide (-(2 ^ 64) < j) && decide (j < 2 ^ 64)) = true ∨ bitsI i + bitsI j < 1000000 then some (.int (i * j)) else none
  | .str a, .int n => if decide (-1000000 ≤ n) = true ∧ decide (n ≤ 1000000) = true ∧ small (a.length * n.toNat) = true then some (.str (repS n a)) else none
  | .lst xs, .int n => if decide (-1000000 ≤ n) = true ∧ decide (n ≤ 1000000) = true ∧ small (xs.length * n.toNat) = true then some (.lst (List.replicate n.toNat xs).flatten) else none
  | _, _ => none
theorem foldl_app (l : List Nat) : ∀ (n : Nat) (acc : Array Nat), (List.replicate n l.toArray).foldl (· ++ ·) acc = acc ++ ((List.replicate n l).flatten).toArray
  | 0, acc => by simp
  | n + 1, acc => by
    rw [List.replicate_succ, List.foldl_cons, foldl_app l n, List.replicate_succ, List.flatten_cons]
    simp
theorem op_mul_str : OpR X (binaryOp .Mult) (fun x y H Q => ∃ (a : List Nat) (n : Int), x = .str (S a) ∧ y = .int n ∧ -1000000 ≤ n ∧ n ≤ 1000000 ∧ small (a.length * n.toNat) = true ∧ Q (.str (S (repS n a))) H) := by
  intro pins s σ H x y v u Q I rx ry h
  obtain ⟨a, n, rfl, rfl, h1, h2, hs, q⟩ := h
  obtain ⟨t, rfl⟩ := rx
  obtain ⟨t', rfl⟩ := ry
  have hl : (S a).length = a.length := S_len a
  have hz : a.length * n.toNat ≤ 1000000 := of_decide_eq_true hs
  have e0 : ∀ {z : Str}, z = S (repS n a) → ∀ (tk : Tok) (k : Nat), EP X pins σ Q (.str z tk) { s with toks := k } := fun {z} e tk k => ⟨.str z, H, I.tok _, ⟨tk, rfl⟩, by rw [e]; exact q⟩
  refine PySem.P.mul_str (by rw [decide_eq_false (by omega), decide_eq_false (by omega)]; rfl) (fun hn h01 => ?_) (fun hn h01 => ?_) ?_
  · intro hgt
    have hn0 : (0 : Int) < n := by omega
    have : (2 ^ 63 - 1 : Int) < ((S a).length : Int) * n := by
      have := Int.lt_mul_of_ediv_lt hn0 hgt
      exact this
    have e1 : ((S a).length : Int) * n = ((a.length * n.toNat : Nat) : Int) := by
      rw [hl, Int.natCast_mul, Int.toNat_of_nonneg (by omega)]
    rw [e1] at this
    omega
  · show Builtin.Str.tooLong ((S a).length * n.toNat) = false
    rw [hl]
    unfold Builtin.Str.tooLong
    exact decide_eq_false (by have : (1000000 : Nat) ≤ sizeLine := by decide
                              omega)
  · by_cases hn : n < 1
    · rw [if_pos hn]
      refine ⟨by decide, e0 ?_ _ _⟩
      have : n.toNat = 0 := by omega
      unfold repS
      rw [this]
      rfl
    · rw [if_neg hn]
      by_cases h01 : (n == 1 || (S a).length == 0) = true
      · rw [if_pos h01]
        have e1 : S a = S (repS n a) := by
          rw [Bool.or_eq_true] at h01
          unfold repS
          rcases h01 with h | h
          · have : n = 1 := by simpa using h
            subst this
            simp
          · have : a.length = 0 := by rw [← hl]; simpa using h
            have : a = [] := List.length_eq_zero_iff.mp this
            subst this
            simp
        exact e0 e1 t s.toks
      · rw [if_neg h01]
        refine ⟨?_, e0 ?_ _ _⟩
        · show (Str.mk _).cps.size ≤ sizeLine
          rw [show (S a).cps = a.toArray from rfl, foldl_app]
          have : ((List.replicate n.toNat a).flatten).length = n.toNat * a.length := by simp
          simp only [Array.empty_append, List.size_toArray, this]
          rw [Nat.mul_comm]
          have : (1000000 : Nat) ≤ sizeLine := by decide
          omega
        · unfold S repS
          rw [show (Str.mk a.toArray).cps = a.toArray from rfl, foldl_app]
          simp
def rMulF : R2 := fun x y H Q => (rI CMul (fun i j => .int (i * j)) x y H Q ∨ rI CMulW (fun i j => .int (i * j)) x y H Q) ∨ ((∃ (a : List Nat) (n : Int), x = .str (S a) ∧ y = .int n ∧ -1000000 ≤ n ∧ n ≤ 1000000 ∧ small (a.length * n.toNat) = true ∧ Q (.str (S (repS n a))) H) ∨ rRep x y H Q)
theorem or_mul : OpR X (binaryOp .Mult) rMulF := OpR.or (OpR.or op_mul op_mulW) (OpR.or op_mul_str op_rep)
theorem o2_mul : Op2 X T rMulF mulF := by
  intro Z H x y fx fy z Q s vx vy h g
  cases fx with
  | int i => cases fy with
    | int j =>
      obtain ⟨hc, h⟩ := ifSome h
      cases h; cases vx.int; cases vy.int
      rcases hc with hc | hc | hc
      · rw [Bool.and_eq_true] at hc
        exact .inl (.inl ⟨i, j, rfl, rfl, .inl ⟨of_decide_eq_true hc.1, of_decide_eq_true hc.2⟩, g.here s (.int _)⟩)
      · rw [Bool.and_eq_true] at hc
        exact .inl (.inl ⟨i, j, rfl, rfl, .inr ⟨of_decide_eq_true hc.1, of_decide_eq_true hc.2⟩, g.here s (.int _)⟩)
      · exact .inl (.inr ⟨i, j, rfl, rfl, hc, g.here s (.int _)⟩)
    | _ => cases h
  | str a => cases fy with
    | int n =>
      obtain ⟨hc, h⟩ := ifSome h
      cases h; cases vx.str; cases vy.int
      exact .inr (.inl ⟨a, n, rfl, rfl, of_decide_eq_true hc.1, of_decide_eq_true hc.2.1, hc.2.2, g.here s (.str _)⟩)
    | _ => cases h
  | lst xs => cases fy with
    | int n =>
      obtain ⟨hc, h⟩ := ifSome h
      cases h; cases vy.int
      obtain ⟨a, vs, rfl, e1, r1⟩ := vx.lst' s
      have b1 : -1000000 ≤ n := of_decide_eq_true hc.1
      have b2 : n ≤ 1000000 := of_decide_eq_true hc.2.1
      refine .inr (.inr ⟨a, n, vs, rfl, rfl, e1, by omega, by omega, by rw [r1.length]; exact small_line hc.2.2, fun p hp => g.new s hp ?_⟩)
      have gr := Grow.laid (o := .lst (List.replicate n.toNat vs).flatten) s hp
      exact .lst upd_same ((r1.rep n.toNat).mono gr.z)
    | _ => cases h
  | _ => cases h
def fdivF : F → F → Option F
  | .int i, .int j => if 0 < j ∧ bitsI j < 9000 then some (.int (i / j)) else none
  | _, _ => none
theorem o2_fdiv : Op2 X T (rI CDivW fun i j => .int (i / j)) fdivF := by
  intro Z H x y fx fy z Q s vx vy h g
  cases fx with
  | int i => cases fy with
    | int j => obtain ⟨hc, h⟩ := ifSome h; cases h; cases vx.int; cases vy.int; exact ⟨i, j, rfl, rfl, hc, g.here s (.int _)⟩
    | _ => cases h
  | _ => cases h
def modF : F → F → Option F
  | .int i, .int j => if 0 < j then some (.int (i % j)) else none
  | _, _ => none
theorem o2_mod : Op2 X T (rI (fun _ j => 0 < j) fun i j => .int (i % j)) modF := by
  intro Z H x y fx fy z Q s vx vy h g
  cases fx with
  | int i => cases fy with
    | int j => obtain ⟨hc, h⟩ := ifSome h; cases h; cases vx.int; cases vy.int; exact ⟨i, j, rfl, rfl, hc, g.here s (.int _)⟩
    | _ => cases h
  | _ => cases h
def powF : F → F → Option F
  | .int i, .int j => if 0 ≤ j ∧ j ≤ 1000 ∧ i.natAbs < 2 ^ 64 then some (.int (i ^ j.toNat)) else none
  | _, _ => none
theorem o2_pow : Op2 X T (rI CPow fun i j => .int (i ^ j.toNat)) powF := by
  intro Z H x y fx fy z Q s vx vy h g
  cases fx with
  | int i => cases fy with
    | int j =>
      obtain ⟨hc, h⟩ := ifSome h; cases h; cases vx.int; cases vy.int
      exact ⟨i, j, rfl, rfl, ⟨hc.1, by have := hc.2.1; omega, hc.2.2⟩, g.here s (.int _)⟩
    | _ => cases h
  | _ => cases h
def negF : F → Option F
  | .int i => some (.int (-i))
  | _ => none
theorem o1_neg : Op1 X T (rU fun i => .int (-i)) negF := by
  intro Z H x fx z Q s vx h g
  cases fx with
  | int i => cases h; cases vx.int; exact ⟨i, rfl, g.here s (.int _)⟩
  | _ => cases h
/-! ### comparisons -/
def cmpF (p : Int → Int → Bool) : F → F → Option F
  | .int i, .int j => some (.bl (p i j))
  | _, _ => none
theorem o2_cmp {p : Int → Int → Bool} : Op2 X T (rI0 fun i j => .bl (p i j)) (cmpF p) := by
  intro Z H x y fx fy z Q s vx vy h g
  cases fx with
  | int i => cases fy with
    | int j => cases h; cases vx.int; cases vy.int; exact ⟨i, j, rfl, rfl, g.here s (.bl _)⟩
    | _ => cases h
  | _ => cases h
abbrev gtF := cmpF fun i j => decide (j < i)
abbrev geF := cmpF fun i j => decide (j ≤ i)
/-! equality: scalars, and data of any depth -/
mutual
def toD : F → Option PyData
  | .non => some .none
  | .bl b => some (.bool b)
  | .int i => some (.int i)
  | .str s => some (.str (S s))
  | .lst xs => (toDs xs).map PyData.list
  | .tup xs => (toDs xs).map PyData.tuple
  | .dct _ => none
  | .dlk _ _ => none
  | .ktp _ => none
  | .obj _ _ => none
  | .scr _ => none
  | .exn _ _ => none
def toDs : List F → Option (List PyData)
  | [] => some []
  | x :: xs => (toD x).bind fun d => (toDs xs).map fun ds => d :: ds
end
theorem opt_map_some {α β : Type} {f : α → β} {o : Option α} {b : β} (h : o.map f = some b) : ∃ a, o = some a ∧ f a = b := by
  cases o with
  | none => cases h
  | some a => cases h; exact ⟨a, rfl, rfl⟩
theorem opt_bind_some {α β : Type} {f : α → Option β} {o : Option α} {b : β} (h : o.bind f = some b) : ∃ a, o = some a ∧ f a = some b := by
  cases o with
  | none => cases h
  | some a => exact ⟨a, rfl, h⟩
mutual
theorem RepF.dp {K : PySem.W.Frag} {Z H : Hp} (s : Same Z H) : ∀ {v : V} {x : F} {d : PyData}, RepF K T Z v x → toD x = some d → Dp K H v d
  | _, _, _, .non, h => by cases h; exact .non
  | _, _, _, .bl b, h => by cases h; exact .bl b
  | _, _, _, .int i, h => by cases h; exact .int i
  | _, _, _, .str z, h => by cases h; exact .str _
  | _, _, _, .tup e r, h => by
    obtain ⟨ds, e2, rfl⟩ := opt_map_some (show (toDs _).map PyData.tuple = some _ from by simpa only [toD] using h)
    exact .tup (same_sqt s e) (RepFs.dp s r e2)
  | _, _, _, .lst e r, h => by
    obtain ⟨ds, e2, rfl⟩ := opt_map_some (show (toDs _).map PyData.list = some _ from by simpa only [toD] using h)
    exact .lst (SqL.of (s _ _ e)) (RepFs.dp s r e2)
  | _, _, _, .dct _ _, h => by simp only [toD] at h; cases h
  | _, _, _, .dlt _ _, h => by simp only [toD] at h; cases h
  | _, _, _, .ktp _ _, h => by simp only [toD] at h; cases h
  | _, _, _, .dlu _ _, h => by simp only [toD] at h; cases h
  | _, _, _, .obj _ _ _, h => by simp only [toD] at h; cases h
  | _, _, _, .scr _, h => by simp only [toD] at h; cases h
  | _, _, _, .exn0 _ _, h => by simp only [toD] at h; cases h
  | _, _, _, .exn1 _ _ _ _, h => by simp only [toD] at h; cases h
theorem RepFs.dp {K : PySem.W.Frag} {Z H : Hp} (s : Same Z H) : ∀ {v : List V} {x : List F} {d : List PyData}, RepFs K T Z v x → toDs x = some d → DpAll K H v d
  | _, _, _, .nil, h => by cases h; exact .nil
  | _, _, _, .cons r t, h => by
    obtain ⟨d, e1, h⟩ := opt_bind_some (show (toD _).bind _ = some _ from by simpa only [toDs] using h)
    obtain ⟨ds, e2, rfl⟩ := opt_map_some h
    exact .cons (RepF.dp s r e1) (RepFs.dp s t e2)
end
theorem View.dp {K : PySem.W.Frag} {Z H : Hp} (s : Same Z H) {v : V} {x : F} {d : PyData} (h : View K T Z H v x) (e : toD x = some d) : Dp K H v d := by
  cases h with
  | f r => exact r.dp s e
  | lst e1 r =>
    obtain ⟨ds, e2, rfl⟩ := opt_map_some (show (toDs _).map PyData.list = some _ from by simpa only [toD] using e)
    exact .lst (SqL.of e1) (RepFs.dp s r e2)
  | dct _ _ => simp only [toD] at e; cases e
/-- == of data -/
def eqD (x y : F) : Option Bool := (toD x).bind fun a => (toD y).bind fun b => if (SeqAt.shaped a && SeqAt.shaped b) = true then some (PyData.eqv a b) else none
def eqB : F → F → Option Bool
  | .int i, .int j => some (decide (i = j))
  | .str a, .str b => some (decide (a = b))
  | .bl a, .bl b => some (decide (a = b))
  | x, y => eqD x y
def eqF (x y : F) : Option F := (eqB x y).map F.bl
def neF (x y : F) : Option F := (eqB x y).map fun b => F.bl (!b)
def rEqF (K : PySem.W.Frag) : R2 := fun x y H Q => rEq x y H Q ∨ rEqD K x y H Q
def rNeF (K : PySem.W.Frag) : R2 := fun x y H Q => rNe x y H Q ∨ rNeD K x y H Q
theorem or_eq (hu : X.A.units + 64 < cLine) : OpR X (compareOp .Eq) (rEqF X.K) := OpR.or op_eq (op_eqD hu)
theorem or_ne (hu : X.A.units + 64 < cLine) : OpR X (compareOp .NotEq) (rNeF X.K) := OpR.or op_ne (op_neD hu)
theorem eqB_cases {x y : F} {b : Bool} (h : eqB x y = some b) : (∃ i j, x = .int i ∧ y = .int j ∧ b = decide (i = j)) ∨ (∃ i j, x = .str i ∧ y = .str j ∧ b = decide (i = j)) ∨ (∃ i j, x = .bl i ∧ y = .bl j ∧ b = decide (i = j)) ∨ eqD x y = some b := by
  unfold eqB at h
  split at h
  · cases h; exact .inl ⟨_, _, rfl, rfl, rfl⟩
  · cases h; exact .inr (.inl ⟨_, _, rfl, rfl, rfl⟩)
  · cases h; exact .inr (.inr (.inl ⟨_, _, rfl, rfl, rfl⟩))
  · exact .inr (.inr (.inr h))
theorem eqD_some {x y : F} {b : Bool} (h : eqD x y = some b) : ∃ d e, toD x = some d ∧ toD y = some e ∧ SeqAt.shaped d = true ∧ SeqAt.shaped e = true ∧ PyData.eqv d e = b := by
  obtain ⟨d, e1, h⟩ := opt_bind_some h
  obtain ⟨e, e2, h⟩ := opt_bind_some h
  obtain ⟨hs, h⟩ := ifSome h
  rw [Bool.and_eq_true] at hs
  exact ⟨d, e, e1, e2, hs.1, hs.2, h⟩
theorem o2_eq : Op2 X T (rEqF X.K) eqF := by
  intro Z H x y fx fy z Q s vx vy h g
  obtain ⟨b, e, rfl⟩ := opt_map_some h
  rcases eqB_cases e with ⟨i, j, rfl, rfl, rfl⟩ | ⟨i, j, rfl, rfl, rfl⟩ | ⟨i, j, rfl, rfl, rfl⟩ | e
  · cases vx.int; cases vy.int
    refine .inl ⟨rfl, ?_⟩
    rw [show decide (V.int i = V.int j) = decide (i = j) from by simp]
    exact g.here s (.bl _)
  · cases vx.str; cases vy.str
    refine .inl ⟨rfl, ?_⟩
    rw [show decide (V.str (S i) = V.str (S j)) = decide (i = j) from by simp [S_inj]]
    exact g.here s (.bl _)
  · cases vx.bl; cases vy.bl
    refine .inl ⟨rfl, ?_⟩
    rw [show decide (V.bl i = V.bl j) = decide (i = j) from by simp]
    exact g.here s (.bl _)
  · obtain ⟨d, e', e1, e2, h1, h2, rfl⟩ := eqD_some e
    exact .inr ⟨d, e', vx.dp s e1, vy.dp s e2, h1, h2, g.here s (.bl _)⟩
theorem o2_ne : Op2 X T (rNeF X.K) neF := by
  intro Z H x y fx fy z Q s vx vy h g
  obtain ⟨b, e, rfl⟩ := opt_map_some h
  rcases eqB_cases e with ⟨i, j, rfl, rfl, rfl⟩ | ⟨i, j, rfl, rfl, rfl⟩ | ⟨i, j, rfl, rfl, rfl⟩ | e
  · cases vx.int; cases vy.int
    refine .inl ⟨rfl, ?_⟩
    rw [show decide (V.int i = V.int j) = decide (i = j) from by simp]
    exact g.here s (.bl _)
  · cases vx.str; cases vy.str
    refine .inl ⟨rfl, ?_⟩
    rw [show decide (V.str (S i) = V.str (S j)) = decide (i = j) from by simp [S_inj]]
    exact g.here s (.bl _)
  · cases vx.bl; cases vy.bl
    refine .inl ⟨rfl, ?_⟩
    rw [show decide (V.bl i = V.bl j) = decide (i = j) from by simp]
    exact g.here s (.bl _)
  · obtain ⟨d, e', e1, e2, h1, h2, rfl⟩ := eqD_some e
    exact .inr ⟨d, e', vx.dp s e1, vy.dp s e2, h1, h2, g.here s (.bl _)⟩
end
end VS

set_option Elab.async false
set_option linter.all false
set_option maxRecDepth 100000
set_option maxHeartbeats 4000000
set_option autoImplicit false
/-! VH: in, is, subscripts, slices, built-in functions, isinstance. -/
namespace VS
open PySem PySem.Spec PyProof.Rows L2
section
variable {X : Cx} {T : Tab}
/-! ### in -/
def flatF : F → Bool
  | .non | .bl _ | .int _ | .str _ => true
  | _ => false
theorem View.rep {K : PySem.W.Frag} {Z H : Hp} {v : V} {x : F} (h : View K T Z H v x) (hx : flatF x = true) : RepF K T Z v x := by
  cases h with
  | f r => exact r
  | lst _ _ => cases hx
  | dct _ _ => cases hx
/-! ### is None -/
def isNF : F → F → Option F
  | .non, .non => some (.bl true)
  | .scr _, _ => none
  | _, .non => some (.bl false)
  | .bl a, .bl b => some (.bl (decide (a = b)))
  | _, _ => none
end
section
variable {X : Cx} {T : Tab} {E : XK} {a b c e o i value : Expr} {es : List Expr} {ta tb tc te to ti tv : TEv} {tr : TAv} {pos pos' apos cpos p2 : Pos}
/-! ### subscripts -/
def ixC (i : Int) : Option Cell → Option W
  | some (.lstF xs) => (atI xs i).map W.f
  | some (.lstW xs) => atI xs i
  | _ => none
def ixW (st : Store) : W → W → Option W
  | .f (.lst xs), .f (.int i) => (atI xs i).map W.f
  | .f (.tup xs), .f (.int i) => (atI xs i).map W.f
  | .f (.str s), .f (.int i) => if small s.length = true then (atI s i).map fun c => W.f (.str [c]) else none
  | .loc n, .f (.int i) => ixC i st[n]?
  | _, _ => none
def eIx (ta tb : TEv) : TEv := fun env st => (ta env st).bind fun w st1 => (tb env st1).bind fun u st2 => ofW (ixW st2 w u) st2
theorem atI_get {α : Type} {xs : List α} {i : Int} {x : α} (h : atI xs i = some x) : ∃ j, ixN xs.length i = some j ∧ xs[j]? = some x := opt_bind_some h
theorem RepFs.atI {K : PySem.W.Frag} {Z : Hp} {vs : List V} {xs : List F} {i : Int} {x : F} (r : RepFs K T Z vs xs) (h : L2.atI xs i = some x) : ∃ v, L2.atI vs i = some v ∧ RepF K T Z v x := by
  obtain ⟨j, e1, e2⟩ := atI_get h
  obtain ⟨v, e3, rv⟩ := r.get e2
  exact ⟨v, by unfold L2.atI; rw [r.length, e1]; exact e3, rv⟩
theorem RepWs.atI {K : PySem.W.Frag} {Z : Hp} {ι : List Addr} {vs : List V} {xs : List W} {i : Int} {x : W} (r : RepWs K T Z ι vs xs) (h : L2.atI xs i = some x) : ∃ v, L2.atI vs i = some v ∧ RepW K T Z ι v x := by
  obtain ⟨j, e1, e2⟩ := atI_get h
  obtain ⟨v, e3, rv⟩ := r.get e2
  exact ⟨v, by unfold L2.atI; rw [r.length, e1]; exact e3, rv⟩
theorem ve_ix (ha : VE X T E a ta) (hb : VE X T E b tb) (hs : PlainIx b := by exact fun _ _ => rfl) : VE X T E (.Subscript a b pos) (eIx ta tb) := pe_weak (pe_ix ix_seq ha hb hs) fun σ H Q h => by
  obtain ⟨Z, ι, env, st, s, re, p⟩ := h
  refine ⟨Z, ι, env, st, s, re, (Post.bind p).imp fun w st1 H1 Z1 ι1 l1 s1 p1 v rv => ?_⟩
  refine ⟨Z1, ι1, env, st1, s1, re.mono l1, (Post.bind p1).imp fun u st2 H2 Z2 ι2 l2 s2 p2 y ry => ?_⟩
  cases q : ixW st2 w u with
  | none => rw [q] at p2; exact p2.elim
  | some z =>
    rw [q] at p2
    have fin : ∀ v', RepW X.K T Z2 ι2 v' z → Q v' H2 := fun v' r' => p2 H2 Z2 ι2 Le.refl s2 v' r'
    replace rv := rv.mono l2
    clear p1
    unfold ixW at q
    split at q
    · obtain ⟨x, e1, rfl⟩ := opt_map_some q
      cases ry with | f ry =>
      cases ry
      cases rv with | f rv =>
      cases rv with | lst e rs =>
      obtain ⟨v', e2, r2⟩ := rs.atI e1
      exact .inl ⟨_, _, _, v', rfl, rfl, SqL.of (s2.sub _ _ e), e2, fin _ (.f r2)⟩
    · obtain ⟨x, e1, rfl⟩ := opt_map_some q
      cases ry with | f ry =>
      cases ry
      cases rv with | f rv =>
      cases rv with | tup e rs =>
      obtain ⟨v', e2, r2⟩ := rs.atI e1
      exact .inr (.inl ⟨_, _, _, v', rfl, rfl, same_sqt s2.sub e, e2, fin _ (.f r2)⟩)
    · rename_i z0 i0
      by_cases hsm : small z0.length = true
      · rw [if_pos hsm] at q
        obtain ⟨c, e1, rfl⟩ := opt_map_some q
        cases ry with | f ry =>
        cases ry
        cases rv with | f rv =>
        cases rv
        exact .inr (.inr ⟨_, _, c, rfl, rfl, by rw [S_len]; exact small_line hsm, by rw [S_list]; exact e1, fin _ (.f (.str [c]))⟩)
      · rw [if_neg hsm] at q; cases q
    · rename_i n0 i0
      cases ry with | f ry =>
      cases ry
      cases rv with | loc e =>
      rename_i a0
      cases q2 : st2[n0]? with
      | none => rw [q2] at q; cases q
      | some cl =>
        rw [q2] at q
        have k := s2.cell n0 a0 cl e q2
        cases cl with
        | lstF xs =>
          obtain ⟨x, e1, rfl⟩ := opt_map_some q
          obtain ⟨_, vs, e3, rs⟩ := k
          obtain ⟨v', e2, r2⟩ := rs.atI e1
          exact .inl ⟨_, _, _, v', rfl, rfl, SqL.of e3, e2, fin _ (.f r2)⟩
        | lstW xs =>
          obtain ⟨_, vs, e3, rs⟩ := k
          obtain ⟨v', e2, r2⟩ := rs.atI q
          exact .inl ⟨_, _, _, v', rfl, rfl, SqL.of e3, e2, fin _ r2⟩
        | dead => cases q
        | dct _ => cases q
        | dti _ => cases q
        | ins _ _ => cases q
    · cases q
/-! ### slices -/
abbrev TOv := Env → Store → Res (Option Int)
def RdO (K : PySem.W.Frag) (T : Tab) (E : XK) (t : TOv) : TO := fun σ H Q => ∃ Z ι env st, SimS K T Z ι st H ∧ EnvR K T Z ι σ env ∧ Post K T E Z ι (t env st) fun o _ H' _ _ => Q o H'
abbrev VO (X : Cx) (T : Tab) (E : XK) (e : Option Expr) (t : TOv) : Prop := PO X e (RdO X.K T E t)
def cutL {α : Type} (xs : List α) (lo hi : Option Int) : List α := (xs.drop (HT.sIx xs.length 0 lo)).take (HT.sIx xs.length xs.length hi - HT.sIx xs.length 0 lo)
/-! ### calls of built-in functions and types on data -/
inductive Views (K : PySem.W.Frag) (T : Tab) (Z H : Hp) : List V → List F → Prop
  | nil : Views K T Z H [] []
  | cons {v : V} {x : F} {vs : List V} {xs : List F} : View K T Z H v x → Views K T Z H vs xs → Views K T Z H (v :: vs) (x :: xs)
def looks (st : Store) : List W → Option (List F)
  | [] => some []
  | w :: ws => (look st w).bind fun x => (looks st ws).map fun xs => x :: xs
theorem RepWs.views {K : PySem.W.Frag} {Z H : Hp} {ι : List Addr} {st : Store} (s : SimS K T Z ι st H) : ∀ {vs : List V} {ws : List W} {xs : List F}, RepWs K T Z ι vs ws → looks st ws = some xs → Views K T Z H vs xs
  | _, _, _, .nil, h => by cases h; exact .nil
  | _, _, _, .cons r t, h => by
    obtain ⟨x, e1, h⟩ := opt_bind_some (show (look st _).bind _ = some _ from h)
    obtain ⟨xs, e2, rfl⟩ := opt_map_some h
    exact .cons (r.view s e1) (RepWs.views s t e2)
def OpN (X : Cx) (T : Tab) (r : List V → Hp → VK → Prop) (g : List F → Option F) : Prop := ∀ Z H vs fs z Q, Same Z H → Views X.K T Z H vs fs → g fs = some z → Give X.K T Z H z Q → r vs H Q
def lkN (g : List F → Option F) (ws : List W) (st : Store) : Res W := ofOpt ((looks st ws).bind g) st
def eCB (g : List F → Option F) (t : TAv) : TEv := fun env st => (t env st).bind fun ws st1 => lkN g ws st1
theorem lkN_ok {K : PySem.W.Frag} {Z H : Hp} {ι : List Addr} {g : List F → Option F} {ws : List W} {st : Store} {Q : VK} (s : SimS K T Z ι st H) (h : Post K T E Z ι (lkN g ws st) fun w _ H' Z' ι' => ∀ v, RepW K T Z' ι' v w → Q v H') :
    ∃ xs z, looks st ws = some xs ∧ g xs = some z ∧ Give K T Z H z Q := by
  unfold lkN at h
  cases q : looks st ws with
  | none => rw [q] at h; exact h.elim
  | some x =>
    rw [q] at h
    cases q1 : g x with
    | none => simp only [Option.bind_some, q1] at h; exact h.elim
    | some z =>
      simp only [Option.bind_some, q1] at h
      exact ⟨x, z, rfl, q1, fun v H' Z' gr r => h H' Z' ι gr.le (s.grow gr) v (.f r)⟩
theorem rd_cb {r : List V → Hp → VK → Prop} {g : List F → Option F} (ho : OpN X T r g) {σ : L2.St} {H : Hp} {Q : VK} (h : RdE X.K T E (eCB g tr) σ H Q) : tCB r (RdA X.K T E tr) σ H Q := by
  obtain ⟨Z, ι, env, st, s, re, p⟩ := h
  refine ⟨Z, ι, env, st, s, re, (Post.bind p).imp fun ws st1 H1 Z1 ι1 l1 s1 p1 vs rvs => ?_⟩
  obtain ⟨xs, z, e1, e2, g⟩ := lkN_ok s1 p1
  exact ho Z1 H1 vs xs z Q s1.sub (rvs.views s1 e1) e2 g
variable {r : List V → Hp → VK → Prop} {g : List F → Option F} {x : Str} {id Ty : String} {p : Pos}
theorem ve_callB (hr : CallR X (.builtin id) r) (ho : OpN X T r g) (hg : Gl X x) (hm : X.mg x = none) (hv : bootBuiltins x = some (.builtin id)) (ha : VA X T E (e :: es) tr) (hn : x ≠ "__name__" := by decide) (hdb : (x == ("__debug__" : Str)) = false := by decide)
    (he : starEach (e :: es) X.env = (false, eval e X.env) :: starEach es X.env := by rfl) (hpl : (backTo pos (starEach es X.env)).any (·.1) = false := by rfl) : VE X T E (.Call (.Name x p) (e :: es) [] pos) (eCB g tr) :=
  pe_weak (pe_callB hr hg hm hv ha hn hdb he hpl) fun _ _ _ h => rd_cb ho h
theorem ve_callTy (hr : CallR X (.type Ty) r) (ho : OpN X T r g) (hg : Gl X x) (hm : X.mg x = none) (hv : bootBuiltins x = some (.type Ty)) (ha : VA X T E (e :: es) tr) (hn : x ≠ "__name__" := by decide) (hdb : (x == ("__debug__" : Str)) = false := by decide)
    (he : starEach (e :: es) X.env = (false, eval e X.env) :: starEach es X.env := by rfl) (hpl : (backTo pos (starEach es X.env)).any (·.1) = false := by rfl) : VE X T E (.Call (.Name x p) (e :: es) [] pos) (eCB g tr) :=
  pe_weak (pe_callTy hr hg hm hv ha hn hdb he hpl) fun _ _ _ h => rd_cb ho h
end
end VS

set_option Elab.async false
set_option linter.all false
set_option maxRecDepth 100000
set_option maxHeartbeats 4000000
set_option autoImplicit false
/-! VI: the built-in functions by name, isinstance, methods of texts and lists on data. -/
namespace VS
open PySem PySem.Spec PyProof.Rows L2
section
variable {X : Cx} {T : Tab}
/-! ### one and two arguments -/
theorem Views.one {K : PySem.W.Frag} {Z H : Hp} {vs : List V} {x : F} (h : Views K T Z H vs [x]) : ∃ v, vs = [v] ∧ View K T Z H v x := by
  cases h with | cons h t => cases t; exact ⟨_, rfl, h⟩
theorem Views.two {K : PySem.W.Frag} {Z H : Hp} {vs : List V} {x y : F} (h : Views K T Z H vs [x, y]) : ∃ v u, vs = [v, u] ∧ View K T Z H v x ∧ View K T Z H u y := by
  cases h with | cons h t => obtain ⟨u, rfl, hu⟩ := t.one; exact ⟨_, u, rfl, h, hu⟩
/-- a function of one argument -/
def g1 (g : F → Option F) : List F → Option F
  | [x] => g x
  | _ => none
def g2 (g : F → F → Option F) : List F → Option F
  | [x, y] => g x y
  | _ => none
theorem on1 {r : List V → Hp → VK → Prop} {g : F → Option F} (h : ∀ Z H x fx z Q, Same Z H → View X.K T Z H x fx → g fx = some z → Give X.K T Z H z Q → r [x] H Q) : OpN X T r (g1 g) := by
  intro Z H vs fs z Q s v e gi
  match fs, v, e with
  | [x], v, e => obtain ⟨u, rfl, hu⟩ := v.one; exact h Z H u x z Q s hu e gi
  | [], _, e => cases e
  | _ :: _ :: _, _, e => cases e
/-! ### len -/
def lenF : F → Option F
  | .str s => if small s.length = true then some (.int s.length) else none
  | .lst xs => some (.int xs.length)
  | .tup xs => some (.int xs.length)
  | .dct xs => some (.int xs.length)
  | _ => none
def rLenF (K : PySem.W.Frag) : List V → Hp → VK → Prop := fun xs H Q => (∃ x n, xs = [x] ∧ LenV K x H n ∧ Q (.int n) H) ∨ (∃ a kvs, xs = [V.ref a] ∧ H a = some (.dK kvs) ∧ Q (.int kvs.length) H)
theorem cr_len : CallR X (.builtin "len") (rLenF X.K) := CallR.or call_len call_lenD
theorem RepFk.length {K : PySem.W.Frag} {Z : Hp} : ∀ {vs : List (Key × V)} {xs : List (F × F)}, RepFk K T Z vs xs → vs.length = xs.length
  | _, _, .nil => rfl
  | _, _, .cons _ _ t => by rw [List.length_cons, List.length_cons, RepFk.length t]
theorem on_len : OpN X T (rLenF X.K) (g1 lenF) := on1 fun Z H x fx z Q s vx h g => by
  cases fx with
  | str a =>
    obtain ⟨hs, h⟩ := ifSome h
    cases h; cases vx.str
    exact .inl ⟨_, a.length, rfl, ⟨by rw [S_len]; exact small_line hs, (S_len a).symm⟩, g.here s (.int _)⟩
  | lst xs =>
    cases h
    obtain ⟨a, vs, rfl, e1, r1⟩ := vx.lst' s
    exact .inl ⟨_, xs.length, rfl, .inl ⟨vs, SqL.of e1, r1.length.symm⟩, g.here s (.int _)⟩
  | tup xs =>
    cases h
    obtain ⟨a, vs, rfl, e1, r1⟩ := vx.tup'
    exact .inl ⟨_, xs.length, rfl, .inr ⟨vs, same_sqt s e1, r1.length.symm⟩, g.here s (.int _)⟩
  | dct xs =>
    cases h
    obtain ⟨a, vs, rfl, e1, r1⟩ := vx.dct' s
    exact .inr ⟨a, vs, rfl, e1, by rw [r1.length]; exact g.here s (.int _)⟩
  | _ => cases h
/-! ### max, min -/
/-- the ints of a list -/
def intsOf : List F → Option (List Int)
  | [] => some []
  | .int i :: r => (intsOf r).map (i :: ·)
  | _ :: _ => none
theorem intsOf_eq : ∀ {xs : List F} {ns : List Int}, intsOf xs = some ns → xs = ns.map F.int
  | [], _, h => by cases h; rfl
  | .int i :: r, _, h => by
    obtain ⟨m, e, rfl⟩ := opt_map_some (show (intsOf r).map _ = some _ from h)
    rw [intsOf_eq e]
    rfl
  | .non :: _, _, h => by cases h
  | .bl _ :: _, _, h => by cases h
  | .str _ :: _, _, h => by cases h
  | .tup _ :: _, _, h => by cases h
  | .lst _ :: _, _, h => by cases h
  | .dct _ :: _, _, h => by cases h
  | .obj _ _ :: _, _, h => by cases h
  | .scr _ :: _, _, h => by cases h
def blsOf : List F → Option (List Bool)
  | [] => some []
  | .bl i :: r => (blsOf r).map (i :: ·)
  | _ :: _ => none
theorem blsOf_eq : ∀ {xs : List F} {ns : List Bool}, blsOf xs = some ns → xs = ns.map F.bl
  | [], _, h => by cases h; rfl
  | .bl i :: r, _, h => by
    obtain ⟨m, e, rfl⟩ := opt_map_some (show (blsOf r).map _ = some _ from h)
    rw [blsOf_eq e]
    rfl
  | .non :: _, _, h => by cases h
  | .int _ :: _, _, h => by cases h
  | .str _ :: _, _, h => by cases h
  | .tup _ :: _, _, h => by cases h
  | .lst _ :: _, _, h => by cases h
  | .dct _ :: _, _, h => by cases h
  | .obj _ _ :: _, _, h => by cases h
  | .scr _ :: _, _, h => by cases h
theorem View.ints {K : PySem.W.Frag} {Z H : Hp} {v : V} {xs : List F} {ns : List Int} (s : Same Z H) (h : View K T Z H v (.lst xs)) (e : intsOf xs = some ns) : ∃ a, v = .ref a ∧ SqL K H a (ns.map V.int) := by
  obtain ⟨a, vs, rfl, e1, r1⟩ := h.lst' s
  have := intsOf_eq e
  subst this
  rw [r1.ints] at e1
  exact ⟨a, rfl, SqL.of e1⟩
/-! ### sum, any, all -/
theorem View.bls {K : PySem.W.Frag} {Z H : Hp} {v : V} {xs : List F} {ns : List Bool} (s : Same Z H) (h : View K T Z H v (.lst xs)) (e : blsOf xs = some ns) : ∃ a, v = .ref a ∧ SqL K H a (ns.map V.bl) := by
  obtain ⟨a, vs, rfl, e1, r1⟩ := h.lst' s
  have := blsOf_eq e
  subst this
  rw [r1.bls] at e1
  exact ⟨a, rfl, SqL.of e1⟩
def anyF : F → Option F
  | .lst xs => (blsOf xs).map fun ns => .bl (ns.any id)
  | _ => none
theorem on_any : OpN X T (rAny X.K) (g1 anyF) := on1 fun Z H x fx z Q s vx h g => by
  cases fx with
  | lst xs =>
    obtain ⟨ns, e, rfl⟩ := opt_map_some h
    obtain ⟨a, rfl, hq⟩ := vx.bls s e
    exact ⟨a, ns, rfl, hq, g.here s (.bl _)⟩
  | _ => cases h
/-! ### sorted of ints -/
/-! ### list(..), tuple(..), int(..), str(..), abs, bool -/
def listF : F → Option F
  | .lst xs => some (.lst xs)
  | .tup xs => some (.lst xs)
  | .scr ns => some (.lst (ns.map F.int))
  | _ => none
def intF : F → Option F
  | .int i => some (.int i)
  | .bl k => some (.int (if k then 1 else 0))
  | _ => none
theorem on_int : OpN X T (fun xs H Q => (∃ i, xs = [.int i] ∧ Q (.int i) H) ∨ ∃ k, xs = [.bl k] ∧ Q (.int (if k then 1 else 0)) H) (g1 intF) := on1 fun Z H x fx z Q s vx h g => by
  cases fx with
  | int i => cases h; cases vx.int; exact .inl ⟨i, rfl, g.here s (.int _)⟩
  | bl i => cases h; cases vx.bl; exact .inr ⟨i, rfl, g.here s (.int _)⟩
  | _ => cases h
end
end VS

set_option Elab.async false
set_option linter.all false
set_option maxRecDepth 100000
set_option maxHeartbeats 4000000
set_option autoImplicit false
/-! VJ: what is walked; list comprehensions. -/
namespace VS
open PySem PySem.Spec PyProof.Rows L2
section
variable {X : Cx} {T : Tab} {E : XK} {a b c e tg : Expr} {es : List Expr} {ta tb tc te : TEv} {tr : TAv} {pos pos' p p2 : Pos}
/-! ### what is walked -/
theorem map_get {xs : List F} {i : Nat} {w : W} (h : (xs.map W.f)[i]? = some w) : ∃ x, xs[i]? = some x ∧ w = .f x := by
  rw [List.getElem?_map] at h
  obtain ⟨x, e, rfl⟩ := opt_map_some h
  exact ⟨x, e, rfl⟩
theorem map_none {xs : List F} {i : Nat} (h : (xs.map W.f)[i]? = none) : xs.length ≤ i := by
  have := List.getElem?_eq_none_iff.mp h
  simpa using this
theorem walks_list {K : PySem.W.Frag} {Z : Hp} {ι : List Addr} {a : Addr} {vs : List V} {xs : List F} (e : Z a = some (.lst vs)) (r : RepFs K T Z vs xs) : Walks K T Z ι (Itl K a) (xs.map W.f) := by
  intro i Z' ι' H' st' l s
  have e' := s.sub _ _ (l.z _ _ e)
  refine ⟨fun w h => ?_, fun h => ⟨vs, SqL.of e', by rw [r.length]; exact map_none h⟩⟩
  obtain ⟨x, hx, rfl⟩ := map_get h
  obtain ⟨v, hv, rv⟩ := r.get hx
  refine ⟨⟨vs, v, SqL.of e', hv⟩, fun y H2 hy => ?_⟩
  obtain ⟨rfl, hy⟩ := hy
  have := hy vs (SqL.of e')
  rw [hv] at this
  cases this
  exact ⟨Z', Grow.refl s.sub, .f (rv.mono l.z)⟩
theorem walks_tup {K : PySem.W.Frag} {Z : Hp} {ι : List Addr} {a : Addr} {vs : List V} {xs : List F} (e : SqT K Z a vs) (r : RepFs K T Z vs xs) : Walks K T Z ι (Itt K a) (xs.map W.f) := by
  intro i Z' ι' H' st' l s
  have e' := same_sqt s.sub (same_sqt l.z e)
  refine ⟨fun w h => ?_, fun h => ⟨vs, e', by rw [r.length]; exact map_none h⟩⟩
  obtain ⟨x, hx, rfl⟩ := map_get h
  obtain ⟨v, hv, rv⟩ := r.get hx
  refine ⟨⟨vs, v, e', hv⟩, fun y H2 hy => ?_⟩
  obtain ⟨rfl, hy⟩ := hy
  have := hy vs e'
  rw [hv] at this
  cases this
  exact ⟨Z', Grow.refl s.sub, .f (rv.mono l.z)⟩
/-- the signs of a text -/
def signs (s : List Nat) : List W := s.map fun c => W.f (.str [c])
theorem walks_str {K : PySem.W.Frag} {Z : Hp} {ι : List Addr} (s : List Nat) : Walks K T Z ι (Its (S s)) (signs s) := by
  intro i Z' ι' H' st' l sm
  have hz : (S s).cps.size = s.length := S_len s
  unfold signs
  refine ⟨fun w h => ?_, fun h => ?_⟩
  · rw [List.getElem?_map] at h
    obtain ⟨c, hc, rfl⟩ := opt_map_some h
    have hi := (List.getElem?_eq_some_iff.mp hc).1
    refine ⟨show i < (S s).cps.size by rw [hz]; exact hi, fun y H2 hy => ?_⟩
    obtain ⟨rfl, c', hc', rfl⟩ := hy
    have : s[i]? = some c' := by
      have := hc'
      rw [show (S s).cps = s.toArray from rfl] at this
      simpa using this
    rw [hc] at this
    cases this
    exact ⟨Z', Grow.refl sm.sub, .f (.str [c])⟩
  · have := List.getElem?_eq_none_iff.mp h
    show (S s).cps.size ≤ i
    rw [hz]
    simpa using this
/-- lo, lo + c, .. (n of them) -/
def rangeW (lo c : Int) (n : Nat) : List W := (List.range n).map fun i => W.f (.int (lo + (i : Nat) * c))
theorem walks_rangeC {K : PySem.W.Frag} {Z : Hp} {ι : List Addr} (lo c : Int) (n : Nat) : Walks K T Z ι (Itc lo c n) (rangeW lo c n) := by
  intro i Z' ι' H' st' l sm
  unfold rangeW
  refine ⟨fun w h => ?_, fun h => ?_⟩
  · rw [List.getElem?_map] at h
    obtain ⟨k, hk, rfl⟩ := opt_map_some h
    obtain ⟨hi, hk⟩ := List.getElem?_eq_some_iff.mp hk
    rw [List.getElem_range] at hk
    subst hk
    rw [List.length_range] at hi
    refine ⟨hi, fun y H2 hy => ?_⟩
    obtain ⟨rfl, rfl⟩ := hy
    exact ⟨Z', Grow.refl sm.sub, .f (.int _)⟩
  · have := List.getElem?_eq_none_iff.mp h
    show n ≤ i
    simpa using this
theorem walks_range {K : PySem.W.Frag} {Z : Hp} {ι : List Addr} (lo : Int) (n : Nat) : Walks K T Z ι (Itr lo n) (rangeW lo 1 n) := by
  have h := walks_rangeC (K := K) (T := T) (Z := Z) (ι := ι) lo 1 n
  intro i Z' ι' H' st' l sm
  obtain ⟨h1, h2⟩ := h i Z' ι' H' st' l sm
  refine ⟨fun w hw => ?_, h2⟩
  obtain ⟨g, y⟩ := h1 w hw
  refine ⟨g, fun x H2 hx => y x H2 ?_⟩
  obtain ⟨e1, e2⟩ := hx
  exact ⟨e1, by rw [e2, Int.mul_one]⟩
def smallI (i : Int) : Bool := decide (-(2 ^ 62) ≤ i) && decide (i < 2 ^ 62)
def rng1 (ws : List W) (st : Store) : Res (List W) := match ws with
  | [.f (.int j)] => if smallI j = true then .ok (rangeW 0 1 j.toNat) st else .stuck
  | _ => .stuck
def iRange1 (t : TAv) : TIv := fun env st => (t env st).bind rng1
theorem smallI_ok {i : Int} (h : smallI i = true) : -(2 ^ 62) ≤ i ∧ i < 2 ^ 62 := by
  unfold smallI at h
  rw [Bool.and_eq_true] at h
  exact ⟨of_decide_eq_true h.1, of_decide_eq_true h.2⟩
theorem rep_int {K : PySem.W.Frag} {Z : Hp} {ι : List Addr} {v : V} {i : Int} (h : RepW K T Z ι v (.f (.int i))) : v = .int i := by
  cases h with | f r => cases r; rfl
theorem vi_range1 (hg : Gl X "range") (hm : X.mg "range" = none) (ha : VA X T E [a] tr) (hs : starEach [a] X.env = [(false, eval a X.env)] := by rfl) : VI X T E tg (.Call (.Name "range" p) [a] [] pos) (iRange1 tr) := pi_weak (pi_range1 hg hm ha hs) fun σ H R h => by
  obtain ⟨Z, ι, env, st, s, re, p⟩ := h
  refine ⟨Z, ι, env, st, s, re, (Post.bind p).imp fun ws st1 H1 Z1 ι1 l1 s1 p1 vs rvs => ?_⟩
  unfold rng1 at p1
  split at p1
  · rename_i j
    by_cases hj : smallI j = true
    · rw [if_pos hj] at p1
      obtain ⟨b1, b2⟩ := smallI_ok hj
      cases rvs with | cons r t =>
      cases t
      cases rep_int r
      exact ⟨j, rfl, b1, b2, p1 H1 Z1 ι1 Le.refl s1 _ (walks_range 0 j.toNat)⟩
    · rw [if_neg hj] at p1; exact p1.elim
  · exact p1.elim
/-! ### targets that set some slots alone -/
def RdGw (K : PySem.W.Frag) (T : Tab) (ss : List Nat) (g : TGv) : TG := fun v σ H Q => ∃ Z ι env st w env', SimS K T Z ι st H ∧ EnvR K T Z ι σ env ∧ RepW K T Z ι v w ∧ g w env = some env' ∧ ∀ σ', EnvR K T Z ι σ' env' → (∀ vs, (∀ i ∈ ss, i ∈ vs) → wipe σ' vs = wipe σ vs) → Q σ' H
abbrev VGw (X : Cx) (T : Tab) (e : Expr) (ss : List Nat) (g : TGv) : Prop := PG X e (RdGw X.K T ss g)
theorem wipe_set {σ : L2.St} {i : Nat} {o : Option V} : ∀ {vs : List Nat}, i ∈ vs → wipe (σ.set i o) vs = wipe σ vs
  | [], h => by cases h
  | v :: vs, h => by
    show (wipe (σ.set i o) vs).set v none = (wipe σ vs).set v none
    by_cases hv : i ∈ vs
    · rw [wipe_set hv]
    · have hi : i = v := by
        rcases List.mem_cons.mp h with e | e
        · exact e
        · exact absurd e hv
      subst hi
      have gen : ∀ (ws : List Nat) (σ : L2.St), i ∉ ws → (wipe (σ.set i o) ws).set i none = (wipe σ ws).set i none := by
        intro ws
        induction ws with
        | nil => intro σ _; show (σ.set i o).set i none = σ.set i none; rw [List.set_set]
        | cons u us ih =>
          intro σ hn
          rw [List.mem_cons, not_or] at hn
          show ((wipe (σ.set i o) us).set u none).set i none = ((wipe σ us).set u none).set i none
          rw [List.set_comm _ _ (Ne.symm hn.1), ih σ hn.2, List.set_comm _ _ hn.1]
      exact gen vs σ hv
theorem vgw_name {i : Nat} {x : Str} (hN : X.N.Nodup) (hi : X.N[i]? = some x) (hx : Loc X.env.scope x) (hf : X.fn x = true ∨ X.env.scope.names.lookup x = some .local := by first | exact .inl rfl | exact .inr rfl | assumption) : VGw X T (.Name x pos) [i] (gNm i) := pg_weak (pg_name hN hi hx hf) fun v σ H Q h => by
  obtain ⟨Z, ι, env, st, w, env', s, re, rv, e, k⟩ := h
  cases e
  exact k _ (re.set rv i) fun vs hv => wipe_set (hv i (by simp))
/-! ### list comprehensions -/
def wipeE (env : Env) : List Nat → Env
  | [] => env
  | v :: vs => (wipeE env vs).set v none
def lcL (g : TGv) (tt : TTv) (te : TEv) (L : Nat) (env : Env) : List W → Store → Res W
  | [], st => .ok (.loc L) st
  | w :: ws, st => match g w env with
    | none => .stuck
    | some env1 => (tt env1 st).bind fun b st1 => if b = true then (te env1 st1).bind fun y st2 => (doCell cAppend L [y] st2).bind fun _ st3 => lcL g tt te L env ws st3 else lcL g tt te L env ws st1
def eLc (ti : TIv) (g : TGv) (tt : TTv) (te : TEv) (vs : List Nat) : TEv := fun env st => (ti env st).bind fun ws st1 => lcL g tt te st1.length (wipeE env vs) ws (st1 ++ [.lstF []])
theorem env_wipe {K : PySem.W.Frag} {Z : Hp} {ι : List Addr} {σ : L2.St} {env : Env} (r : EnvR K T Z ι σ env) : ∀ vs : List Nat, EnvR K T Z ι (wipe σ vs) (wipeE env vs)
  | [] => r
  | v :: vs => by
    have ih := env_wipe r vs
    refine ⟨by show ((wipe σ vs).set v none).length = ((wipeE env vs).set v none).length; simp [ih.len], fun j u h => ?_⟩
    by_cases hj : v = j
    · subst hj
      have h : ((wipeE env vs).set v none)[v]? = some (some u) := h
      by_cases hl : v < (wipeE env vs).length
      · rw [List.getElem?_set_self hl] at h; cases h
      · rw [List.getElem?_eq_none (by simp; omega)] at h; cases h
    · have h : ((wipeE env vs).set v none)[j]? = some (some u) := h
      rw [List.getElem?_set_ne hj] at h
      obtain ⟨v', e, p⟩ := ih.get j u h
      exact ⟨v', by show ((wipe σ vs).set v none)[j]? = _; rw [List.getElem?_set_ne hj]; exact e, p⟩
theorem mut_append' {K : PySem.W.Frag} {Z H : Hp} {ι : List Addr} {a : Addr} {c c' : Cell} {w y : W} {v : V} (s : Same Z H) (k : CellOk K T Z ι H a c) (r : RepW K T Z ι v y) (h : cAppend c [y] = some (w, c')) :
    Z a = none ∧ ∃ acc, H a = some (.lst acc) ∧ acc.length < sizeLine ∧ CellOk K T Z ι (upd H a (.lst (acc ++ [v]))) a c' := by
  cases c with
  | lstF xs =>
    obtain ⟨hz, us, e, ru⟩ := k
    cases r with
    | f r1 =>
      obtain ⟨hs, h⟩ := ifSome h
      cases h
      exact ⟨hz, us, e, by rw [ru.length]; exact small_app hs, hz, _, upd_same, ru.append (.cons r1 .nil)⟩
    | loc r1 =>
      obtain ⟨hs, h⟩ := ifSome h
      cases h
      exact ⟨hz, us, e, by rw [ru.length]; exact small_app hs, hz, _, upd_same, (RepWs.ofFs ru).append (.cons (.loc r1) .nil)⟩
  | lstW xs =>
    obtain ⟨hz, us, e, ru⟩ := k
    obtain ⟨hs, h⟩ := ifSome h
    cases h
    exact ⟨hz, us, e, by rw [ru.length]; exact small_app hs, hz, _, upd_same, ru.append (.cons r .nil)⟩
  | dead => cases h
  | dct _ => cases h
  | dti _ => cases h
  | ins _ _ => cases h
variable {ti : TIv} {g : TGv} {tt : TTv} {vs ss : List Nat}
theorem rd_lc {K : PySem.W.Frag} (hss : ∀ i ∈ ss, i ∈ vs) {σ : L2.St} {H : Hp} {Q : VK} (h : RdE K T E (eLc ti g tt te vs) σ H Q) : tLc (RdI K T E ti) (RdGw K T ss g) (RdT K T E tt) (RdE K T E te) vs σ H Q := by
  obtain ⟨Z, ι, env, st, s, re, p⟩ := h
  refine ⟨Z, ι, env, st, s, re, (Post.bind p).imp fun ws st1 H1 Z1 ι1 l1 s1 p1 J wk D hD => ?_⟩
  have hz := free_sub s1.sub hD
  have s2 := s1.alloc (c := Cell.lstF []) (o := .lst []) hD ⟨hz, [], upd_same, .nil⟩
  have hL : (ι1 ++ [D])[st1.length]? = some D := by rw [← s1.len]; exact last_get _ _
  refine ⟨fun i m H => ∃ Z ι st, Le Z1 (ι1 ++ [D]) Z ι ∧ SimS K T Z ι st H ∧ m = ws.length - i ∧ Post K T E Z ι (lcL g tt te st1.length (wipeE env vs) (ws.drop i) st) fun w _ H' Z' ι' => ∀ v, RepW K T Z' ι' v w → Q v H',
    ⟨ws.length, Z1, ι1 ++ [D], _, Le.refl, s2, by simp, p1.le Le.alloc⟩, fun i m H h => ?_⟩
  obtain ⟨Z2, ι2, st2, l2, s2, hm, p2⟩ := h
  have l12 : Le Z1 ι1 Z2 ι2 := Le.alloc.trans l2
  have wki := wk i Z2 ι2 H st2 l12 s2
  by_cases hlt : i < ws.length
  · have e : ws[i]? = some ws[i] := by simp [hlt]
    have ed : ws.drop i = ws[i] :: ws.drop (i + 1) := (List.drop_eq_getElem_cons hlt)
    rw [ed] at p2
    obtain ⟨go, yl⟩ := wki.1 _ e
    refine .inr ⟨go, fun H' => ∃ Z ι st, Le Z1 (ι1 ++ [D]) Z ι ∧ SimS K T Z ι st H' ∧ Post K T E Z ι (lcL g tt te st1.length (wipeE env vs) (ws.drop (i + 1)) st) fun w _ H' Z' ι' => ∀ v, RepW K T Z' ι' v w → Q v H',
      fun H' ⟨Z, ι, st, l, s, p⟩ => ⟨ws.length - (i + 1), by omega, Z, ι, st, l, s, rfl, p⟩, fun x H' y => ?_⟩
    obtain ⟨Z3, gr, rx⟩ := yl x H' y
    have p2 : Post K T E Z2 ι2 (match g ws[i] (wipeE env vs) with
      | none => Res.stuck
      | some env1 => (tt env1 st2).bind fun b st1' => if b = true then (te env1 st1').bind fun y st2 => (doCell cAppend st1.length [y] st2).bind fun _ st3 => lcL g tt te st1.length (wipeE env vs) (ws.drop (i + 1)) st3 else lcL g tt te st1.length (wipeE env vs) (ws.drop (i + 1)) st1') _ := p2
    cases q : g ws[i] (wipeE env vs) with
    | none => rw [q] at p2; exact p2.elim
    | some env3 =>
      rw [q] at p2
      have re0 := env_wipe (re.mono l1) vs
      refine ⟨Z3, ι2, wipeE env vs, st2, _, env3, s2.grow gr, (re0.mono l12).mono gr.le, rx, q, fun σ4 re4 hw => ⟨?_, ?_⟩⟩
      · rw [hw vs hss]
        have wid : ∀ (us : List Nat) (σ : L2.St), (∀ i ∈ vs, i ∈ us) → wipe (wipe σ vs) us = wipe σ us := by
          intro us σ hu
          have : ∀ ws : List Nat, (∀ i ∈ ws, i ∈ us) → wipe (wipe σ ws) us = wipe σ us := by
            intro ws
            induction ws with
            | nil => intro _; rfl
            | cons v ws ih =>
              intro h
              show wipe ((wipe σ ws).set v none) us = _
              rw [wipe_set (h v (by simp)), ih fun i hi => h i (by simp [hi])]
          exact this vs hu
        exact wid vs σ fun _ h => h
      · have p3 := p2.le (gr.le (ι := ι2))
        refine ⟨Z3, ι2, env3, st2, s2.grow gr, re4, (Post.bind p3).imp fun b st5 H5 Z5 ι5 l5 s5 p5 => ?_⟩
        have l15 : Le Z1 (ι1 ++ [D]) Z5 ι5 := (l2.trans gr.le).trans l5
        cases b with
        | false => exact ⟨Z5, ι5, st5, l15, s5, p5⟩
        | true =>
          refine ⟨Z5, ι5, env3, st5, s5, re4.mono l5, (Post.bind p5).imp fun y st6 H6 Z6 ι6 l6 s6 p6 v rv => ?_⟩
          have l16 := l15.trans l6
          have hD6 := l16.i _ _ hL
          unfold doCell at p6
          cases qc : st6[st1.length]? with
          | none => simp only [qc] at p6; exact p6.elim
          | some cl =>
            simp only [qc] at p6
            cases qa : cAppend cl [y] with
            | none => simp only [qa] at p6; exact p6.elim
            | some wc =>
              obtain ⟨w', c'⟩ := wc
              simp only [qa] at p6
              obtain ⟨hzz, acc, e1, e2, ok⟩ := mut_append' s6.sub (s6.cell _ _ _ hD6 qc) rv qa
              exact ⟨acc, e1, e2, Z6, ι6, _, l16, s6.write hD6 hzz ok, p6⟩
  · have ed : ws.drop i = [] := by simp; omega
    rw [ed] at p2
    exact .inl ⟨wki.2 (by simp; omega), p2 H Z2 ι2 Le.refl s2 _ (.loc (l2.i _ _ hL))⟩
variable {elt iter : Expr} {ifs : List Expr} {scope : Scope} {own : List (Str × Nat)} {spos py : Pos}
abbrev VTs (X : Cx) (T : Tab) (E : XK) (ifs : List Expr) (t : TTv) : Prop := PTs X ifs (RdT X.K T E t)
def tYesV : TTv := fun _ st => .ok true st
theorem pts_weak {t t' : TT} (h : PTs X ifs t) (w : ∀ σ H Q, t' σ H Q → t σ H Q) : PTs X ifs t' := ⟨fun pins s σ H Q I q => h.run pins s σ H Q I (w σ H Q q)⟩
theorem vts_nil : VTs X T E [] tYesV := pts_weak pts_nil fun σ H Q h => by
  obtain ⟨Z, ι, env, st, s, re, p⟩ := h
  exact p H Z ι Le.refl s
theorem ve_lc (hc : X.calm = true) (hN : X.N.Nodup) (hi : VI X T E tg iter ti) (ok : BlkOk X.N X.env.scope scope own) (hss : ∀ i ∈ ss, i ∈ own.map (·.2))
    (hg : ∀ (s : Shared) (H : Hp) (C : Addr) (cl : List (Str × Addr)) (fp : List Addr), VGw (X.blk s H scope (compEnvC scope cl C X.env) fp) T tg ss g)
    (ht : ∀ (s : Shared) (H : Hp) (C : Addr) (cl : List (Str × Addr)) (fp : List Addr), VTs (X.blk s H scope (compEnvC scope cl C X.env) fp) T E ifs tt)
    (he : ∀ (s : Shared) (H : Hp) (C : Addr) (cl : List (Str × Addr)) (fp : List Addr), VE (X.blk s H scope (compEnvC scope cl C X.env) fp) T E elt te) (hs : ∀ x, foldedSetIterable iter X.env x = pure x := by intro _; rfl) :
    VE X T E (.ListComp elt [⟨tg, iter, ifs, 0⟩] scope pos) (eLc ti g tt te (own.map (·.2))) :=
  pe_weak (pe_lc hc hN hi ok hg ht he hs) fun _ _ _ h => rd_lc hss h
end
end VS

set_option Elab.async false
set_option linter.all false
set_option maxRecDepth 100000
set_option maxHeartbeats 4000000
set_option autoImplicit false
/-! VK: stores to items, pop(i), insert, remove; methods of texts. -/
namespace VS
open PySem PySem.Spec PyProof.Rows L2
section
variable {X : Cx} {T : Tab} {E : XK} {a b c e o i value : Expr} {es : List Expr} {ta tb tc te to ti tv : TEv} {tr : TAv} {pos pos' apos cpos p p2 : Pos}
theorem RepFs.erase {K : PySem.W.Frag} {Z : Hp} : ∀ {vs : List V} {xs : List F} (n : Nat), RepFs K T Z vs xs → RepFs K T Z (vs.eraseIdx n) (xs.eraseIdx n)
  | _, _, _, .nil => .nil
  | _, _, 0, .cons _ t => t
  | _, _, n + 1, .cons r t => .cons r (RepFs.erase n t)
theorem RepWs.erase {K : PySem.W.Frag} {Z : Hp} {ι : List Addr} : ∀ {vs : List V} {xs : List W} (n : Nat), RepWs K T Z ι vs xs → RepWs K T Z ι (vs.eraseIdx n) (xs.eraseIdx n)
  | _, _, _, .nil => .nil
  | _, _, 0, .cons _ t => t
  | _, _, n + 1, .cons r t => .cons r (RepWs.erase n t)
/-- xs.pop(i) -/
def cPopAt : CellOp := fun c ws => match c, ws with
  | .lstF xs, [.f (.int i)] => if smallI i = true then (seqIndex? i xs.length).bind fun k => (xs[k]?).map fun x => (.f x, .lstF (xs.eraseIdx k)) else none
  | .lstW xs, [.f (.int i)] => if smallI i = true then (seqIndex? i xs.length).bind fun k => (xs[k]?).map fun x => (x, .lstW (xs.eraseIdx k)) else none
  | _, _ => none
theorem ifElse {α : Type} {p : Prop} [Decidable p] {a : Option α} {b : α} (h : (if p then a else none) = some b) : p ∧ a = some b := by
  by_cases hp : p
  · rw [if_pos hp] at h; exact ⟨hp, h⟩
  · rw [if_neg hp] at h; cases h
theorem mut_popAt : MutOk X T rPopAt cPopAt := by
  intro Z H ι a c c' ws w vs Q s k r h q
  cases c with
  | lstF xs =>
    obtain ⟨hz, us, e, ru⟩ := k
    cases r with
    | nil => cases h
    | cons r1 r2 =>
      cases r1 with
      | loc _ => cases h
      | f r1 =>
        cases r1 with
        | int i =>
          cases r2 with
          | cons _ _ => cases h
          | nil =>
            obtain ⟨hi, h⟩ := ifElse h
            obtain ⟨b1, b2⟩ := smallI_ok hi
            obtain ⟨k, ek, h⟩ := opt_bind_some h
            obtain ⟨x, ex, h⟩ := opt_map_some h
            cases h
            obtain ⟨v, ev, rv⟩ := ru.get ex
            exact ⟨a, us, i, k, v, rfl, rfl, e, by omega, by omega, by rw [ru.length]; exact ek, ev, q _ _ (.f rv) ⟨hz, _, upd_same, ru.erase k⟩ hz ⟨fun _ => nofun, fun _ => nofun⟩⟩
        | _ => cases h
  | lstW xs =>
    obtain ⟨hz, us, e, ru⟩ := k
    cases r with
    | nil => cases h
    | cons r1 r2 =>
      cases r1 with
      | loc _ => cases h
      | f r1 =>
        cases r1 with
        | int i =>
          cases r2 with
          | cons _ _ => cases h
          | nil =>
            obtain ⟨hi, h⟩ := ifElse h
            obtain ⟨b1, b2⟩ := smallI_ok hi
            obtain ⟨k, ek, h⟩ := opt_bind_some h
            obtain ⟨x, ex, h⟩ := opt_map_some h
            cases h
            obtain ⟨v, ev, rv⟩ := ru.get ex
            exact ⟨a, us, i, k, v, rfl, rfl, e, by omega, by omega, by rw [ru.length]; exact ek, ev, q _ _ rv ⟨hz, _, upd_same, ru.erase k⟩ hz ⟨fun _ => nofun, fun _ => nofun⟩⟩
        | _ => cases h
  | dead => cases h
  | dct _ => cases h
  | dti _ => cases h
  | ins _ _ => cases h
theorem ve_popAt (ho : VE X T E o to) (he : VE X T E e te) (hbase : attributeBase o "pop" X.env (eval o X.env) = eval o X.env := by rfl)
    (hline : (apos.endLine == cpos.line) = true := by rfl) (hs : starEach [e] X.env = [(false, eval e X.env)] := by rfl) :
    VE X T E (.Call (.Attribute o "pop" apos) [e] [] cpos) (eMut false cPopAt to (aCons te aNil)) :=
  ve_mutL PySem.F.slot_list_pop PySem.F.type_list_pop mt_popAt mut_popAt ho (va_cons he va_nil hs) hbase (by rw [hs]; rfl) hline hs rfl
/-! ### o[i] = v -/
def setC (i : Int) (w : W) : Cell → Option Cell
  | .lstF xs => (ixN xs.length i).map fun j => match w with
    | .f x => .lstF (xs.set j x)
    | .loc n => .lstW ((xs.map W.f).set j (.loc n))
  | .lstW xs => (ixN xs.length i).map fun j => .lstW (xs.set j w)
  | _ => none
def setI (w : W) (st : Store) : W → W → Option Store
  | .loc n, .f (.int i) => (st[n]?).bind fun c => (setC i w c).map fun c' => st.set n c'
  | _, _ => none
def sSub (to ti tv : TEv) : TSv := fun env st => (tv env st).thenS fun w st1 => (to env st1).thenS fun o st2 => (ti env st2).thenS fun i st3 => match setI w st3 o i with
  | some st4 => .nx env st4
  | none => .stuck
theorem setI_ok {K : PySem.W.Frag} {Z H : Hp} {ι : List Addr} {st st' : Store} {w o i : W} {x y v : V} (s : SimS K T Z ι st H) (ro : RepW K T Z ι x o) (ri : RepW K T Z ι y i) (rw' : RepW K T Z ι v w) (h : setI w st o i = some st') :
    ∃ p xs k j, x = .ref p ∧ y = .int k ∧ H p = some (.lst xs) ∧ ixN xs.length k = some j ∧ SimS K T Z ι st' (upd H p (.lst (xs.set j v))) := by
  cases ro with
  | f _ => cases i <;> cases h
  | loc e =>
    rename_i a n
    cases ri with
    | loc _ => cases h
    | f ri =>
      cases ri with
      | int k =>
        obtain ⟨c, ec, h⟩ := opt_bind_some (show (st[n]?).bind (fun c => (setC k w c).map fun c' => st.set n c') = some st' from h)
        obtain ⟨c', ec', rfl⟩ := opt_map_some h
        have kk := s.cell n a c e ec
        cases c with
        | lstF xs =>
          obtain ⟨hz, us, e1, ru⟩ := kk
          obtain ⟨j, ej, rfl⟩ := opt_map_some ec'
          refine ⟨a, us, k, j, rfl, rfl, e1, by rw [ru.length]; exact ej, s.write e hz ?_⟩
          cases rw' with
          | f r => exact ⟨hz, _, upd_same, ru.set r j⟩
          | loc r => exact ⟨hz, _, upd_same, RepWs.set (.loc r) j (RepWs.ofFs ru)⟩
        | lstW xs =>
          obtain ⟨hz, us, e1, ru⟩ := kk
          obtain ⟨j, ej, rfl⟩ := opt_map_some ec'
          exact ⟨a, us, k, j, rfl, rfl, e1, by rw [ru.length]; exact ej, s.write e hz ⟨hz, _, upd_same, ru.set rw' j⟩⟩
        | dead => cases ec'
        | dct _ => cases ec'
        | dti _ => cases ec'
        | ins _ _ => cases ec'
      | _ => cases h
theorem vs_sub (ho : VE X T E o to) (hi : VE X T E i ti) (hv : VE X T E value tv)
    (ha : ∀ v, assign (.Subscript o i pos') X.env v = (do
      let ov ← holding [v] (eval o X.env)
      let iv ← holding [v, ov] (eval i X.env)
      standAt pos'
      holding [v, ov, iv] (setItem ov iv v)
      release [v, ov, iv] []) := by intro _; rfl)
    (hs : swapsWithSole [.Subscript o i pos'] value pos.line X.env = pure false := by rfl) (hw : swappedStores [.Subscript o i pos'] value X.env = pure none := by rfl)
    (h1 : (assignEach [.Subscript o i pos'] X.env).map (·.2) = [assign (.Subscript o i pos') X.env] := by rfl) : VS X T E (.Assign [.Subscript o i pos'] value pos) (sSub to ti tv) :=
  ps_weak (ps_asg hv (pg_sub ho hi set_list ha) hs hw h1) fun D σ H h => by
    obtain ⟨Z, ι, env, st, s, re, p⟩ := h
    refine ⟨Z, ι, env, st, s, re, (PostS.thenS p).imp fun w st1 H1 Z1 ι1 l1 s1 p1 v rv => ?_⟩
    refine ⟨Z1, ι1, env, st1, s1, re.mono l1, (PostS.thenS p1).imp fun o st2 H2 Z2 ι2 l2 s2 p2 x rx => ?_⟩
    refine ⟨Z2, ι2, env, st2, s2, (re.mono l1).mono l2, (PostS.thenS p2).imp fun i st3 H3 Z3 ι3 l3 s3 p3 y ry => ?_⟩
    cases q : setI w st3 o i with
    | none => simp only [q] at p3; exact p3.elim
    | some st4 =>
      simp only [q] at p3
      obtain ⟨pa, xs, k, j, e1, e2, e3, e4, s4⟩ := setI_ok s3 (rx.mono l3) ry ((rv.mono l2).mono l3) q
      exact ⟨pa, xs, k, j, e1, e2, e3, e4, p3 σ _ Z3 ι3 Le.refl s4 (((re.mono l1).mono l2).mono l3)⟩
/-! ### methods on data -/
/-- of which built-in type -/
def tyF : F → String
  | .str _ => "str"
  | .int _ => "int"
  | .lst _ => "list"
  | .dct _ => "dict"
  | _ => ""
theorem View.ty {K : PySem.W.Frag} {Z H : Hp} {v : V} {x : F} {Ty : String} (s : Same Z H) (h : View K T Z H v x) (e : tyF x = Ty) (hne : Ty ≠ "") : tyV K Ty v H := by
  subst e
  cases x with
  | str z => cases h.str; rfl
  | int z => cases h.int; rfl
  | lst xs => obtain ⟨a, vs, rfl, e1, r1⟩ := h.lst' s; exact .inl ⟨rfl, vs, SqL.of e1⟩
  | dct xs => obtain ⟨a, vs, rfl, e1, r1⟩ := h.dct' s; exact .inr (.inr (.inl ⟨rfl, .inl ⟨vs, e1⟩⟩))
  | _ => exact absurd rfl hne
variable {name : Str} {id : String}
/-- sep.join(texts) -/
def joinL (sep : List Nat) : List (List Nat) → List Nat
  | [] => []
  | [x] => x
  | x :: y :: r => x ++ sep ++ joinL sep (y :: r)
end
end VS

set_option Elab.async false
set_option linter.all false
set_option maxRecDepth 100000
set_option maxHeartbeats 4000000
set_option autoImplicit false
/-! VL: a walk over a list, a tuple or a text; objects made as data; a cell becomes data where it stands; several targets. -/
namespace VS
open PySem PySem.Spec PyProof.Rows L2
section
variable {X : Cx} {T : Tab} {E : XK} {a b c e o i value tg : Expr} {es : List Expr} {ta tb tc te to ti tv : TEv} {tr : TAv} {pos pos' apos cpos p p2 : Pos}
/-! ### any sequence -/
def iAnyR (K : PySem.W.Frag) (tl : TE) : TI := fun σ H R => tl σ H fun x H1 => (∃ a, x = .ref a ∧ (∃ xs, SqL K H1 a xs) ∧ R (Itl K a) H1) ∨ (∃ a, x = .ref a ∧ (∃ xs, SqT K H1 a xs) ∧ R (Itt K a) H1) ∨ ∃ z, x = .str z ∧ R (Its z) H1
theorem pi_any {l : Expr} {tl : TE} (hl : PE X l tl) : PI X tg l (iAnyR X.K tl) := by
  refine ⟨fun pins s σ H R I h => ?_⟩
  refine thn (hl.run pins s σ H _ I h) fun v s1 ⟨x, H1, I1, r1, q1⟩ => ?_
  rcases q1 with ⟨a, e, ⟨xs, hq⟩, q⟩ | ⟨a, e, ⟨xs, hq⟩, q⟩ | ⟨z, e, q⟩
  · subst e
    cases r1
    obtain ⟨its, rv, p, hz⟩ := I1.list hq
    refine wpAny_pyIter_list p.isList ?_
    refine ⟨s1.heap.objs.size, [s1.heap.objs.size], _, _, H1, rfl, I1.kept (t' := s1.toks) fun b o e => Heap.get?_push_of_some _ e, turn_list a _, ⟨_, Heap.get?_push_size _ rfl, rfl, rfl⟩, fun b hb => ?_, q⟩
    have e : b = s1.heap.objs.size := by simpa using hb
    subst e
    exact I1.fpOk (Nat.le_refl _) (I1.hok.fresh (Nat.le_refl _))
  · subst e
    cases r1
    obtain ⟨its, rv, p, hz⟩ := I1.tuple hq
    refine wpAny_pyIter_tuple (show s1.heap.IsTuple a its.toArray from p) ?_
    refine ⟨s1.heap.objs.size, [s1.heap.objs.size], _, _, H1, rfl, I1.kept (t' := s1.toks) fun b o e => Heap.get?_push_of_some _ e, turn_tuple a _, ⟨_, Heap.get?_push_size _ rfl, rfl, rfl⟩, fun b hb => ?_, q⟩
    have e : b = s1.heap.objs.size := by simpa using hb
    subst e
    exact I1.fpOk (Nat.le_refl _) (I1.hok.fresh (Nat.le_refl _))
  · subst e
    obtain ⟨t, rfl⟩ := r1
    cases ha : z.cps.all (· < 128)
    · exact wpAny_pyIter_wide ha (pi_one (tk := s1.toks) I1 _ (turn_str _ z t "str_iterator" (.inr rfl)) ⟨_, Heap.get?_push_size _ rfl, rfl, rfl⟩ q)
    · exact wpAny_pyIter_ascii ha (pi_one (tk := s1.toks) I1 _ (turn_str _ z t "str_ascii_iterator" (.inl rfl)) ⟨_, Heap.get?_push_size _ rfl, rfl, rfl⟩ q)
/-- the items of data -/
def itemsF : F → Option (List W)
  | .lst xs => some (xs.map W.f)
  | .tup xs => some (xs.map W.f)
  | .str s => some (signs s)
  | _ => none
def itemsW : W → Option (List W)
  | .f x => itemsF x
  | .loc _ => none
def ofL (o : Option (List W)) (st : Store) : Res (List W) := match o with
  | some w => .ok w st
  | none => .stuck
def iAny (t : TEv) : TIv := fun env st => (t env st).bind fun w st1 => ofL (itemsW w) st1
theorem vi_any (h : VE X T E e te) : VI X T E tg e (iAny te) := pi_weak (pi_any h) fun σ H R h => by
  obtain ⟨Z, ι, env, st, s, re, p⟩ := h
  refine ⟨Z, ι, env, st, s, re, (Post.bind p).imp fun w st1 H1 Z1 ι1 l1 s1 p1 v rv => ?_⟩
  cases rv with
  | loc _ => exact p1.elim
  | f rv => cases rv with
    | lst e r => exact .inl ⟨_, rfl, ⟨_, SqL.of (s1.sub _ _ e)⟩, p1 H1 Z1 ι1 Le.refl s1 _ (walks_list e r)⟩
    | tup e r => exact .inr (.inl ⟨_, rfl, ⟨_, same_sqt s1.sub e⟩, p1 H1 Z1 ι1 Le.refl s1 _ (walks_tup e r)⟩)
    | str z => exact .inr (.inr ⟨_, rfl, p1 H1 Z1 ι1 Le.refl s1 _ (walks_str z)⟩)
    | _ => exact p1.elim
/-! ### a cell becomes data where it stands -/
/-! ### objects made as data -/
variable {CX : CXT} {k : Nat} {f : Addr} {m : FnM} {x : Str}
/-! ### a, b, c = x, y, z -/
/-! ### (t1, .., tn) = (x1, .., xn): the tuple is made and taken apart; its items may be cells -/
abbrev TM := W → Env → Store → Option (Env × Store)
def RdM (K : PySem.W.Frag) (T : Tab) (g : TM) : TG := fun v σ H Q => ∃ Z ι env st w env' st', SimS K T Z ι st H ∧ EnvR K T Z ι σ env ∧ RepW K T Z ι v w ∧ g w env st = some (env', st') ∧ ∀ σ' H', SimS K T Z ι st' H' → EnvR K T Z ι σ' env' → Q σ' H'
abbrev VM (X : Cx) (T : Tab) (e : Expr) (g : TM) : Prop := PG X e (RdM X.K T g)
end
end VS

set_option Elab.async false
set_option linter.all false
set_option maxRecDepth 100000
set_option maxHeartbeats 4000000
set_option autoImplicit false
/-! VM: x op= e; list(..) as a cell; small helpers for the printed terms. -/
namespace VS
open PySem PySem.Spec PyProof.Rows L2
theorem hu64 {A : Around} {k : Nat} (hr : Room k A) : A.units + 64 < cLine := hr.units
theorem passV {X : Cx} {E : XK} : Passes CX0 X E := fun _ _ _ _ _ _ _ h => h.elim
section
variable {X : Cx} {T : Tab} {E : XK} {a b c e o i value tg : Expr} {es : List Expr} {ta tb tc te to ti tv : TEv} {tr : TAv} {pos pos' apos cpos p p2 : Pos}
/-- list(x) as a cell -/
def lstM (ws : List W) (st : Store) : Res W := match looks st ws with
  | some [x] => (match listF x with
    | some (.lst xs) => .ok (.loc st.length) (st ++ [.lstF xs])
    | _ => .stuck)
  | _ => .stuck
def eListM (t : TAv) : TEv := fun env st => (t env st).bind lstM
theorem ve_listM (hg : Gl X "list") (hm : X.mg "list" = none) (ha : VA X T E [e] tr)
    (he : starEach [e] X.env = (false, eval e X.env) :: starEach [] X.env := by rfl) (hpl : (backTo pos (starEach [] X.env)).any (·.1) = false := by rfl) : VE X T E (.Call (.Name "list" p) [e] [] pos) (eListM tr) :=
  pe_weak (pe_callTy call_list_of hg hm PyProof.Rows.boot_list ha (by decide) (by decide) he hpl) fun σ H Q h => by
    obtain ⟨Z, ι, env, st, s, re, p⟩ := h
    refine ⟨Z, ι, env, st, s, re, (Post.bind p).imp fun ws st1 H1 Z1 ι1 l1 s1 p1 vs rvs => ?_⟩
    unfold lstM at p1
    cases q : looks st1 ws with
    | none => simp only [q] at p1; exact p1.elim
    | some xs =>
      have vv := rvs.views s1 q
      match xs, vv, q with
      | [x], vv, q =>
        simp only [q] at p1
        obtain ⟨v, rfl, hv⟩ := vv.one
        cases q2 : listF x with
        | none => simp only [q2] at p1; exact p1.elim
        | some z =>
          have fin : ∀ (a : Addr) (us : List V) (ys : List F), z = .lst ys → RepFs X.K T Z1 us ys → v = .ref a → (SqL X.K H1 a us ∨ SqT X.K H1 a us) → ∃ p ys, [v] = [.ref p] ∧ (SqL X.K H1 p ys ∨ SqT X.K H1 p ys) ∧ ∀ l, H1 l = none → Q (.ref l) (upd H1 l (.lst ys)) := by
            intro a us ys ez r ev hq
            subst ev ez
            simp only [q2] at p1
            refine ⟨a, us, rfl, hq, fun l hl => ?_⟩
            have hz := free_sub s1.sub hl
            have s2 := s1.alloc (c := Cell.lstF ys) (o := .lst us) hl ⟨hz, us, upd_same, r⟩
            exact p1 _ _ _ Le.alloc s2 _ (.loc (by rw [← s1.len]; exact last_get _ _))
          cases x with
          | lst xs =>
            obtain ⟨a, us, ev, e1, r1⟩ := hv.lst' s1.sub
            cases q2
            exact fin a us xs rfl r1 ev (.inl (SqL.of e1))
          | tup xs =>
            obtain ⟨a, us, ev, e1, r1⟩ := hv.tup'
            cases q2
            exact fin a us xs rfl r1 ev (.inr (same_sqt s1.sub e1))
          | scr ns =>
            cases hv with | f r =>
            cases r with | scr e1 =>
            cases q2
            exact fin _ _ _ rfl (RepFs.ofInts ns) rfl (.inl (s1.sub.seq e1))
          | _ => cases q2
      | [], _, q => simp only [q] at p1; exact p1.elim
      | _ :: _ :: _, _, q => simp only [q] at p1; exact p1.elim
end
end VS

set_option Elab.async false
set_option linter.all false
set_option maxRecDepth 100000
set_option maxHeartbeats 4000000
set_option autoImplicit false
/-! VN: isinstance; what the table of classes must know of it. -/
namespace VS
open PySem PySem.Spec PyProof.Rows L2

/-- the type of a value -/
inductive Ty where
  | non | bl | int | str | tup | lst | dct | own (c : Nat)
/-- a class that is asked for -/
inductive Tg where
  | bl | int | str | tup | lst | dct | own (c : Nat) | ver | xb (c : Nat)
def isT : Tg → Ty → Bool
  | .bl, .bl => true
  | .int, .int => true
  | .int, .bl => true
  | .str, .str => true
  | .tup, .tup => true
  | .lst, .lst => true
  | .dct, .dct => true
  | .own c, .own d => c == d
  | .ver, .own d => decide (500 ≤ d)
  | .xb _, .own d => decide (500 ≤ d)
  | _, _ => false
def kyF : F → Ty
  | .non => .non
  | .bl _ => .bl
  | .int _ => .int
  | .str _ => .str
  | .tup _ => .tup
  | .lst _ => .lst
  | .dct _ => .dct
  | .dlk _ _ => .dct
  | .ktp _ => .tup
  | .obj c _ => .own c
  | .scr _ => .lst
  | .exn c _ => .own c
def tyC : Option Cell → Option Ty
  | some (.lstF _) => some .lst
  | some (.lstW _) => some .lst
  | some (.dct _) => some .dct
  | some (.dti _) => some .dct
  | some (.ins c _) => some (.own c)
  | _ => none
def tyW (st : Store) : W → Option Ty
  | .f x => some (kyF x)
  | .loc n => tyC st[n]?
def tyVal (K : PySem.W.Frag) (T : Tab) : Ty → Value
  | .non => .type "NoneType"
  | .bl => .type "bool"
  | .int => .type "int"
  | .str => .type "str"
  | .tup => .type "tuple"
  | .lst => .type "list"
  | .dct => .type "dict"
  | .own c => .ref (T.ca K c)
def tgVal (K : PySem.W.Frag) (T : Tab) : Tg → Value
  | .bl => .type "bool"
  | .int => .type "int"
  | .str => .type "str"
  | .tup => .type "tuple"
  | .lst => .type "list"
  | .dct => .type "dict"
  | .own c => .ref (T.ca K c)
  | .ver => .type "ValueError"
  | .xb c => .ref (T.ca K c)
def okc (T : Tab) (c : Nat) : Bool := (T.cls[c]?).isSome || T.xvl.contains c
def gOk (T : Tab) : Tg → Bool
  | .own c => okc T c
  | .ver => !T.xvl.isEmpty
  | .xb c => T.xbs.contains c
  | _ => true
theorem okc_cls {T : Tab} {c : Nat} (h : (T.cls[c]?).isSome = true) : okc T c = true := by unfold okc; rw [h]; rfl
theorem okc_xvl {T : Tab} {c : Nat} (h : T.xvl.contains c = true) : okc T c = true := by unfold okc; rw [h, Bool.or_true]
/-- what K says of a class of exceptions that are values -/
def xkB (K : PySem.W.Frag) (C : Addr) : Bool := (PySem.W.clsIn K C).isSome && (decide (PySem.W.findIn K (.ref C) "__getattribute__" = some (some (.builtin "BaseException.__getattribute__"))) && (decide (PySem.W.findIn K (.ref C) "__getattr__" = some none) &&
  (decide (PySem.W.subIn K (.ref C) (.type "BaseException") = some true) && (decide (PySem.W.findIn K (.ref C) "__class__" = some (some (.builtin "object.__class__"))) && (decide (PySem.W.specialIn K (.builtin "object.__class__") "__get__" = some (some (.builtin "getset_descriptor.__get__"))) &&
    (decide (PySem.W.takesIn K (.builtin "object.__class__") = some true) && decide (PySem.W.mroIn K C (.type "object") = some true)))))))
def insB (K : PySem.W.Frag) (C : Addr) : Bool :=
  decide (PySem.W.findIn K (.ref C) "__class__" = some (some (.builtin "object.__class__"))) && (decide (PySem.W.specialIn K (.builtin "object.__class__") "__get__" = some (some (.builtin "getset_descriptor.__get__"))) &&
    (decide (PySem.W.takesIn K (.builtin "object.__class__") = some true) && decide (PySem.W.mroIn K C (.type "object") = some true)))
structure IsiOk (K : PySem.W.Frag) (T : Tab) : Prop where
  ins : ∀ c, (T.cls[c]?).isSome = true → insB K (T.ca K c) = true
  xin : ∀ c, T.xvl.contains c = true → xkB K (T.ca K c) = true
  one : ∀ t g, (∀ c, t = .own c → okc T c = true) → gOk T g = true → PySem.W.kitOne K (tyVal K T t) (tgVal K T g) = some (isT g t)
section
variable {X : Cx} {T : Tab} {E : XK} {Z H : Hp} {ι : List Addr} {st : Store}
theorem sqt_ty {K : PySem.W.Frag} {a : Addr} {vs : List V} (h : SqT K H a vs) : TyX K H (.ref a) (.type "tuple") := by
  rcases h with (h | ⟨o, h⟩) | ⟨o, its, n, e, c, _⟩
  · exact .base (.tup h)
  · exact .fTuple h
  · exact .kTuple e c
theorem sql_ty {K : PySem.W.Frag} {a : Addr} {vs : List V} (h : SqL K H a vs) : TyX K H (.ref a) (.type "list") := by
  rcases h with (h | ⟨o, h⟩) | ⟨o, its, n, e, c, _⟩
  · exact .base (.lst h)
  · exact .base (.frz h)
  · exact .kList e c
theorem ins_ty {K : PySem.W.Frag} {c : Nat} {a dx : Addr} {fs : List (Str × V)} (hT : TabOk K T) (hI : IsiOk K T) (hc : (T.cls[c]?).isSome = true) (e : H a = some (.ins (T.ca K c) dx fs)) : TyX K H (.ref a) (.ref (T.ca K c)) := by
  have h := hI.ins c hc
  unfold insB at h
  simp only [Bool.and_eq_true, decide_eq_true_eq] at h
  exact .base (.ins e (hT.cls c hc) h.1 h.2.1 h.2.2.1 h.2.2.2)
/-- .. or a locked dict with tuples as keys -/
inductive TyY (K : PySem.W.Frag) (H : Hp) : V → Value → Prop where
  | tx {x : V} {t : Value} (h : TyX K H x t) : TyY K H x t
  | fT {a : Addr} {o : Obj} {kvs : List (List Key × V)} (e : H a = some (.frz o (.dT kvs))) : TyY K H (.ref a) (.type "dict")
  | xo {a C : Addr} {d : Option Addr} (e : H a = some (exo a C d)) (ed : ∀ dx, d = some dx → ∃ fs, H dx = some (exd dx fs)) (h : xkB K C = true) : TyY K H (.ref a) (.ref C)
theorem kit_ofY {X : Cx} {pins : List (Addr × Obj)} {σ : L2.St} {H : Hp} {s : Shared} {x : V} {u t : Value} (I : Inv X pins σ H s) (rx : RelV x u) (ty : TyY X.K H x t) : ∃ P : Heap → Prop, PySem.W.KitX X.K u t P ∧ P s.heap ∧ u ≠ .builtin "__main__.__loader__#opaque" := by
  cases ty with
  | tx h => exact kit_of I rx h
  | @fT a ob kvs ea =>
    cases (show u = Value.ref a from rx)
    obtain ⟨_, _, _, xs, _, o, es, ep, h1, h2, _⟩ := (show ObjOk X.prog X.w H s.heap a (.frz ob (.dT kvs)) from I.hok a _ ea)
    exact ⟨_, PySem.W.kitx_dict, ⟨o, h1, h2.1⟩, fun z => nomatch z⟩
  | @xo a C d ea ed hk =>
    cases (show u = Value.ref a from rx)
    unfold xkB at hk
    simp only [Bool.and_eq_true, decide_eq_true_eq] at hk
    obtain ⟨k1, k2, k3, k4, k5, k6, k7, k8⟩ := hk
    obtain ⟨t1, hx⟩ := exo_at I.hok ea
    cases d with
    | none => exact ⟨_, PySem.W.kitx_exc (x := a) (od := none) k1 k2 k3 k4 k5 k6 k7 k8, ⟨hx, rfl, rfl, trivial⟩, fun z => nomatch z⟩
    | some dx =>
      obtain ⟨fs, e2⟩ := ed dx rfl
      obtain ⟨mA, ⟨ob, es, ep, ho, _⟩, _⟩ := exd_at I.hok e2
      exact ⟨_, PySem.W.kitx_exc (x := a) (od := some ob) k1 k2 k3 k4 k5 k6 k7 k8, ⟨hx, rfl, rfl, ho⟩, fun z => nomatch z⟩
def rIsiY (K : PySem.W.Frag) : List V → Hp → VK → Prop := fun xs H Q => ∃ (x c : V) (t u : Value) (b : Bool), xs = [x, c] ∧ ClsV c u ∧ TyY K H x t ∧ PySem.W.kitOne K t u = some b ∧ Q (.bl b) H
theorem call_isiY {X : Cx} : CallR X (.builtin "isinstance") (rIsiY X.K) := by
  intro pins s σ H xs us Q I r h
  obtain ⟨x, c, t, u, b, rfl, k, ty, e, q⟩ := h
  obtain ⟨u1, u2, rfl, r1, r2⟩ := vals2 r
  have e2 := k.eq r2
  subst e2
  obtain ⟨P, Z, p, hx⟩ := kit_ofY I r1 ty
  exact PySem.W.kia_one Z I.kIn p e hx fun tk => ⟨.bl b, H, I.tok tk, rfl, q⟩
theorem ty_ok {K : PySem.W.Frag} (hT : TabOk K T) (hI : IsiOk K T) (s : SimS K T Z ι st H) {v : V} {w : W} (r : RepW K T Z ι v w) {t : Ty} (h : tyW st w = some t) : TyY K H v (tyVal K T t) ∧ ∀ c, t = .own c → okc T c = true := by
  cases r with
  | f r =>
    cases h
    cases r with
    | non => exact ⟨.tx (.base .non), fun _ q => nomatch q⟩
    | bl b => exact ⟨.tx (.base (.bl b)), fun _ q => nomatch q⟩
    | int b => exact ⟨.tx (.base (.int b)), fun _ q => nomatch q⟩
    | str b => exact ⟨.tx (.base (.str _)), fun _ q => nomatch q⟩
    | tup h r => exact ⟨.tx (sqt_ty (same_sqt s.sub h)), fun _ q => nomatch q⟩
    | lst h r => exact ⟨.tx (.base (.lst (s.sub _ _ h))), fun _ q => nomatch q⟩
    | dct h r => exact ⟨.tx (.base (.dK (s.sub _ _ h))), fun _ q => nomatch q⟩
    | ktp ks h => exact ⟨.tx (.base (.tup (s.sub _ _ h))), fun _ q => nomatch q⟩
    | dlt h r => exact ⟨.fT (s.sub _ _ h), fun _ q => nomatch q⟩
    | dlu h r => exact ⟨.tx (.fDict (s.sub _ _ h)), fun _ q => nomatch q⟩
    | obj h c r => exact ⟨.tx (ins_ty hT hI c (s.sub _ _ h)), fun _ q => by cases q; exact okc_cls c⟩
    | scr h => exact ⟨.tx (sql_ty (s.sub.seq h)), fun _ q => nomatch q⟩
    | exn0 h c => exact ⟨.xo (s.sub _ _ h) (fun _ z => nomatch z) (hI.xin _ c), fun _ q => by cases q; exact okc_xvl c⟩
    | exn1 h h2 c r => exact ⟨.xo (s.sub _ _ h) (fun dx z => by cases z; exact ⟨_, s.sub _ _ h2⟩) (hI.xin _ c), fun _ q => by cases q; exact okc_xvl c⟩
  | loc e =>
    rename_i a n
    have h : tyC st[n]? = some t := h
    cases q : st[n]? with
    | none => rw [q] at h; cases h
    | some c =>
      rw [q] at h
      have k := s.cell n a c e q
      cases c with
      | dead => cases h
      | lstF xs => cases h; obtain ⟨_, vs, e1, _⟩ := k; exact ⟨.tx (.base (.lst e1)), fun _ q => nomatch q⟩
      | lstW xs => cases h; obtain ⟨_, vs, e1, _⟩ := k; exact ⟨.tx (.base (.lst e1)), fun _ q => nomatch q⟩
      | dct xs => cases h; obtain ⟨_, vs, e1, _⟩ := k; exact ⟨.tx (.base (.dK e1)), fun _ q => nomatch q⟩
      | dti xs => cases h; obtain ⟨_, vs, e1, _⟩ := k; exact ⟨.tx (.base (.dT e1)), fun _ q => nomatch q⟩
      | ins c fs => cases h; obtain ⟨_, dx, fvs, e1, hc, _⟩ := k; exact ⟨.tx (ins_ty hT hI hc e1), fun _ q => by cases q; exact okc_cls hc⟩
structure TgOk (X : Cx) (T : Tab) (e : Expr) (g : Tg) : Prop where
  ex : ∃ v, PE X e (tC v) ∧ ClsV v (tgVal X.K T g)
  ok : gOk T g = true
theorem tg_ty {x : Str} {pos : Pos} {g : Tg} (hg : Gl X x) (hm : X.mg x = none) (hv : bootBuiltins x = some (tgVal ([] : PySem.W.Frag) T g)) (ho : (match g with
    | .own _ | .ver | .xb _ => false
    | _ => true) = true := by rfl) (hn : x ≠ "__name__" := by decide) (hd : (x == ("__debug__" : Str)) = false := by decide) : TgOk X T (.Name x pos) g := by
  cases g with
  | own c => cases ho
  | ver => cases ho
  | xb c => cases ho
  | bl => exact ⟨⟨.ty "bool", pe_bltn hg hm hv rfl hn hd, .ty _⟩, rfl⟩
  | int => exact ⟨⟨.ty "int", pe_bltn hg hm hv rfl hn hd, .ty _⟩, rfl⟩
  | str => exact ⟨⟨.ty "str", pe_bltn hg hm hv rfl hn hd, .ty _⟩, rfl⟩
  | tup => exact ⟨⟨.ty "tuple", pe_bltn hg hm hv rfl hn hd, .ty _⟩, rfl⟩
  | lst => exact ⟨⟨.ty "list", pe_bltn hg hm hv rfl hn hd, .ty _⟩, rfl⟩
  | dct => exact ⟨⟨.ty "dict", pe_bltn hg hm hv rfl hn hd, .ty _⟩, rfl⟩
theorem tg_ver {x : Str} {pos : Pos} (hg : Gl X x) (hm : X.mg x = none) (hv : bootBuiltins x = some (.type "ValueError")) (hx : gOk T .ver = true) (hn : x ≠ "__name__" := by decide) (hd : (x == ("__debug__" : Str)) = false := by decide) : TgOk X T (.Name x pos) .ver :=
  ⟨⟨.ty "ValueError", pe_bltn hg hm hv rfl hn hd, .ty _⟩, hx⟩
theorem tg_exn {x : Str} {pos : Pos} {c : Nat} (hc : T.xvl.contains c = true) (hg : Gl X x) (hm : X.mg x = some (.ref (T.ca X.K c))) (hd : (x == ("__debug__" : Str)) = false := by decide) : TgOk X T (.Name x pos) (.own c) :=
  ⟨⟨.ref (T.ca X.K c), pe_glob hg hm rfl hd, .own _⟩, okc_xvl hc⟩
theorem tg_xb {x : Str} {pos : Pos} {c : Nat} (hc : T.xbs.contains c = true) (hg : Gl X x) (hm : X.mg x = some (.ref (T.ca X.K c))) (hd : (x == ("__debug__" : Str)) = false := by decide) : TgOk X T (.Name x pos) (.xb c) :=
  ⟨⟨.ref (T.ca X.K c), pe_glob hg hm rfl hd, .own _⟩, hc⟩
def isiAny (gs : List Tg) (t : Ty) : Bool := gs.any fun g => isT g t
def eIsi (gs : List Tg) (te : TEv) : TEv := fun env st => (te env st).bind fun w st1 => match tyW st1 w with
  | some t => .ok (.f (.bl (isiAny gs t))) st1
  | none => .stuck
variable {e c c1 c2 c3 : Expr} {te : TEv} {p pos p2 : Pos}
theorem rd_isi {gs : List Tg} {σ : L2.St} {Q : VK} (hT : TabOk X.K T) (hI : IsiOk X.K T) (h : RdE X.K T E (eIsi gs te) σ H Q) : RdE X.K T E te σ H (fun x H1 => ∃ t, TyY X.K H1 x (tyVal X.K T t) ∧ (∀ c, t = .own c → okc T c = true) ∧ Q (.bl (isiAny gs t)) H1 ∧ ∀ l cs, H1 l = none → Q (.bl (isiAny gs t)) (upd H1 l (.tup cs))) := by
  obtain ⟨Z, ι, env, st, s, re, p⟩ := h
  refine ⟨Z, ι, env, st, s, re, (Post.bind p).imp fun w st1 H1 Z1 ι1 l1 s1 p1 v rv => ?_⟩
  cases q : tyW st1 w with
  | none => simp only [q] at p1; exact p1.elim
  | some t =>
    simp only [q] at p1
    obtain ⟨h1, h2⟩ := ty_ok hT hI s1 rv q
    refine ⟨t, h1, h2, p1 H1 Z1 ι1 Le.refl s1 _ (.f (.bl _)), fun l cs hl => ?_⟩
    have g : Grow Z1 H1 Z1 (upd H1 l (.tup cs)) := ⟨Same.refl Z1, same_new hl, s1.sub.trans (same_new hl), fun _ _ _ => rfl, fun _ _ e => e⟩
    exact p1 _ Z1 ι1 g.le (s1.grow g) _ (.f (.bl _))
theorem ve_isi {g : Tg} (hT : TabOk X.K T) (hI : IsiOk X.K T) (hg : Gl X "isinstance") (hm : X.mg "isinstance" = none) (he : VE X T E e te) (hc : TgOk X T c g)
    (hs : starEach [e, c] X.env = (false, eval e X.env) :: starEach [c] X.env := by rfl) (hs2 : starEach [c] X.env = (false, eval c X.env) :: starEach [] X.env := by rfl) (hpl : (backTo pos (starEach [c] X.env)).any (·.1) = false := by rfl) :
    VE X T E (.Call (.Name "isinstance" p) [e, c] [] pos) (eIsi [g] te) := by
  obtain ⟨v, hv, kv⟩ := hc.ex
  refine pe_weak (pe_callB call_isiY hg hm (by decide +kernel) (pa_cons he (pa_cons hv pa_nil hs2) hs) (by decide) (by decide) hs hpl) fun σ H Q h => ?_
  obtain ⟨Z, ι, env, st, s, re, p⟩ := rd_isi hT hI h
  refine ⟨Z, ι, env, st, s, re, p.imp fun w st1 H1 Z1 ι1 l1 s1 p1 x rx => ?_⟩
  obtain ⟨t, h1, h2, h3, _⟩ := p1 x rx
  refine ⟨x, v, _, _, _, rfl, kv, h1, hI.one t g h2 hc.ok, ?_⟩
  simpa [isiAny] using h3
inductive TgsOk (X : Cx) (T : Tab) : List Expr → List Tg → Prop
  | nil : TgsOk X T [] []
  | cons {e : Expr} {es : List Expr} {g : Tg} {gs : List Tg} : TgOk X T e g → starEach (e :: es) X.env = (false, eval e X.env) :: starEach es X.env → TgsOk X T es gs → TgsOk X T (e :: es) (g :: gs)
theorem TgsOk.all {es : List Expr} {gs : List Tg} (h : TgsOk X T es gs) : ∃ vs, Paired ClsV vs (gs.map (tgVal X.K T)) ∧ (∀ g ∈ gs, gOk T g = true) ∧ PA X es (fun _ H Q => Q vs H) ∧ vs.length = gs.length := by
  induction h with
  | nil => exact ⟨[], Paired.nil, fun g m => (List.not_mem_nil m).elim, pa_weak pa_nil (fun _ _ _ h => h), rfl⟩
  | @cons e es g gs a hs _ ih =>
    obtain ⟨vs, k, o, pa, hl⟩ := ih
    obtain ⟨v, hv, kv⟩ := a.ex
    refine ⟨v :: vs, .cons kv k, fun g' m => ?_, pa_weak (pa_cons hv pa hs) fun _ _ _ h => h, by simp [hl]⟩
    rcases List.mem_cons.mp m with rfl | m
    · exact a.ok
    · exact o g' m
end
end VS

set_option Elab.async false
set_option linter.all false
set_option maxRecDepth 100000
set_option maxHeartbeats 4000000
set_option autoImplicit false
/-! VO: operators of own classes. -/
namespace VS
open PySem PySem.Spec PyProof.Rows L2

section
variable {P : Program} {w : World} {K : PySem.W.Frag} {mg : Str → Option Value} {base : Heap} {T : Tab} {CX : CXT} {k : Nat} {f : Addr} {m : FnM}
end
section
variable {X : Cx} {T : Tab} {E : XK} {CX : CXT} {k : Nat} {g C : Addr} {m : FnM} {sp : Sp}
/-! ### len -/
/-! ### str -/
/-! ### two values, the first one's class has the def -/
/-- .. the second one an int or a text -/
structure BinT (K : PySem.W.Frag) (C : Addr) (nm : String) (Ty : String) : Prop where
  rc : ∃ rc, PySem.W.findIn K (.ref C) (PySem.dunderR nm) = some rc ∧ (rc = none ∨ ∃ g : Addr, rc = some (.ref g))
  fo : ∃ fo, PySem.W.findIn K (.type Ty) (PySem.dunder nm) = some fo
  ro : ∃ ro, PySem.W.findIn K (.type Ty) (PySem.dunderR nm) = some ro
  sub : PySem.W.subIn K (.type Ty) (.ref C) = some false
/-! ### x in y, y of the class -/
end

/-! ### over plain data -/
section
variable {X : Cx} {T : Tab} {E : XK} {CX : CXT} {k c : Nat} {g : Addr} {m : FnM} {a b e : Expr} {ta tb te : TEv} {pos p : Pos}
end
end VS

set_option Elab.async false
set_option linter.all false
set_option maxRecDepth 100000
set_option maxHeartbeats 4000000
set_option autoImplicit false
/-! VP: enumerate and zip over lists, tuples and texts. -/
namespace VS
open PySem PySem.Spec PyProof.Rows L2

/-- what an iterator goes over -/
inductive Sk where
  | lst (a : Addr) | tup (a : Addr) | str (x : Str)
def Sk.val : Sk → V
  | .lst a => .ref a
  | .tup a => .ref a
  | .str x => .str x
def Sk.ads : Sk → List Addr
  | .lst a => [a]
  | .tup a => [a]
  | .str _ => []
def Sk.At (K : PySem.W.Frag) (H : Hp) : Sk → List V → Prop
  | .lst a, vs => SqL K H a vs
  | .tup a, vs => SqT K H a vs
  | .str x, vs => vs = x.cps.toList.map fun c => V.str ⟨#[c]⟩
def So (u : Tok) (sk : Sk) (it : Addr) (i : Nat) (h : Heap) : Prop := match sk with
  | .lst a => h.IsListIter it a i
  | .tup a => h.IsTupleIter it a i
  | .str x => h.IsStrIter it (strIterType x) x u i
def Sk.obj (u : Tok) : Sk → Obj
  | .lst a => { cls := .type "list_iterator", data := .fields #[.ref a, .int 0 0] }
  | .tup a => { cls := .type "tuple_iterator", data := .fields #[.ref a, .int 0 0] }
  | .str x => { cls := .type (strIterType x), data := .fields #[.str x u, .int 0 0] }
theorem So.obj {u : Tok} {sk : Sk} {it : Addr} {i : Nat} {h : Heap} (st : So u sk it i h) : ∃ o, h.get? it = some o ∧ ∀ v, o.data ≠ .cell v := by
  cases sk <;> (obtain ⟨o, e, c, d⟩ := st; exact ⟨o, e, fun v q => by rw [d] at q; cases q⟩)
theorem So.keep {u : Tok} {sk : Sk} {it : Addr} {i : Nat} {h h' : Heap} (st : So u sk it i h) (k : ∀ o, h.get? it = some o → h'.get? it = some o) : So u sk it i h' := by
  cases sk <;> (obtain ⟨o, e, r⟩ := st; exact ⟨o, k o e, r⟩)
theorem So.first {u : Tok} {sk : Sk} {it : Addr} {h : Heap} (e : h.get? it = some (sk.obj u)) : So u sk it 0 h := by
  cases sk <;> exact ⟨_, e, rfl, rfl⟩
section
variable {X : Cx} {pins : List (Addr × Obj)} {σ : L2.St} {H : Hp} {s : Shared}
theorem sk_begins (I : Inv X pins σ H s) {sk : Sk} {vs : List V} {v : Value} (h : sk.At X.K H vs) (r : RelV sk.val v) : ∃ (u : Tok) (P : Heap → Prop), Begins v (sk.obj u) P ∧ P s.heap ∧ ∀ b ∈ sk.ads, b < s.heap.objs.size := by
  cases sk with
  | lst a =>
    cases (show v = Value.ref a from r)
    obtain ⟨its, rv, p, _⟩ := I.list h
    refine ⟨0, _, begins_list a its.toArray, p.isList, fun b hb => ?_⟩
    have e : b = a := by simpa [Sk.ads] using hb
    subst e
    exact p.lt
  | tup a =>
    cases (show v = Value.ref a from r)
    obtain ⟨its, rv, p, _⟩ := I.tuple h
    refine ⟨0, _, begins_tuple a its.toArray, (show s.heap.IsTuple a its.toArray from p), fun b hb => ?_⟩
    have e : b = a := by simpa [Sk.ads] using hb
    subst e
    obtain ⟨o, e, _⟩ := (show s.heap.IsTuple b its.toArray from p)
    exact Heap.lt_size e
  | str x =>
    obtain ⟨t, e⟩ := (show ∃ t, v = Value.str x t from r)
    cases e
    exact ⟨t, _, begins_text x t, trivial, fun b hb => by cases hb⟩
theorem sk_inj (I : Inv X pins σ H s) {sk : Sk} {vs us : List V} (h : sk.At X.K H vs) (h' : sk.At X.K H us) : vs = us := by
  cases sk with
  | lst a => exact I.list_inj h h'
  | tup a => exact I.tuple_inj h h'
  | str x => exact h.trans h'.symm
theorem sk_draws (I : Inv X pins σ H s) {A : Around} (hh : A.handled = none) {sk : Sk} {vs : List V} (h : sk.At X.K H vs) {u : Tok} {it : Addr} {i : Nat} (hn : ∀ b ∈ sk.ads, b ≠ it) (st : So u sk it i s.heap) :
    ∃ (fp : List Addr) (P : Nat → Value → Prop) (St : Nat → Heap → Prop), Draws X.prog X.w A it fp vs.length P St ∧ St i s.heap ∧ fp = it :: sk.ads ∧ (∀ j h, St j h → So u sk it j h) ∧ ∀ v x, P i v → vs[i]? = some x → RelV x v := by
  cases sk with
  | lst a =>
    obtain ⟨its, rv, p, _⟩ := I.list h
    have hl := rv.length
    refine ⟨[it, a], (fun i v => its.toArray[i]? = some v), (fun i h => h.IsListIter it a i ∧ h.IsList a its.toArray), ?_, ⟨st, p.isList⟩, rfl, fun j h q => q.1, fun v x pv hx => ?_⟩
    · have D := Draws.list (prog := X.prog) (w := X.w) hh it a (hn a (by simp [Sk.ads])) its.toArray
      rw [show its.toArray.size = vs.length from by simp [hl]] at D
      exact D
    · obtain ⟨u', hu, ru⟩ := rv.get hx
      have e : its.toArray[i]? = some v := pv
      have e : its[i]? = some v := by simpa using e
      rw [hu] at e
      cases e
      exact ru
  | tup a =>
    obtain ⟨its, rv, p, _⟩ := I.tuple h
    have hl := rv.length
    refine ⟨[it, a], (fun i v => its.toArray[i]? = some v), (fun i h => h.IsTupleIter it a i ∧ h.IsTuple a its.toArray), ?_, ⟨st, (show s.heap.IsTuple a its.toArray from p)⟩, rfl, fun j h q => q.1, fun v x pv hx => ?_⟩
    · have D := Draws.tuple (prog := X.prog) (w := X.w) hh it a (hn a (by simp [Sk.ads])) its.toArray
      rw [show its.toArray.size = vs.length from by simp [hl]] at D
      exact D
    · obtain ⟨u', hu, ru⟩ := rv.get hx
      have e : its.toArray[i]? = some v := pv
      have e : its[i]? = some v := by simpa using e
      rw [hu] at e
      cases e
      exact ru
  | str x =>
    have h : vs = x.cps.toList.map fun c => V.str ⟨#[c]⟩ := h
    subst h
    refine ⟨[it], (fun i v => ∃ c u, x.cps[i]? = some c ∧ v = .str ⟨#[c]⟩ u), (fun i h => h.IsStrIter it (strIterType x) x u i), ?_, st, rfl, fun j h q => q, fun v y pv hx => ?_⟩
    · have D := Draws.text (prog := X.prog) (w := X.w) hh it x u
      rw [show x.cps.size = (x.cps.toList.map fun c => V.str ⟨#[c]⟩).length from by simp] at D
      exact D
    · obtain ⟨c, t, hc, rfl⟩ := pv
      rw [List.getElem?_map] at hx
      obtain ⟨c', e', rfl⟩ := opt_map_some hx
      have hc : x.cps.toList[i]? = some c := by simpa using hc
      rw [hc] at e'
      cases e'
      exact ⟨t, rfl⟩
end
/-! ### zip -/
theorem ge_two {N c : Nat} (h : c = N + 1 ∨ c = N) : N ≤ c := by omega
/-! ### enumerate -/
theorem meets_enum1 {v : Value} {o : Obj} {H : Heap → Prop} (B : Begins v o H) :
    Meets (Builtin.«enumerate.__new__» ⟨[.type "enumerate", v], []⟩) (fun _ R s => H s.heap ∧
      R (.ok (.ret (.ref (s.heap.push o).objs.size))) { s with heap := (s.heap.push o).push { cls := .type "enumerate", data := .fields #[.none, .bool false, .ref s.heap.objs.size, rawInt 0, .none, .none] } }) :=
  .of_wp fun prog w A R s h => by
    obtain ⟨hp, g, d, tk, os⟩ := s; obtain ⟨h1, h⟩ := h
    have hsub := sub_enumerate
    have q1 : ∀ {A' : Around} {E : Value → Shared → Prop} {Q : Value → Shared → Prop}, Q (.ref hp.objs.size) ⟨hp.push o, g, d, tk, os⟩ → wpAny (model prog w) A' (pyIter v) Q E ⟨hp, g, d, tk, os⟩ :=
      fun q => B.iter prog w _ _ ⟨hp, g, d, tk, os⟩ _ h1 q
    wp_walk using q1
    refine wpAny_stack_any fun st => wpAny_pure ?_
    split
    · rename_i c _ _ _ _ _
      cases (c == Value.type "enumerate")
      · wp_walk using q1
        exact ⟨_, rfl, h⟩
      · wp_walk using q1
        exact ⟨_, rfl, h⟩
    · wp_walk using q1
      exact ⟨_, rfl, h⟩
theorem enum_begins1 {prog : Program} {w : World} {A : Around} {E : Value → Shared → Prop} {s : Shared} {v : Value} {o : Obj} {H : Heap → Prop} {Q : Value → Shared → Prop} (B : Begins v o H) (h1 : H s.heap)
    (h : ∀ h', IsEnum h' (s.heap.objs.size + 1) s.heap.objs.size 0 .none → h'.get? s.heap.objs.size = some o → h'.objs.size = s.heap.objs.size + 2 →
      (∀ b o, s.heap.get? b = some o → h'.get? b = some o) → Q (.ref (s.heap.objs.size + 1)) { s with heap := h' }) :
    wpAny (model prog w) A (call (.type "enumerate") [v]) Q E s := by
  refine callType_new F.called_enumerate (by decide) (F.typeCall_enumerate_1 _) (F.newCall_enumerate_1 _) (fun obj => F.args_object_init_2 obj _) F.entry_enumerate_new (meets_enum1 B) ⟨h1, ?_⟩
  have hz : (s.heap.push o).objs.size = s.heap.objs.size + 1 := Heap.size_push ..
  show _ ∧ _
  rw [hz]
  have he : IsEnum ((s.heap.push o).push { cls := .type "enumerate", data := .fields #[.none, .bool false, .ref s.heap.objs.size, rawInt 0, .none, .none] }) (s.heap.objs.size + 1) s.heap.objs.size 0 .none := by
    have := Heap.get?_push_size (s.heap.push o) (o := { cls := .type "enumerate", data := .fields #[.none, .bool false, .ref s.heap.objs.size, rawInt 0, .none, .none] }) rfl
    rw [hz] at this; exact this
  exact ⟨⟨_, he, rfl⟩, h _ he (Heap.get?_push_of_some _ (Heap.get?_push_size _ B.free)) (by rw [Heap.size_push, hz]) fun b o x => Heap.get?_push_of_some _ (Heap.get?_push_of_some _ x)⟩
def IteG (K : PySem.W.Frag) (k : Sk) (n : Nat) : It :=
  ⟨fun i H => ∃ (vs : List V) (x : V), k.At K H vs ∧ vs.length = n ∧ vs[i]? = some x,
    fun i H v H' => ∃ T x, v = .ref T ∧ H T = none ∧ H' = upd H T (.tup [.int (i : Nat), x]) ∧ ∀ vs, k.At K H vs → vs[i]? = some x,
    fun i H => ∃ vs : List V, k.At K H vs ∧ vs.length = n ∧ n ≤ i⟩
theorem turn_enumG {P : Program} {w : World} {K : PySem.W.Frag} {elts : List Expr} {kk : Nat} {tpos : Pos} {e it : Addr} {k : Sk} {n : Nat} {u : Tok} (hne : e ≠ it) (hd : ∀ b ∈ k.ads, b ≠ it) (hd' : ∀ b ∈ k.ads, b ≠ e) :
    Turn P w K (.Tuple elts kk tpos) (IteG K k n) [e, it] e (fun i h => (∃ old, IsEnum h e it ((i : Nat) : Int) old) ∧ So u k it i h ∧ i ≤ n) where
  mem := by simp
  obj := fun i h st b hb => by
    obtain ⟨⟨old, he⟩, hs, _⟩ := st
    have e' : b = e ∨ b = it := by simpa using hb
    rcases e' with z | z
    · rw [z]; exact ⟨_, he, fun v q => nomatch q⟩
    · rw [z]; exact hs.obj
  keep := fun i h h' st k => let ⟨⟨old, he⟩, hi, hl⟩ := st; ⟨⟨old, k e (by simp) _ he⟩, hi.keep fun o q => k it (by simp) o q, hl⟩
  item := by
    intro X hP hw hK hc i pins s σ H E I hf st hg
    subst hP hw hK
    obtain ⟨⟨old, he⟩, h1, l1⟩ := st
    obtain ⟨vs, x, a1, e1, hx⟩ := hg
    have hh : X.A.in1.handled = none := I.ok.hd hc
    obtain ⟨fp1, P1, St1, D1, st1, rfl, so1, r1⟩ := sk_draws I hh a1 hd h1
    have hi1 : i < vs.length := (List.getElem?_eq_some_iff.mp hx).1
    have hel : e < s.heap.objs.size := Heap.lt_size he
    have hil : it < s.heap.objs.size := by obtain ⟨o, q, _⟩ := h1.obj; exact Heap.lt_size q
    have hef : e ∉ it :: k.ads := fun hm => by
      rcases List.mem_cons.mp hm with q | q
      · exact hne q
      · exact hd' e q rfl
    refine wpAny_pyNext_enum_itemC D1 he st1 hi1 hne hef fun x1 h' tk p1 ho hit' hT hsz hk => ?_
    refine ⟨_, rfl, wpAny_letOwnedTupleGo_enum (s := { s with heap := h', toks := tk + 1 }) ho fun h'' he' sb => ?_⟩
    have hT2 : h''.get? s.heap.objs.size = some { cls := .type "tuple", data := .seq #[.int i tk, x1] } := (sb.2 _ (Nat.ne_of_gt hel)).trans hT
    have new : ObjOk X.prog X.w (upd H s.heap.objs.size (.tup [.int (i : Nat), x])) h'' s.heap.objs.size (.tup [.int (i : Nat), x]) :=
      ⟨by show 2 ≤ sizeLine; decide, [.int i tk, x1], .cons ⟨_, rfl⟩ (.cons (r1 _ _ p1 hx) .nil), ⟨_, hT2, rfl, _, rfl⟩⟩
    have I1 : Inv X pins σ (upd H s.heap.objs.size (.tup [.int (i : Nat), x])) { s with heap := h'', toks := tk + 1 } :=
      I.turnedNew (ch := [e, it]) (fun b ob hb q => (sb.2 b (fun z => hb (by simp [z]))).trans (hk b ob (fun z => hb (by simp [z])) (fun z => hb (by simp [z])) q)) hf (Nat.le_refl _) new
    refine ⟨.ref s.heap.objs.size, _, I1, rfl, ⟨_, x, rfl, I.hok.fresh (Nat.le_refl _), rfl, fun ys hy => by rw [sk_inj I hy a1]; exact hx⟩, ⟨⟨x1, ?_⟩, (so1 _ _ hit').keep fun o q => (sb.2 it (Ne.symm hne)).trans q, by omega⟩, fun b hb => ?_⟩
    · have e1 : ((i + 1 : Nat) : Int) = (i : Int) + 1 := by omega
      rw [e1]; exact he'
    · have hb' : b < s.heap.objs.size := by
        have e' : b = e ∨ b = it := by simpa using hb
        rcases e' with z | z
        · rw [z]; exact hel
        · rw [z]; exact hil
      rw [upd_ne (Nat.ne_of_lt hb')]
      exact (hf b hb).1
  done := by
    intro X hP hw hK hc i pins s σ H E I hf st hg
    subst hP hw hK
    obtain ⟨⟨old, he⟩, h1, l1⟩ := st
    obtain ⟨vs, a1, e1, hx⟩ := hg
    have hh : X.A.in1.handled = none := I.ok.hd hc
    obtain ⟨fp1, P1, St1, D1, st1, rfl, so1, r1⟩ := sk_draws I hh a1 hd h1
    have e2 : i = vs.length := by omega
    rw [e2] at st1
    exact wpAny_pyNext_enum_endD D1 he st1 fun h' eb => ⟨rfl, I.turnedL (t' := s.toks) (ch := [e, it]) (fun b o hb q => eb b o (fun z => hb (by simp [z])) q) hf⟩
  self := fun A i s Q E st h => let ⟨⟨_, he⟩, _⟩ := st; wpAny_pyIter_enum he h
def iEnumG (K : PySem.W.Frag) (ta : TA) : TI := fun σ H R => ta σ H fun vs H1 => ∃ (k : Sk) (xs : List V), vs = [k.val] ∧ k.At K H1 xs ∧ R (IteG K k xs.length) H1
theorem pi_enumG {X : Cx} {e : Expr} {ta : TA} {p pos tpos : Pos} {elts : List Expr} {kk : Nat} (hg : Gl X "enumerate") (hm : X.mg "enumerate" = none) (ha : PA X [e] ta) (hs : starEach [e] X.env = [(false, eval e X.env)] := by rfl) :
    PI X (.Tuple elts kk tpos) (.Call (.Name "enumerate" p) [e] [] pos) (iEnumG X.K ta) := by
  refine ⟨fun pins s σ H R I h => ?_⟩
  refine Call_ (ld_blt I hg hm boot_enumerate (PyProof.Rows.callWith_type1 (thn (ha.run pos pins s σ H _ I h) fun us s1 ⟨vs, H1, I1, r1, q1⟩ => ?_) hs rfl))
  obtain ⟨k, xs, ex, a1, q⟩ := q1
  subst ex
  obtain ⟨v1, rfl, rv1⟩ := r1.one
  obtain ⟨u1, P1, B1, p1, b1⟩ := sk_begins I1 a1 rv1
  refine enum_begins1 B1 p1 fun h' he h1 hsz hk => wpAny_pyIter_enum he ?_
  have I2 : Inv X pins σ H1 { s1 with heap := h' } := I1.kept (t' := s1.toks) hk
  refine ⟨s1.heap.objs.size + 1, [s1.heap.objs.size + 1, s1.heap.objs.size], _, _, H1, rfl, I2, turn_enumG (u := u1) (Nat.succ_ne_self _) (fun b hb => Nat.ne_of_lt (b1 b hb)) (fun b hb => Nat.ne_of_lt (Nat.lt_succ_of_lt (b1 b hb))), ⟨⟨.none, he⟩, So.first h1, Nat.zero_le _⟩, fun b hb => ?_, q⟩
  have hle : s1.heap.objs.size ≤ b := by
    have e' : b = s1.heap.objs.size + 1 ∨ b = s1.heap.objs.size := by simpa using hb
    exact ge_two e'
  exact I1.fpOk hle (I1.hok.fresh hle)
end VS

set_option Elab.async false
set_option linter.all false
set_option maxRecDepth 100000
set_option maxHeartbeats 4000000
set_option autoImplicit false
/-! VQ: sorted(set(..)) of ints, what enumerate and zip walk, and other words. -/
namespace VS
section
open PySem PySem.Spec PyProof.Rows L2
variable {P : Program} {w : World} {A : Around} {E : Value → Shared → Prop} {s : Shared}
end
end VS

set_option Elab.async false
set_option linter.all false
set_option maxRecDepth 100000
set_option maxHeartbeats 4000000
set_option autoImplicit false
/-! VR: zip and enumerate over data, sorted(set(..)), stars, str.index, len(range(..)), constants of the module. -/
namespace VS
open PySem PySem.Spec PyProof.Rows L2
section
variable {X : Cx} {T : Tab} {E : XK} {a b c e o i value tg : Expr} {es : List Expr} {ta tb tc te to ti tv : TEv} {tr : TAv} {pos pos' apos cpos p p2 p3 : Pos}
/-! ### what zip and enumerate walk -/
def itemsD : F → Option (List F)
  | .lst xs => some xs
  | .tup xs => some xs
  | .str s => some (s.map fun c => .str [c])
  | _ => none
theorem rep_signs {K : PySem.W.Frag} {Z : Hp} : ∀ s : List Nat, RepFs K T Z ((S s).cps.toList.map fun c => V.str ⟨#[c]⟩) (s.map fun c => .str [c]) := by
  intro s
  show RepFs K T Z (s.toArray.toList.map fun c => V.str ⟨#[c]⟩) (s.map fun c => .str [c])
  rw [List.toList_toArray]
  induction s with
  | nil => exact .nil
  | cons c r ih => exact .cons (.str [c]) ih
theorem sk_of {K : PySem.W.Frag} {Z : Hp} {v : V} {x : F} {xs : List F} (r : RepF K T Z v x) (h : itemsD x = some xs) : ∃ k vs, v = Sk.val k ∧ (∀ H', Same Z H' → k.At K H' vs) ∧ RepFs K T Z vs xs := by
  cases r with
  | lst e r => cases h; exact ⟨.lst _, _, rfl, fun H' s => SqL.of (s _ _ e), r⟩
  | tup e r => cases h; exact ⟨.tup _, _, rfl, fun H' s => same_sqt s e, r⟩
  | str s => cases h; exact ⟨.str (S s), _, rfl, fun H' _ => rfl, rep_signs s⟩
  | _ => cases h
def enumL : Nat → List F → List F
  | _, [] => []
  | n, x :: xs => .tup [.int (n : Int), x] :: enumL (n + 1) xs
theorem enumL_get : ∀ (xs : List F) (n i : Nat), (enumL n xs)[i]? = (xs[i]?).map fun x => .tup [.int ((n + i : Nat) : Int), x]
  | [], n, i => by simp [enumL]
  | x :: xs, n, 0 => by simp [enumL]
  | x :: xs, n, i + 1 => by
    simp only [enumL, List.getElem?_cons_succ]
    rw [enumL_get xs (n + 1) i, show n + 1 + i = n + (i + 1) from by omega]
def enumW (ws : List W) (st : Store) : Res (List W) := match ws with
  | [.f x] => (match itemsD x with
    | some xs => .ok ((enumL 0 xs).map W.f) st
    | _ => .stuck)
  | _ => .stuck
def iEnum (t : TAv) : TIv := fun env st => (t env st).bind enumW
theorem walks_enum {K : PySem.W.Frag} {Z : Hp} {ι : List Addr} {k1 : Sk} {vs : List V} {xs : List F} (a1 : ∀ H', Same Z H' → k1.At K H' vs) (r1 : RepFs K T Z vs xs) :
    Walks K T Z ι (IteG K k1 vs.length) ((enumL 0 xs).map W.f) := by
  intro i Z' ι' H' st' l s
  have sh : Same Z H' := l.z.trans s.sub
  refine ⟨fun w h => ?_, fun h => ?_⟩
  · rw [List.getElem?_map, enumL_get] at h
    obtain ⟨q, hq, rfl⟩ := opt_map_some h
    obtain ⟨x, hx, rfl⟩ := opt_map_some hq
    obtain ⟨v, hv, rv⟩ := r1.get hx
    refine ⟨⟨vs, v, a1 H' sh, rfl, hv⟩, fun z H2 hz => ?_⟩
    obtain ⟨t, x', rfl, hn, rfl, h1⟩ := hz
    have e1 := h1 vs (a1 H' sh)
    rw [hv] at e1
    cases e1
    have hs := same_new (o := .tup [.int (i : Nat), v]) (free_sub s.sub hn)
    refine ⟨_, Grow.laid s.sub hn, .f (.tup (SqT.of upd_same) (.cons ?_ (.cons ((rv.mono l.z).mono hs) .nil)))⟩
    rw [Nat.zero_add]
    exact .int _
  · have hl := List.getElem?_eq_none_iff.mp h
    have : xs.length ≤ i := by
      rw [List.length_map] at hl
      have h2 : (enumL 0 xs)[i]? = none := List.getElem?_eq_none_iff.mpr hl
      rw [enumL_get] at h2
      cases q : xs[i]? with
      | none => exact List.getElem?_eq_none_iff.mp q
      | some x => rw [q] at h2; cases h2
    exact ⟨vs, a1 H' sh, rfl, by rw [r1.length]; exact this⟩
theorem vi_enum {elts : List Expr} {kk : Nat} {tpos : Pos} (hg : Gl X "enumerate") (hm : X.mg "enumerate" = none) (ha : VA X T E [e] tr) (hs : starEach [e] X.env = [(false, eval e X.env)] := by rfl) :
    VI X T E (.Tuple elts kk tpos) (.Call (.Name "enumerate" p) [e] [] pos) (iEnum tr) := pi_weak (pi_enumG hg hm ha hs) fun σ H R h => by
  obtain ⟨Z, ι, env, st, s, re, p⟩ := h
  refine ⟨Z, ι, env, st, s, re, (Post.bind p).imp fun ws st1 H1 Z1 ι1 l1 s1 p1 vs rvs => ?_⟩
  cases rvs with
  | nil => exact p1.elim
  | cons rx rt =>
    cases rt with
    | cons _ _ => cases rx <;> exact p1.elim
    | nil =>
      cases rx with
      | loc _ => exact p1.elim
      | f rx =>
        rename_i v x
        unfold enumW at p1
        cases q1 : itemsD x with
        | none => simp only [q1] at p1; exact p1.elim
        | some xs =>
          simp only [q1] at p1
          obtain ⟨k1, vs1, rfl, a1, r1⟩ := sk_of rx q1
          exact ⟨k1, vs1, rfl, a1 _ s1.sub, p1 H1 Z1 ι1 Le.refl s1 _ (walks_enum a1 r1)⟩
/-! ### sorted(set(xs)) -/
/-! ### stars -/
/-! ### str.index -/
def sidxF : F → List F → Option F
  | .str a, [.str b] => (match Builtin.Str.occurrences (S a) (S b) 0 (S a).length 1 with
    | i :: _ => some (.int (i : Nat))
    | [] => none)
  | _, _ => none
/-! ### len(range(n)) -/
/-! ### constants of the module -/
/-! ### += -/
end
end VS

set_option Elab.async false
set_option linter.all false
set_option maxRecDepth 100000
set_option maxHeartbeats 4000000
set_option autoImplicit false
namespace VS
open PySem PySem.Spec PyProof.Rows L2
@[irreducible] def fuel : Nat := 10 ^ 40
end VS

set_option Elab.async false
set_option linter.all false
set_option maxRecDepth 100000
set_option maxHeartbeats 4000000
set_option autoImplicit false
/-! VY: what the head must have left, as one Bool; the law's own call. -/
namespace VS
open PySem PySem.Spec PyProof.Rows L2
/-! ### the table of classes -/
def clsB (K : PySem.W.Frag) (C : Addr) : Bool := PySem.W.plainGet K C Str.empty && (PySem.W.hasDictIn K C && (PySem.W.plainOver K C && He.eqO (PySem.W.findIn K (.ref C) "__setattr__") (some (some (.builtin "object.__setattr__")))))
theorem clsB_ok {K : PySem.W.Frag} {C : Addr} (c : clsB K C = true) : Cls K C := by
  obtain ⟨c1, c⟩ := He.ba c
  obtain ⟨c2, c⟩ := He.ba c
  obtain ⟨c3, c4⟩ := He.ba c
  exact ⟨c1, c2, c3, He.eqO_ok c4⟩
def tabB (K : PySem.W.Frag) (T : Tab) : Bool := (List.range T.cls.length).all fun c => clsB K (T.ca K c) && (List.range T.fld.length).all fun i => !T.okf c i || He.eqO (PySem.W.findIn K (.ref (T.ca K c)) (T.fn i)) (some none)
theorem some_lt {α : Type} {l : List α} {c : Nat} (h : (l[c]?).isSome = true) : c < l.length := by
  rcases Nat.lt_or_ge c l.length with q | q
  · exact q
  · rw [List.getElem?_eq_none q] at h; cases h
theorem okf_cls {T : Tab} {c i : Nat} (h : T.okf c i = true) : c < T.cls.length := by
  unfold Tab.okf at h
  cases q : T.cls[c]? with
  | none => rw [q] at h; cases h
  | some x => exact some_lt (by rw [q]; rfl)
theorem tabB_ok {K : PySem.W.Frag} {T : Tab} (hn : T.fld.Nodup) (h : tabB K T = true) : TabOk K T := by
  have h' := List.all_eq_true.mp h
  refine ⟨hn, fun c hc => ?_, fun c i hi => ?_⟩
  · exact clsB_ok (He.ba (h' c (List.mem_range.mpr (some_lt hc)))).1
  · have h2 := List.all_eq_true.mp (He.ba (h' c (List.mem_range.mpr (okf_cls hi)))).2 i (List.mem_range.mpr (okf_lt hi))
    rw [hi] at h2
    exact He.eqO_ok (by simpa using h2)
/-! ### isinstance -/
def gAll (T : Tab) : List Tg := [Tg.bl, .int, .str, .tup, .lst, .dct] ++ ((List.range T.cls.length).map Tg.own ++ (T.xvl.map Tg.own ++ ((if T.xvl.isEmpty = true then [] else [.ver]) ++ T.xbs.map Tg.xb)))
def tAll (T : Tab) : List Ty := [Ty.non, .bl, .int, .str, .tup, .lst, .dct] ++ ((List.range T.cls.length).map Ty.own ++ T.xvl.map Ty.own)
def isiAll (K : PySem.W.Frag) (T : Tab) (t : Ty) : Bool := (gAll T).all fun g => decide (PySem.W.kitOne K (tyVal K T t) (tgVal K T g) = some (isT g t))
def isiB (K : PySem.W.Frag) (T : Tab) : Bool := ((tAll T).all fun t => isiAll K T t) && (((List.range T.cls.length).all fun c => insB K (T.ca K c)) && T.xvl.all fun c => xkB K (T.ca K c))
theorem gAll_ok {T : Tab} {g : Tg} (h : gOk T g = true) : g ∈ gAll T := by
  unfold gAll
  cases g with
  | own c =>
    have h : okc T c = true := h
    unfold okc at h
    rw [Bool.or_eq_true] at h
    rcases h with h | h
    · exact List.mem_append_right _ (List.mem_append_left _ (List.mem_map.mpr ⟨c, List.mem_range.mpr (some_lt h), rfl⟩))
    · exact List.mem_append_right _ (List.mem_append_right _ (List.mem_append_left _ (List.mem_map.mpr ⟨c, by simpa using h, rfl⟩)))
  | ver =>
    have h : (!T.xvl.isEmpty) = true := h
    have e : T.xvl.isEmpty = false := by simpa using h
    rw [e]
    simp
  | xb c =>
    have h : T.xbs.contains c = true := h
    exact List.mem_append_right _ (List.mem_append_right _ (List.mem_append_right _ (List.mem_append_right _ (List.mem_map.mpr ⟨c, by simpa using h, rfl⟩))))
  | _ => simp
theorem tAll_ok {T : Tab} {t : Ty} (h : ∀ c, t = .own c → okc T c = true) : t ∈ tAll T := by
  unfold tAll
  cases t with
  | own c =>
    have h := h c rfl
    unfold okc at h
    rw [Bool.or_eq_true] at h
    rcases h with h | h
    · exact List.mem_append_right _ (List.mem_append_left _ (List.mem_map.mpr ⟨c, List.mem_range.mpr (some_lt h), rfl⟩))
    · exact List.mem_append_right _ (List.mem_append_right _ (List.mem_map.mpr ⟨c, by simpa using h, rfl⟩))
  | _ => simp
theorem isiB_ok {K : PySem.W.Frag} {T : Tab} (h : isiB K T = true) : IsiOk K T := by
  obtain ⟨h1, h2⟩ := He.ba h
  obtain ⟨h2, h3⟩ := He.ba h2
  refine ⟨fun c hc => List.all_eq_true.mp h2 c (List.mem_range.mpr (some_lt hc)), fun c hc => List.all_eq_true.mp h3 c (by simpa using hc), fun t g ht hg => ?_⟩
  exact of_decide_eq_true (List.all_eq_true.mp (List.all_eq_true.mp h1 t (tAll_ok ht)) g (gAll_ok hg))
/-! ### the Hook: the defs, the facts by names, one Bool more -/
def SaysX (ex : PySem.W.Frag → Bool) (fa : List He.Fa) (fn : List He.DefD) (K : PySem.W.Frag) : Prop := He.SaysD fa fn K ∧ ex K = true
/-- the heap without the tables of code objects -/
def noTab (H : Hp) : Hp := fun b => match H b with
  | some (.tbl _) => none
  | o => o
theorem noTab_sub (H : Hp) : Same (noTab H) H := fun b o e => by
  unfold noTab at e
  cases q : H b with
  | none => rw [q] at e; cases e
  | some u => rw [q] at e; cases u <;> first | exact e | cases e
theorem noTab_at {H : Hp} {b : Addr} {o : HO} (h : H b = some o) (ht : ∀ ps, o ≠ .tbl ps) : noTab H b = some o := by
  unfold noTab
  rw [h]
  cases o <;> first | rfl | exact absurd rfl (ht _)
theorem noTab_tbl {H : Hp} {b : Addr} {ps : Array Value} : noTab H b ≠ some (.tbl ps) := fun e => by
  have h := noTab_sub H b _ e
  unfold noTab at e
  rw [h] at e
  cases e
theorem noTab_sq {K : PySem.W.Frag} {H : Hp} {a : Addr} {vs : List V} (h : SqL K H a vs) : SqL K (noTab H) a vs := by
  rcases h with (h | ⟨o, h⟩) | h
  · exact .inl (.inl (noTab_at h fun _ => nofun))
  · exact .inl (.inr ⟨o, noTab_at h fun _ => nofun⟩)
  · exact .inr h
/-- the law's promise from its mirror -/
theorem sp_lawT {K : PySem.W.Frag} {T : Tab} {m : FnM} (hm : ∀ ns : List Int, ns.length ≤ 63 → ∃ st, m [.f (.scr ns)] [] = .ok (.f (.bl true)) st) {H : Hp} {a : Addr} {ns : List Int} (hl : ns.length ≤ 63) (hS : SqL K H a (ns.map V.int)) (hT : ∀ p ∈ T.tbs K, LamX.TabS H p.1 p.2) :
    spM K T m [.ref a] H (fun v _ => v = .bl true) fun _ _ _ => False := by
  obtain ⟨st, e⟩ := hm ns hl
  refine ⟨noTab H, [], [.f (.scr ns)], [], ⟨noTab_sub H, rfl, .nil, fun n a c h => by simp at h, fun a h => (by cases h), ⟨fun _ _ => noTab_tbl, fun a h => (by cases h), fun p hp => ⟨?_, hT p hp⟩⟩⟩, .cons (.f (.scr (noTab_sq hS))) .nil, ?_⟩
  · obtain ⟨ps, e, _⟩ := hT p hp
    unfold noTab
    rw [e]
  · rw [e]
    intro H' Z' ι' _ _ v rv
    cases rv with
    | f r => cases r; rfl
end VS

set_option Elab.async false
set_option linter.all false
set_option maxRecDepth 100000
set_option maxHeartbeats 4000000
set_option autoImplicit false
/-! VZ: operators with an own object to the right. -/
namespace PySem.W
open PySem PySem.Calls PyProof.Rows
section
variable {prog : Program} {w : World} {M : Model} {A : Around} {E : Value → Shared → Prop} {s : Shared} {K : Frag} {x C L f f0 : Addr} {h₀ : Heap} {m : Str → Option Value} {ox : Obj} {od : Option Obj} {nm T : String}
end
end PySem.W
namespace VS
open PySem PySem.Spec PyProof.Rows L2
/-- what a class and a type must be for an operator that the right side answers -/
structure BinR (K : PySem.W.Frag) (C : Addr) (nm : String) (Ty : String) : Prop where
  hs : ∃ f0, PySem.W.findIn K (.ref C) (PySem.dunder nm) = some (some (.ref f0))
  ex : ∃ fo ro, PySem.W.findIn K (.type Ty) (PySem.dunder nm) = some fo ∧ PySem.W.findIn K (.type Ty) (PySem.dunderR nm) = some ro ∧ ((fo.isSome && !isSeqSlot fo) || (ro.isSome && !isSeqSlot ro)) = false
section
variable {X : Cx} {T : Tab} {E : XK} {a b e : Expr} {ta tb te : TEv} {pos : Pos} {CX : CXT} {k c : Nat} {g : Addr} {m : FnM} {C : Addr} {sp : Sp}
end
end VS

set_option Elab.async false
set_option linter.all false
set_option maxRecDepth 100000
set_option maxHeartbeats 4000000
set_option autoImplicit false
/-! WA: dicts. -/
namespace VS
open PySem PySem.Spec PyProof.Rows L2

/-! ### tables -/
def keyEq (x y : F) : Bool := match keyF x, keyF y with
  | some a, some b => decide (a = b)
  | _, _ => false
def lookF (kfs : List (F × F)) (y : F) : Option F := (kfs.find? fun p => keyEq p.1 y).map (·.2)
def putDF (kfs : List (F × F)) (y x : F) : List (F × F) :=
  if (kfs.any fun p => keyEq p.1 y) = true then kfs.map (fun p => if keyEq p.1 y = true then (p.1, x) else p) else kfs ++ [(y, x)]
def mergeF (kfs more : List (F × F)) : List (F × F) := more.foldl (fun acc p => putDF acc p.1 p.2) kfs
section
variable {K : PySem.W.Frag} {T : Tab} {Z : Hp}
theorem keyEq_of {x y : F} {a b : Key} (hx : keyF x = some a) (hy : keyF y = some b) : keyEq x y = decide (a = b) := by
  unfold keyEq; rw [hx, hy]
theorem RepFk.val {y : F} {k : Key} (hy : keyF y = some k) : ∀ {kvs : List (Key × V)} {kfs : List (F × F)}, RepFk K T Z kvs kfs →
    (∃ v x, valV kvs k = some v ∧ lookF kfs y = some x ∧ RepF K T Z v x) ∨ (valV kvs k = none ∧ lookF kfs y = none)
  | _, _, .nil => .inr ⟨rfl, rfl⟩
  | _, _, .cons (k := k') (v := v') (y := y') (x := x') (vs := vs) (xs := xs) h r t => by
    have e := keyEq_of h hy
    by_cases hk : k' = k
    · refine .inl ⟨v', x', valV_pos hk, ?_, r⟩
      unfold lookF
      rw [List.find?_cons_of_pos (by rw [e]; exact decide_eq_true hk)]
      rfl
    · have e1 : lookF ((y', x') :: xs) y = lookF xs y := by
        unfold lookF
        rw [List.find?_cons_of_neg (by rw [e]; simp [hk])]
      rw [valV_neg (p := (k', v')) hk, e1]
      exact RepFk.val hy t
theorem RepFk.any {y : F} {k : Key} (hy : keyF y = some k) : ∀ {kvs : List (Key × V)} {kfs : List (F × F)}, RepFk K T Z kvs kfs →
    (kvs.any fun kv => decide (kv.1 = k)) = kfs.any fun p => keyEq p.1 y
  | _, _, .nil => rfl
  | _, _, .cons h r t => by rw [List.any_cons, List.any_cons, RepFk.any hy t, keyEq_of h hy]
theorem RepFk.repl {y x : F} {k : Key} {v : V} (hy : keyF y = some k) (rx : RepF K T Z v x) : ∀ {kvs : List (Key × V)} {kfs : List (F × F)}, RepFk K T Z kvs kfs →
    RepFk K T Z (kvs.map fun kv => if kv.1 = k then (kv.1, v) else kv) (kfs.map fun p => if keyEq p.1 y = true then (p.1, x) else p)
  | _, _, .nil => .nil
  | _, _, .cons (k := k') h r t => by
    rw [List.map_cons, List.map_cons]
    have e := keyEq_of h hy
    by_cases hk : k' = k
    · rw [if_pos hk, if_pos (by rw [e]; exact decide_eq_true hk)]
      exact .cons h rx (RepFk.repl hy rx t)
    · rw [if_neg hk, if_neg (by rw [e]; simp [hk])]
      exact .cons h r (RepFk.repl hy rx t)
theorem RepFk.append : ∀ {vs ws : List (Key × V)} {xs ys : List (F × F)}, RepFk K T Z vs xs → RepFk K T Z ws ys → RepFk K T Z (vs ++ ws) (xs ++ ys)
  | _, _, _, _, .nil, s => s
  | _, _, _, _, .cons h r t, s => .cons h r (RepFk.append t s)
theorem RepFk.put {y x : F} {k : Key} {v : V} {kvs : List (Key × V)} {kfs : List (F × F)} (h : RepFk K T Z kvs kfs) (hy : keyF y = some k) (rx : RepF K T Z v x) : RepFk K T Z (putK kvs k v) (putDF kfs y x) := by
  unfold putK putDF
  rw [h.any hy]
  by_cases q : (kfs.any fun p => keyEq p.1 y) = true
  · rw [if_pos q, if_pos q]; exact h.repl hy rx
  · rw [if_neg q, if_neg q]; exact h.append (.cons hy rx .nil)
theorem RepFk.merge : ∀ {ms : List (Key × V)} {xs : List (F × F)} {kvs : List (Key × V)} {kfs : List (F × F)}, RepFk K T Z ms xs → RepFk K T Z kvs kfs → RepFk K T Z (mergeK kvs ms) (mergeF kfs xs)
  | _, _, _, _, .nil, h => h
  | _, _, _, _, .cons (k := k') (v := v') (y := y') (x := x') (vs := ms) (xs := xs) k r t, h => by
    have := RepFk.merge (ms := ms) (xs := xs) t (h.put k r)
    exact this
theorem rep_key {y : F} {k : Key} {v : V} (h : keyF y = some k) (r : RepF K T Z v y) : v = kV k := by
  cases r with
  | int i => cases h; rfl
  | str s => cases h; rfl
  | _ => cases h
end

/-! ### displays -/
def pairsV : List (TEv × TEv) → Env → Store → Res (List (W × W))
  | [], _, st => .ok [] st
  | (tk, tv) :: r, env, st => (tk env st).bind fun x st1 => (tv env st1).bind fun y st2 => (pairsV r env st2).bind fun ps st3 => .ok ((x, y) :: ps) st3
def RepPs (K : PySem.W.Frag) (T : Tab) (Z : Hp) (ι : List Addr) (qs : List (V × V)) (ps : List (W × W)) : Prop := RepWs K T Z ι (qs.map (·.1)) (ps.map (·.1)) ∧ RepWs K T Z ι (qs.map (·.2)) (ps.map (·.2))
theorem rd_pairs {K : PySem.W.Frag} {T : Tab} {E : XK} : ∀ (ts : List (TEv × TEv)) {σ : L2.St} {H : Hp} {Q : List (V × V) → Hp → Prop} {Z : Hp} {ι : List Addr} {env : Env} {st : Store}, SimS K T Z ι st H → EnvR K T Z ι σ env →
    Post K T E Z ι (pairsV ts env st) (fun ps _ H' Z' ι' => ∀ qs, RepPs K T Z' ι' qs ps → Q qs H') → tPairs (ts.map fun t => (RdE K T E t.1, RdE K T E t.2)) σ H Q
  | [], σ, H, Q, Z, ι, env, st, s, re, p => p H Z ι Le.refl s [] ⟨.nil, .nil⟩
  | (tk, tv) :: r, σ, H, Q, Z, ι, env, st, s, re, p =>
    ⟨Z, ι, env, st, s, re, (Post.bind p).imp fun x st1 H1 Z1 ι1 l1 s1 p1 vx rx => ⟨Z1, ι1, env, st1, s1, re.mono l1, (Post.bind p1).imp fun y st2 H2 Z2 ι2 l2 s2 p2 vy ry =>
      rd_pairs r s2 ((re.mono l1).mono l2) ((Post.bind p2).imp fun ps st3 H3 Z3 ι3 l3 s3 p3 qs rps => p3 H3 Z3 ι3 Le.refl s3 _ ⟨.cons ((rx.mono l2).mono l3) rps.1, .cons (ry.mono l3) rps.2⟩)⟩⟩
def pairsF : List (W × W) → Option (List (F × F))
  | [] => some []
  | (.f y, .f x) :: r => if (keyF y).isSome = true then (pairsF r).map ((y, x) :: ·) else none
  | _ :: _ => none
theorem pairsF_ok {K : PySem.W.Frag} {T : Tab} {Z : Hp} {ι : List Addr} : ∀ {qs : List (V × V)} {ps : List (W × W)} {fs : List (F × F)}, RepPs K T Z ι qs ps → pairsF ps = some fs → ∃ kvs : List (Key × V), qs = kvs.map (fun kv => (kV kv.1, kv.2)) ∧ RepFk K T Z kvs fs
  | [], [], fs, _, h => by cases h; exact ⟨[], rfl, .nil⟩
  | [], _ :: _, _, r, _ => by exact nomatch r.1
  | _ :: _, [], _, r, _ => by exact nomatch r.1
  | (v, u) :: qs, (x, y) :: ps, fs, r, h => by
    obtain ⟨r1, r2⟩ := r
    cases r1 with
    | cons rv t1 =>
    cases r2 with
    | cons ru t2 =>
    cases x with
    | loc n => cases h
    | f x =>
    cases y with
    | loc n => cases h
    | f y =>
    have h : (if (keyF x).isSome = true then (pairsF ps).map ((x, y) :: ·) else none) = some fs := h
    cases hk : keyF x with
    | none => rw [hk] at h; cases h
    | some k =>
      rw [hk] at h
      cases q : pairsF ps with
      | none => rw [q] at h; cases h
      | some gs =>
        rw [q] at h
        cases h
        obtain ⟨kvs, e, rk⟩ := pairsF_ok (qs := qs) (ps := ps) ⟨t1, t2⟩ q
        cases rv with
        | f rv =>
        cases ru with
        | f ru =>
        refine ⟨(k, u) :: kvs, ?_, .cons hk ru rk⟩
        rw [List.map_cons, ← e, ← rep_key hk rv]
def isEmptyD : Option Cell → Bool
  | some (.dct []) => true
  | _ => false
def fewP (n : Nat) : Bool := decide (n ≤ 15)
/-- {k: v, ..} as a cell -/
def eDisp (ts : List (TEv × TEv)) : TEv := fun env st => (pairsV ts env (st ++ [.dct []])).bind fun ps st1 => match pairsF ps with
  | some fs => if isEmptyD st1[st.length]? = true then (if fewP fs.length = true then .ok (.loc st.length) (st1.set st.length (.dct (mergeF [] fs))) else .stuck) else .stuck
  | none => .stuck
theorem RepFk.length' {K : PySem.W.Frag} {T : Tab} {Z : Hp} : ∀ {vs : List (Key × V)} {xs : List (F × F)}, RepFk K T Z vs xs → vs.length = xs.length
  | _, _, .nil => rfl
  | _, _, .cons _ _ t => by rw [List.length_cons, List.length_cons, RepFk.length' t]
section
variable {X : Cx} {T : Tab} {E : XK} {o e f i value : Expr} {to te tf ti tv : TEv} {pos pos' apos cpos : Pos} {ts : List (TEv × TEv)} {keys : List (Option Expr)} {values : List Expr}
abbrev VPs (X : Cx) (T : Tab) (E : XK) (pos : Pos) (keys : List (Option Expr)) (values : List Expr) (ts : List (TEv × TEv)) : Prop := PPs X pos keys values (ts.map fun t => (RdE X.K T E t.1, RdE X.K T E t.2))
theorem vps_nil : VPs X T E pos [] [] [] := pps_nil
theorem vps_cons {k v : Expr} {tk tv : TEv} (hk : VE X T E k tk) (hv : VE X T E v tv) (hr : VPs X T E pos keys values ts) : VPs X T E pos (some k :: keys) (v :: values) ((tk, tv) :: ts) := pps_cons hk hv hr
theorem ve_disp (h : VPs X T E pos keys values ts) (hall : keys.all (·.isSome) = true := by rfl) (hl : keys.length = values.length := by rfl) (h0 : keys ≠ [] := by simp) (h15 : keys.length ≤ 15 := by decide) : VE X T E (.Dict keys values pos) (eDisp ts) :=
  pe_weak (pe_disp h hall hl h0 h15) fun σ H Q q => by
    obtain ⟨Z, ι, env, st, s, re, p⟩ := q
    intro a ha
    have hz := free_sub s.sub ha
    have s2 := s.alloc (c := .dct []) (o := .dK []) ha ⟨hz, [], upd_same, .nil⟩
    have la : Le Z ι Z (ι ++ [a]) := Le.alloc
    refine rd_pairs ts s2 (re.mono la) (((Post.bind p).le la).imp fun ps st1 H1 Z1 ι1 l1 s1 p1 qs rps => ?_)
    have ea : ι1[st.length]? = some a := l1.i _ _ (by rw [← s.len]; exact last_get _ _)
    cases q : pairsF ps with
    | none => simp only [q] at p1; exact p1.elim
    | some fs =>
      simp only [q] at p1
      by_cases hd : isEmptyD st1[st.length]? = true
      · rw [if_pos hd] at p1
        by_cases hf : fewP fs.length = true
        · rw [if_pos hf] at p1
          obtain ⟨kvs, e, rk⟩ := pairsF_ok rps q
          have hc : st1[st.length]? = some (.dct []) := by
            cases q2 : st1[st.length]? with
            | none => rw [q2] at hd; cases hd
            | some c =>
              rw [q2] at hd
              cases c with
              | dct l => cases l with
                | nil => rfl
                | cons _ _ => cases hd
              | _ => cases hd
          obtain ⟨hz1, kv0, e0, r0⟩ := s1.cell _ _ _ ea hc
          cases r0
          refine ⟨e0, kvs, e, by rw [rk.length']; exact of_decide_eq_true hf, ?_⟩
          exact p1 _ Z1 ι1 Le.refl (s1.write ea hz1 ⟨hz1, _, upd_same, rk.merge .nil⟩) _ (.loc ea)
        · rw [if_neg hf] at p1; exact p1.elim
      · rw [if_neg hd] at p1; exact p1.elim
/-! ### asked -/
theorem View.key {K : PySem.W.Frag} {Z H : Hp} {v : V} {y : F} {k : Key} (h : View K T Z H v y) (e : keyF y = some k) : v = kV k := by
  cases h with
  | f r => exact rep_key e r
  | lst _ _ => cases e
  | dct _ _ => cases e
end
end VS

set_option Elab.async false
set_option linter.all false
set_option maxRecDepth 100000
set_option maxHeartbeats 4000000
set_option autoImplicit false
/-! WB: int * own object. -/
namespace PySem
open Sem (wp)
open Builtin
end PySem
namespace PySem.W
open PySem PySem.Calls PyProof.Rows
section
variable {prog : Program} {w : World} {A : Around} {E : Value → Shared → Prop} {s : Shared} {K : Frag} {x C L f f0 dx : Addr} {h₀ : Heap} {m : Str → Option Value} {ox : Obj} {od : Option Obj}
end
end PySem.W

set_option Elab.async false
set_option linter.all false
set_option maxRecDepth 100000
set_option maxHeartbeats 4000000
set_option autoImplicit false
/-! WC: int * own object, the rule. -/
namespace VS
open PySem PySem.Spec PyProof.Rows L2
/-- what a class must be for int * object -/
structure MulR (K : PySem.W.Frag) (C : Addr) : Prop where
  hs : ∃ f0, PySem.W.findIn K (.ref C) (PySem.dunder "mul") = some (some (.ref f0))
  sub : PySem.W.subIn K (.ref C) (.type "int") = some false
section
variable {X : Cx} {T : Tab} {E : XK} {a b e : Expr} {ta tb te : TEv} {pos : Pos} {CX : CXT} {k c : Nat} {g : Addr} {m : FnM} {C : Addr} {sp : Sp}
end
end VS

set_option Elab.async false
set_option linter.all false
set_option maxRecDepth 100000
set_option maxHeartbeats 4000000
set_option autoImplicit false
/-! WD: own object != anything, by the class's __eq__. -/
namespace PySem.W
open PySem PySem.Calls PyProof.Rows
open Builtin
section
variable {prog : Program} {w : World} {A : Around} {E : Value → Shared → Prop} {s : Shared} {K : Frag} {x C L f : Addr} {h₀ : Heap} {m : Str → Option Value} {ox : Obj} {od : Option Obj} {b tb : Value}
end
end PySem.W
namespace VS
open PySem PySem.Spec PyProof.Rows L2
/-- what a class must be for object != anything -/
structure NeC (K : PySem.W.Frag) (C : Addr) : Prop where
  ne : PySem.W.findIn K (.ref C) "__ne__" = some (some (.builtin "object.__ne__"))
  mro : PySem.W.mroIn K C (.type "object") = some true
section
variable {X : Cx} {T : Tab} {E : XK} {a b e : Expr} {ta tb te : TEv} {pos : Pos} {CX : CXT} {k c : Nat} {g : Addr} {m : FnM} {C : Addr} {sp : Sp}
end
end VS
namespace VS
open PySem PySem.Spec PyProof.Rows L2
section
variable {X : Cx} {T : Tab} {E : XK} {pos : Pos}
end
end VS
namespace VS
open PySem PySem.Spec PyProof.Rows L2
section
variable {X : Cx} {T : Tab} {E : XK} {ss : List Stmt} {u : TSv} {i : Nat}
end
end VS

set_option Elab.async false
set_option linter.all false
set_option maxRecDepth 100000
set_option maxHeartbeats 4000000
set_option autoImplicit false
/-! WE: list(text), str(number), str(text). -/
namespace VS
open PySem PySem.Spec PyProof.Rows L2
section
variable {X : Cx} {T : Tab}
/-- how a number is written -/
def strI (i : Int) : List Nat := ((toString i : Str)).cps.toList
end
end VS

set_option Elab.async false
set_option linter.all false
set_option maxRecDepth 100000
set_option maxHeartbeats 4000000
set_option autoImplicit false
/-! WF: a def that is handed cells and only looks at them. -/
namespace VS
open PySem PySem.Spec PyProof.Rows L2
mutual
/-- data without lists, dicts and objects -/
def flat : F → Bool
  | .non => true
  | .bl _ => true
  | .int _ => true
  | .str _ => true
  | .tup xs => flats xs
  | _ => false
def flats : List F → Bool
  | [] => true
  | x :: xs => flat x && flats xs
end
section
variable {P : Program} {w : World} {K : PySem.W.Frag} {mg : Str → Option Value} {base : Heap} {T : Tab} {f : Addr} {k : Nat}
mutual
theorem RepF.flat {Z Z' : Hp} (hz : ∀ a vs, SqT K Z a vs → SqT K Z' a vs) : ∀ {v : V} {x : F}, flat x = true → RepF K T Z v x → RepF K T Z' v x
  | _, _, _, .non => .non
  | _, _, _, .bl b => .bl b
  | _, _, _, .int i => .int i
  | _, _, _, .str s => .str s
  | _, _, h, .tup e r => .tup (hz _ _ e) (RepFs.flat hz (by unfold VS.flat at h; exact h) r)
  | _, _, h, .lst _ _ => by cases h
  | _, _, h, .dct _ _ => by cases h
  | _, _, h, .dlt _ _ => by cases h
  | _, _, h, .ktp _ _ => by cases h
  | _, _, h, .dlu _ _ => by cases h
  | _, _, h, .obj _ _ _ => by cases h
  | _, _, h, .scr _ => by cases h
  | _, _, h, .exn0 _ _ => by cases h
  | _, _, h, .exn1 _ _ _ _ => by cases h
theorem RepFs.flat {Z Z' : Hp} (hz : ∀ a vs, SqT K Z a vs → SqT K Z' a vs) : ∀ {vs : List V} {xs : List F}, flats xs = true → RepFs K T Z vs xs → RepFs K T Z' vs xs
  | _, _, _, .nil => .nil
  | _, _, h, .cons r t => by
    unfold flats at h
    rw [Bool.and_eq_true] at h
    exact .cons (RepF.flat hz h.1 r) (RepFs.flat hz h.2 t)
end
/-- a live cell's address -/
def alive (ι : List Addr) (st : Store) (a : Addr) : Prop := ∃ (n : Nat) (c : Cell), ι[n]? = some a ∧ st[n]? = some c ∧ c ≠ .dead
open Classical in
/-- Z' without the live ones -/
noncomputable def zBut (ι : List Addr) (st : Store) (Z' : Hp) : Hp := fun a => if alive ι st a then none else Z' a
section
variable {Z H H' Z' : Hp} {ι ι' : List Addr} {st : Store}
theorem back (s : SimS K T Z ι st H) (l : Le (zAll Z H ι 0) [] Z' ι') (hs' : Same Z' H') (t : TabI K T Z' ι' H') :
    SimS K T (zBut ι st Z') ι st H' ∧ Le Z ι (zBut ι st Z') ι ∧ (∀ a vs, SqT K Z' a vs → SqT K (zBut ι st Z') a vs) ∧ ∀ a ∈ ι, ∃ o, Z' a = some o := by
  have hin : ∀ a ∈ ι, zAll Z H ι 0 a = H a := fun a ha => by
    unfold zAll
    rw [if_pos (by simpa using ha)]
  have hall : ∀ a ∈ ι, ∃ o, H a = some o ∧ Z' a = some o := fun a ha => by
    obtain ⟨o, eo⟩ := s.there a ha
    exact ⟨o, eo, l.z a o (by rw [hin a ha, eo])⟩
  have hnone : ∀ a, alive ι st a → Z a = none := fun a ⟨n, c, h1, h2, h3⟩ => by
    have k := s.cell n a c h1 h2
    cases c with
    | dead => exact absurd rfl h3
    | lstF xs => exact k.1
    | lstW xs => exact k.1
    | dct xs => exact k.1
    | dti xs => exact k.1
    | ins c fs => exact k.1
  have hz : Same Z (zBut ι st Z') := fun a o e => by
    unfold zBut
    rw [if_neg (fun q => by rw [hnone a q] at e; cases e)]
    exact l.z a o (zAll_same s 0 a o e)
  have sub : Same (zBut ι st Z') H' := fun a o e => by
    unfold zBut at e
    split at e
    · cases e
    · exact hs' a o e
  have le : Le Z ι (zBut ι st Z') ι := ⟨hz, fun _ _ h => h⟩
  refine ⟨⟨sub, s.len, s.nd, fun n a c h1 h2 => ?_, fun a ha => ?_, ⟨fun b ps e => ?_, fun a ha o e => ?_, fun p hp => ?_⟩⟩, le, fun a vs q => ?_, fun a ha => let ⟨o, _, e⟩ := hall a ha; ⟨o, e⟩⟩
  rotate_right 4
  · unfold zBut at e
    split at e
    · cases e
    · exact t.zt b ps e
  · obtain ⟨u, e1, e2⟩ := hall a ha
    have := hs' a u e2
    rw [e] at this
    cases this
    exact s.tab.ct a ha _ e1
  · obtain ⟨h1, h2⟩ := t.tb p hp
    refine ⟨?_, h2⟩
    unfold zBut
    split
    · rfl
    · exact h1
  rotate_left
  · have ha : a ∈ ι := List.mem_of_getElem? h1
    obtain ⟨o, e1, e2⟩ := hall a ha
    have e3 : H' a = H a := by rw [e1]; exact hs' a o e2
    have hno : c ≠ .dead → zBut ι st Z' a = none := fun hc => by unfold zBut; rw [if_pos ⟨n, c, h1, h2, hc⟩]
    have k := s.cell n a c h1 h2
    cases c with
    | dead => trivial
    | lstF xs => obtain ⟨_, vs, e, r⟩ := k; exact ⟨hno nofun, vs, e3.trans e, r.mono hz⟩
    | lstW xs => obtain ⟨_, vs, e, r⟩ := k; exact ⟨hno nofun, vs, e3.trans e, r.mono le⟩
    | dct xs => obtain ⟨_, vs, e, r⟩ := k; exact ⟨hno nofun, vs, e3.trans e, r.mono hz⟩
    | dti xs => obtain ⟨_, vs, e, r⟩ := k; exact ⟨hno nofun, vs, e3.trans e, r.mono hz⟩
    | ins c fs => obtain ⟨_, dx, fvs, e, hc, r⟩ := k; exact ⟨hno nofun, dx, fvs, e3.trans e, hc, r.mono le⟩
  · obtain ⟨o, e1, e2⟩ := hall a ha
    exact ⟨o, hs' a o e2⟩
  · have nt : ∀ o, Z' a = some o → (∀ c : Cell, c ≠ .dead → ∀ (n : Nat), ι[n]? = some a → st[n]? = some c → o ≠ o → False) → True := fun _ _ _ => trivial
    have key : ∀ o, Z' a = some o → (∀ us, o ≠ .lst us) → (∀ us, o ≠ .dK us) → (∀ x y z, o ≠ .ins x y z) → (∀ us, o ≠ .dT us) → zBut ι st Z' a = some o := fun o e n1 n2 n3 n4 => by
      unfold zBut
      rw [if_neg]
      · exact e
      · rintro ⟨n, c, h1, h2, h3⟩
        have ha : a ∈ ι := List.mem_of_getElem? h1
        obtain ⟨u, e1, e2⟩ := hall a ha
        rw [e] at e2
        cases e2
        have k := s.cell n a c h1 h2
        cases c with
        | dead => exact h3 rfl
        | lstF xs => obtain ⟨_, vs, e, _⟩ := k; rw [e1] at e; exact n1 _ (Option.some.inj e)
        | lstW xs => obtain ⟨_, vs, e, _⟩ := k; rw [e1] at e; exact n1 _ (Option.some.inj e)
        | dct xs => obtain ⟨_, vs, e, _⟩ := k; rw [e1] at e; exact n2 _ (Option.some.inj e)
        | dti xs => obtain ⟨_, vs, e, _⟩ := k; rw [e1] at e; exact n4 _ (Option.some.inj e)
        | ins c fs => obtain ⟨_, dx, fvs, e, _⟩ := k; rw [e1] at e; exact n3 _ _ _ (Option.some.inj e)
    rcases q with (q | ⟨o, q⟩) | q
    · exact .inl (.inl (key _ q (fun _ => nofun) (fun _ => nofun) (fun _ _ _ => nofun) (fun _ => nofun)))
    · exact .inl (.inr ⟨o, key _ q (fun _ => nofun) (fun _ => nofun) (fun _ _ _ => nofun) (fun _ => nofun)⟩)
    · exact .inr q
end
end
end VS

set_option Elab.async false
set_option linter.all false
set_option maxRecDepth 100000
set_option maxHeartbeats 4000000
set_option autoImplicit false
/-! WG: xs[::-1], xs.count(k), xs.insert(i, y), one of two readings. -/
namespace VS
open PySem PySem.Spec PyProof.Rows L2
section
variable {X : Cx} {T : Tab} {E : XK} {a b c e e2 o i value : Expr} {es : List Expr} {ta tb tc te te2 to ti tv : TEv} {tr : TAv} {pos pos' apos cpos p p2 : Pos}
/-! ### one of two readings -/
/-! ### xs[::-1] -/
/-! ### xs.count(k) -/
end
end VS

set_option Elab.async false
set_option linter.all false
set_option maxRecDepth 100000
set_option maxHeartbeats 4000000
set_option autoImplicit false
/-! WH: an attribute of a name as a target among others. -/
namespace VS
open PySem PySem.Spec PyProof.Rows L2
section
variable {X : Cx} {T : Tab} {E : XK} {o : Expr} {pos pos' : Pos}
end
end VS

set_option Elab.async false
set_option linter.all false
set_option maxRecDepth 100000
set_option maxHeartbeats 4000000
set_option autoImplicit false
/-! WI: a default that is the empty tuple. -/
namespace VS
open PySem PySem.Spec PyProof.Rows L2
end VS

set_option Elab.async false
set_option linter.all false
set_option maxRecDepth 100000
set_option maxHeartbeats 4000000
set_option autoImplicit false
/-! WJ: a list or a tuple, taken apart. -/
namespace VS
open PySem PySem.Spec PyProof.Rows L2
section
variable {X : Cx} {T : Tab} {e : Expr} {pos : Pos}
end
end VS

set_option Elab.async false
set_option linter.all false
set_option maxRecDepth 100000
set_option maxHeartbeats 4000000
set_option autoImplicit false
/-! WK: dicts that change, dict comprehensions. -/
namespace VS
open PySem PySem.Spec PyProof.Rows L2
section
variable {X : Cx} {T : Tab} {E : XK} {a b c e o i value tg : Expr} {es : List Expr} {ta tb tc te to tk tv : TEv} {tr : TAv} {pos pos' apos cpos p p2 p3 : Pos} {ti : TIv} {g : TGv} {tt : TTv} {vs ss : List Nat}
variable {kx vx iter : Expr} {ifs : List Expr} {scope : Scope} {own : List (Str × Nat)} {tiv : TEv}
end
end VS

set_option Elab.async false
set_option linter.all false
set_option maxRecDepth 100000
set_option maxHeartbeats 1000000
set_option autoImplicit false
/-! XA: an own exception class whose __init__ begins with super().__init__(text). -/
namespace LX
open PySem PySem.Calls PySem.Spec PyProof.Rows L2 LamX NdefX PySem.W
/-- what K says of such a class: C its address, fI its __init__, cc the cell of __class__ -/
structure SupC (K : Frag) (prog : Program) (C fI cc : Addr) (G : NF) : Prop where
  ox : OexC K C
  fn : ∃ oc od doc pm ctv osl, K.lookup fI = some ⟨oc, od, .func (G.fd doc pm ctv), osl⟩
  code : codeIn K (.ref G.c) G.qual = true
  cfil : ∃ ccl cdd vs ccs file tf, K.lookup G.c = some ⟨ccl, cdd, .fields vs, ccs⟩ ∧ vs[2]? = some (.str file tf) ∧ ((prog.main.file : Str) == file) = true
  cl : G.cl = [(("__class__" : Str), cc)]
  cell : ∃ a b c, K.lookup cc = some ⟨a, b, .cell (some (.ref C)), c⟩
  own : mroIn K C (.ref C) = some true
  sup : ks_superIn K C C "__init__" = some (some (.builtin "ValueError.__init__"))
  opq : nsIn K cStatics "thirdparty.any" = some none
  isB : subIn K (.ref C) (.type "ValueError") = some true
  noS : nsIn K mainGlobals "super" = some none
section
variable {CX : CXT} {P : Program} {w : World} {K : Frag} {mg : Str → Option Value} {base : Heap} {C fI cc : Addr} {G : NF} {N pr : List Str} {k : Nat} {sp : Sp} {doc pm ctv oc : Value} {od : Option Addr} {osl : Array (Option Value)}
theorem exinit_ok {p0 p1 p2 p3 p4 p5 : Pos} {msg : Str} {j : Nat} {rest : List Stmt} {pl : Sem Bool} (D : SupC K P C fI cc G) (hfn : K.lookup fI = some ⟨oc, od, .func (G.fd doc pm ctv), osl⟩)
    (S : NScope N (("self" : Str) :: pr) ["__class__"] G.scope)
    (hbody : G.body = .Expr (.Call (.Attribute (.Call (.Name "super" p0) [] [] p1) "__init__" p2) [.Constant (.str msg) j p3] [] p4) p5 :: rest)
    (hpar : ∃ ar, (G.params.posonlyargs ++ G.params.args).head? = some ar ∧ ar.arg = "self")
    (hks : G.scope.names.lookup ("super" : Str) = some .globalImplicit)
    (htop : (P.main.scope.names.lookup ("super" : Str)).isSome = false)
    (hs : ∀ env, swapsWith (.Call (.Attribute (.Call (.Name "super" p0) [] [] p1) "__init__" p2) [.Constant (.str msg) j p3] [] p4) none p5.line env = pure false)
    (hi : ∀ L, interactive (envF G fI L) = false)
    (he : ∀ L, eval (.Call (.Attribute (.Call (.Name "super" p0) [] [] p1) "__init__" p2) [.Constant (.str msg) j p3] [] p4) (envF G fI L) = (do
      let ov ← attributeBase (.Call (.Name "super" p0) [] [] p1) "__init__" (envF G fI L) (eval (.Call (.Name "super" p0) [] [] p1) (envF G fI L))
      standAt p2.atName
      let (f, first) ← holding [ov] (getMethod ov "__init__" pl)
      callWith p4 f first (backTo p4 (starEach [.Constant (.str msg) j p3] (envF G fI L))) []))
    (hsp : ∀ vs H Q E, sp vs H Q E → vs.length = pr.length + 1 ∧ ∃ a r, vs = .ref a :: r ∧ H a = some (exo a C none))
    (hrest : ∀ (A : Around) (outer : List Env) (s : Shared) (H : Hp) (vs : List V) (Q : VK) (E : XK), Room k (A.deeper (envF G fI s.heap.objs.size)) → sp vs H Q E →
      ∃ t, PSs (ncx CX P w K mg base N G fI A outer s H E) rest t ∧ t { nx := fun _ H' => Q .non H', rt := Q } (startF N vs [none]) H) :
    FnOk P w K mg base CX (k + 1) fI (G.fd doc pm ctv) (("self" : Str) :: pr) sp := by
  refine ⟨fun vs H Q E h => (hsp _ _ _ _ h).1, fun A outer s H args us vs Q E hr e0 hb r h => ?_⟩
  obtain ⟨hl, a, rv, ev, ea⟩ := hsp _ _ _ _ h
  have hl : vs.length = (("self" : Str) :: pr).length := hl
  obtain ⟨nm, q, Nn, bs, bm, sn, sub, ab, col, dd, k0, k1, k2, k3, k5, hC, hbm⟩ := D.ox.cls
  obtain ⟨ccl, cdd, cvs, ccs, file, tf, hcc, hvs, hfile⟩ := D.cfil
  obtain ⟨ca, cb, cs, hcell⟩ := D.cell
  obtain ⟨ar, har, har2⟩ := hpar
  have kb : ∀ b o, base.get? b = some o → s.heap.get? b = some o := fun b o e => (e0.bs b o e).1
  have KX : K.In s.heap := e0.mod.kin.keeps kb
  have lim : s.heap.NoLimit := e0.mod.nolimit.keeps kb
  have C0 : CellsAt G.cl ["__class__"] [none] s.heap H := by
    rw [D.cl]
    have only : ∀ y c, ([("__class__", cc)] : List (Str × Addr)).lookup y = some c → y = "__class__" ∧ c = cc := fun y c e => by
      have := PySem.mem_of_lookup e
      simp at this
      exact this
    refine ⟨rfl, fun y c e => ?_, fun x y c e1 e2 => ?_, fun i y e => ?_⟩
    · obtain ⟨rfl, rfl⟩ := only y c e
      exact ⟨(e0.bs _ _ (e0.mod.kin _ _ hcell)).2, _, _, KX _ _ hcell, rfl⟩
    · rw [(only x c e1).1, (only y c e2).1]
    · cases i with
      | zero =>
        simp at e
        subst e
        exact ⟨cc, rfl, fun v e => by simp at e⟩
      | succ i => simp at e
  have hu : ∃ ur, us = .ref a :: ur := by
    rw [ev] at r
    cases r with
    | cons r1 r2 => exact ⟨_, congrArg (· :: _) (show _ = Value.ref a from r1)⟩
  obtain ⟨ur, rfl⟩ := hu
  obtain ⟨hp, g, d, tk, os⟩ := s
  refine ks_codeAny_call_defAt (fd := G.fd doc pm ctv) (body := G.body) (binds := (("self" : Str) :: pr).zip (Value.ref a :: ur)) hr.depth (KX _ _ hfn) rfl lim (codeRec_of KX D.code) rfl hb S.nocell (fun ⟨n, _⟩ hy => S.par n (List.of_mem_zip hy).1) (fun h₁ hns kp => ?_) S.co S.gen S.kind
  have I : Inv (ncx CX P w K mg base N G fI A outer ⟨hp, g, d, tk, os⟩ H E) [] (startF N vs [none]) H ⟨h₁, g, d, tk + ((("self" : Str) :: pr).zip (Value.ref a :: ur)).length, os⟩ := inv_startN S hr.hd e0 hl r C0 hns kp
  show _root_.PySem.wpAt (model P w) (A.deeper (envF G fI hp.objs.size)) (.func G.body (envF G fI hp.objs.size)) (execs G.body (envF G fI hp.objs.size)) _ _ ⟨h₁, g, d, tk + ((("self" : Str) :: pr).zip (Value.ref a :: ur)).length, os⟩
  obtain ⟨t, ht, hq⟩ := hrest A outer ⟨hp, g, d, tk, os⟩ H vs Q E (hr.deeper _) h
  have X1 : K.In h₁ := KX.keeps kp
  have kb1 : ∀ b o, base.get? b = some o → h₁.get? b = some o := fun b o e => kp b o (kb b o e)
  obtain ⟨mb, hmb, hmb2⟩ := e0.mod.blt
  have hmg : mg "super" = none := mg_none_of X1 (e0.mod.glob.keeps kb1) D.noS
  have hcl : clsIn K C = some { name := nm, bases := bs, mro := .ref C :: bm, ns := Nn, qualname := q, hasDict := true, slotNames := sn, subclasses := sub, abstract := ab, collection := col, hasDel := false } := by unfold PySem.W.clsIn; rw [hC] <;> rfl
  obtain ⟨t1, hea⟩ := exo_at I.hok ea
  have ndP : ((("self" : Str) :: pr)).Nodup := by
    have := S.nd.sublist (List.take_sublist ((("self" : Str) :: pr).length + ([("__class__" : Str)]).length) N)
    rw [S.pre] at this
    exact (List.nodup_append.mp this).1
  rw [hbody]
  refine ks_wpAt_execs_cons (ks_wpAt_Expr_any (hi := hi _) (hs := hs _) (ks_wpAt_MethodCall (pl := pl) (he := he _) ?_))
  refine ks_wpAt_super_base (f := fI) (cc := G.c) (ar := ar) hks (S.frk "__class__" (by simp)) (by decide) rfl (X1 _ _ hfn) rfl har rfl (X1 _ _ hcc) rfl hvs hfile htop ?_
  refine ks_loadName_global S.kind hks (loadGlobal_builtin (env := envF G fI hp.objs.size) (e0.mod.glob.keeps kb1) hmg (hmb.keeps kb1) ((hmb2 _ (by decide +kernel)).trans (show bootBuiltins "super" = some (.type "super") from by first | rfl | decide +kernel)) ⟨rfl, ?_⟩)
  refine wpAny_loadName_free S.kind (S.frk "__class__" (by simp)) (by show G.cl.lookup ("__class__" : Str) = some cc; rw [D.cl]; rfl) ⟨_, X1 _ _ hcell, rfl⟩ ?_
  rw [har2]
  refine wpAny_loadName_local S.kind (S.par "self" (by simp)) hns (v := .ref a) (zip_look (ps := ("self" : Str) :: pr) (i := 0) ndP rfl rfl) ?_
  refine ks_wpAny_isType_cls (X1 _ _ hC) rfl ⟨rfl, ?_⟩
  have hX : InstAt h₁ a ({ cls := .ref C, dict := none, data := .fields #[.ref t1, .none, .none, .none, .bool false, .none] } : Obj) C none := ⟨hea, rfl, rfl, trivial⟩
  refine ks_wpAny_call_super (X1 _ _ hC) rfl hea rfl (fun c e => by cases e) (looks_mroIn X1 D.own) fun h2 e2 kp2 => ?_
  have I2 := I.kept (t' := tk + ((("self" : Str) :: pr).zip (Value.ref a :: ur)).length) kp2
  have X2 : K.In h2 := X1.keeps kp2
  have hm := D.sup
  unfold ks_superIn at hm
  rw [hcl] at hm
  have hI : Looks (model P w) h2 (isInstance (.ref a) (.type "ValueError")) true := (show InstAt h2 a _ C none from ⟨kp2 _ _ hea, rfl, rfl, trivial⟩).type.andThen (looks_subIn X2 D.isB)
  refine kxs_getMethod kxs_ValueError e2 (looks_opaque X2 D.opq) (l₀ := .ref C :: bm) (fun A Q E s k q => wpAny_bind ((looks_clsIn X2 hcl) A _ E s k (wpAny_pure q))) rfl X2 hm hI (ks_ne X1 hX hcl) (by decide) ?_
  have kp3 : ∀ b o, h2.get? b = some o → (h2.push (kxs_mw "ValueError.__init__" a)).get? b = some o := fun b o e => Heap.get?_push_of_some _ e
  have I3 := I2.kept (t' := tk + ((("self" : Str) :: pr).zip (Value.ref a :: ur)).length + 1) kp3
  have hmw : (h2.push (kxs_mw "ValueError.__init__" a)).get? h2.objs.size = some (kxs_mw "ValueError.__init__" a) := Heap.get?_push_size h2 rfl
  generalize (h2.push (kxs_mw "ValueError.__init__" a)) = h3 at *
  refine kxs_callWith (i := "ValueError.__init__") (x := a) rfl ?_
  show wpAny _ _ (evalArgs (.ref h2.objs.size) true [(false, eval (.Constant (.str msg) j p3) (envF G fI hp.objs.size))] []) _ _ _
  refine evalArgs_plain (spliced_cons (wpAny_Constant_str (spliced_nil ⟨hmw, ?_⟩)))
  have X3 : K.In h3 := X2.keeps kp3
  obtain ⟨t2, he3⟩ := exo_at I3.hok ea
  have eu : upd H a (exo a C none) = H := by
    funext b
    by_cases hb : b = a
    · rw [hb, upd_same, ea]
    · rw [upd_ne hb]
  refine wpAny_call (codeAny_of_tree ?_)
  show wpAny _ _ (callAny (.ref h2.objs.size) ⟨[.str msg _], []⟩) _ _ _
  simp only [callAny]
  refine wpAny_bind (wpAny_load hmw ?_)
  simp only [kxs_mw, show (Value.type "method-wrapper" == Value.type "method" || Value.type "method-wrapper" == Value.type "builtin_function_or_method" || Value.type "method-wrapper" == Value.type "method-wrapper") = true by decide, if_true]
  refine KFB.if_so (by decide) ?_
  refine wpAny_bind (check_bound_init PySem.F.excBase_ValueError.toExcCallFacts (X3 _ _ hC) he3 rfl ?_)
  refine wpAny_bind (wpAny_pure (wpAny_pure ?_))
  refine ⟨plainId_quiet PySem.F.excBase_ValueError.init.plain _, codeAny_builtin PySem.F.excBase_ValueError.initEntry ?_⟩
  refine exc_init_tree (cls := .ref C) (t0 := t2) (dv := none) (c2 := .none) (c3 := .none) (b4 := .bool false) he3 (show (1 : Nat) ≤ sizeLine by rw [sizeLine_eq]; decide) fun h4 kp4 he4 ht4 => ?_
  have J := I3.write (t' := tk + (((("self" : Str) :: pr)).zip (Value.ref a :: ur)).length + 1 + 1) (x := a) (e := a) (o := exo a C none) (by rw [ea]; exact True.intro) (.inl rfl) kp4 ⟨_, he4⟩ (exo_ok he4)
  rw [eu] at J
  show _root_.PySem.wpAt (model P w) (A.deeper (envF G fI hp.objs.size)) _ (execs rest (envF G fI hp.objs.size)) _ _ _
  refine wpAt_of_wpAny (wpAny_mono (ht.run [] _ (startF N vs [none]) H _ J hq) (fun fl s' hs => ?_) fun e s' hs => hs)
  have fin : ∀ {σ' : L2.St} {H' : Hp} {v : V} {u : Value}, Inv (ncx CX P w K mg base N G fI A outer ⟨hp, g, d, tk, os⟩ H E) [] σ' H' s' → L2.RelV v u → Q v H' → CE outer P w H ⟨hp, g, d, tk, os⟩ Q u s' :=
    fun {σ' H' v u} J rv q => ⟨v, H', J.os, J.bare, J.base, J.hok, rv, q⟩
  cases fl with
  | ret u =>
    obtain ⟨v, σ', H', J, rv, q⟩ := hs
    exact fin J rv q
  | next =>
    obtain ⟨σ', H', J, q⟩ := hs
    exact fin (v := V.non) (u := Value.none) J rfl q
  | brk =>
    obtain ⟨_, _, _, q⟩ := hs
    exact False.elim q
  | cont =>
    obtain ⟨_, _, _, q⟩ := hs
    exact False.elim q
end
end LX

set_option Elab.async false
set_option linter.all false
set_option maxRecDepth 100000
set_option maxHeartbeats 1000000
set_option autoImplicit false
/-! XB: raise C(e), C an own exception class with one field. -/
namespace LX
open PySem PySem.Calls PySem.Spec PyProof.Rows L2 LamX NdefX PySem.W
/-- __init__(self, x): super().__init__(text); self.f = x -/
def sp1 (C : Addr) (f : Str) : Sp := fun vs H Q _ => ∃ (a : Addr) (y : V), vs = [.ref a, y] ∧ H a = some (exo a C none) ∧ ∀ dx, H dx = none → dx ≠ a → Q .non (upd (upd H dx (exd dx [(f, y)])) a (exo a C (some dx)))
section
variable {CX : CXT} {P : Program} {w : World} {K : Frag} {mg : Str → Option Value} {base : Heap} {C fI cc : Addr} {G : NF} {N : List Str} {k : Nat} {doc pm ctv oc : Value} {od : Option Addr} {osl : Array (Option Value)} {pn f : Str}
theorem exinit1 {p0 p1 p2 p3 p4 p5 q1 q2 q3 q4 : Pos} {msg : Str} {j : Nat} {pl : Sem Bool} (D : SupC K P C fI cc G) (hfn : K.lookup fI = some ⟨oc, od, .func (G.fd doc pm ctv), osl⟩)
    (S : NScope N [("self" : Str), pn] ["__class__"] G.scope)
    (hbody : G.body = [.Expr (.Call (.Attribute (.Call (.Name "super" p0) [] [] p1) "__init__" p2) [.Constant (.str msg) j p3] [] p4) p5, .Assign [.Attribute (.Name "self" q1) f q2] (.Name pn q3) q4])
    (hpar : ∃ ar, (G.params.posonlyargs ++ G.params.args).head? = some ar ∧ ar.arg = "self")
    (hks : G.scope.names.lookup ("super" : Str) = some .globalImplicit)
    (htop : (P.main.scope.names.lookup ("super" : Str)).isSome = false)
    (hs : ∀ env, swapsWith (.Call (.Attribute (.Call (.Name "super" p0) [] [] p1) "__init__" p2) [.Constant (.str msg) j p3] [] p4) none p5.line env = pure false)
    (hs2 : ∀ env, swapsWith (.Name pn q3) (some (.Attribute (.Name "self" q1) f q2)) q4.line env = pure false)
    (hi : ∀ L, interactive (envF G fI L) = false)
    (he : ∀ L, eval (.Call (.Attribute (.Call (.Name "super" p0) [] [] p1) "__init__" p2) [.Constant (.str msg) j p3] [] p4) (envF G fI L) = (do
      let ov ← attributeBase (.Call (.Name "super" p0) [] [] p1) "__init__" (envF G fI L) (eval (.Call (.Name "super" p0) [] [] p1) (envF G fI L))
      standAt p2.atName
      let (f, first) ← holding [ov] (getMethod ov "__init__" pl)
      callWith p4 f first (backTo p4 (starEach [.Constant (.str msg) j p3] (envF G fI L))) []))
    (hN0 : N[0]? = some ("self" : Str)) (hN1 : N[1]? = some pn) (hno : findIn K (.ref C) f = some none)
    (hd1 : (pn == ("__debug__" : Str)) = false) (hd2 : (pn == ("__classdict__" : Str)) = false) :
    FnOk P w K mg base CX (k + 1) fI (G.fd doc pm ctv) [("self" : Str), pn] (sp1 C f) := by
  refine exinit_ok (pr := [pn]) (rest := [.Assign [.Attribute (.Name "self" q1) f q2] (.Name pn q3) q4]) D hfn S hbody hpar hks htop hs hi he (fun vs H Q E h => ?_) fun A outer s H vs Q E hr h => ?_
  · obtain ⟨a, y, rfl, e, _⟩ := h
    exact ⟨rfl, a, [y], rfl, e⟩
  · obtain ⟨a, y, rfl, e, q⟩ := h
    refine ⟨_, pss_one (ps_ost (pe_var (i := 0) hN0 (.inl (S.par _ (by simp)))) (pe_var (i := 1) hN1 (.inl (S.par _ (by simp))) hd1 hd2) (hs2 _)), ?_⟩
    exact ⟨y, rfl, .ref a, rfl, a, C, rfl, D.ox, hno, .inl ⟨e, fun dx hx ne => q dx hx ne⟩⟩
end
end LX
namespace VS
open PySem PySem.Spec PyProof.Rows L2 LX
section
variable {X : Cx} {T : Tab} {E : XK} {e : Expr} {te : TEv} {W : WX} {CX : CXT} {x : Str} {k c i : Nat} {fI : Addr} {fd : FuncData} {ps : List Str} {p pos pos' : Pos}
theorem SimS.xd {K : PySem.W.Frag} {Z H : Hp} {ι : List Addr} {st : Store} {d : Addr} {fs : List (Str × V)} (s : SimS K T Z ι st H) (hd : H d = none) : SimS K T Z ι st (upd H d (.xd fs)) :=
  s.grow ⟨Same.refl Z, same_new hd, s.sub.trans (same_new hd), fun _ _ _ => rfl, fun _ _ e => e⟩
end
end VS

set_option Elab.async false
set_option linter.all false
set_option maxRecDepth 100000
set_option maxHeartbeats 1000000
set_option autoImplicit false
/-! XC: several clauses 'except X as e' of which one catches all that comes; the def that calls what it got. -/
namespace LX
open PySem PySem.Calls PySem.Spec PyProof.Rows L2 LamX NdefX
/-- what the clauses wish: one of them fits -/
def wAll (K : PySem.W.Frag) (D : Ends) : List (Value × (Addr → Value → Option Addr → TS)) → WX
  | [] => fun _ _ _ _ => False
  | (c, ts) :: r => fun cls d σ H => ∃ b, PySem.W.exmOne K cls c = some b ∧ (b = true → ∀ a, H a = none → ts a cls d D σ H) ∧ (b = false → wAll K D r cls d σ H)
/-- a clause with a name at i: the name goes behind it -/
def tAs (i : Nat) (ts : Addr → Value → Option Addr → TS) : Addr → Value → Option Addr → TS := fun a cls d D σ H =>
  ts a cls d { nx := fun σ' H' => D.nx (σ'.set i none) H', rt := D.rt, bk := fun σ' H' => D.bk (σ'.set i none) H', ct := fun σ' H' => D.ct (σ'.set i none) H' } (σ.set i (some (.ref a))) H
inductive HdsA (X : Cx) : List ExceptHandler → List (Value × (Addr → Value → Option Addr → TS)) → Prop
  | nil : HdsA X [] []
  | as_ {x n : Str} {i : Nat} {c : Value} {ts : Addr → Value → Option Addr → TS} {b₀ : Stmt} {suite : List Stmt} {np pos' : Pos} {hds : List ExceptHandler} {l : List (Value × (Addr → Value → Option Addr → TS))} (hN : X.N.Nodup) (hi : X.N[i]? = some n) (hln : X.env.kindOf n = some .local) (hc : Names X x c)
      (hsu : ∀ (a : Addr) (oe : Obj) (cls : Value) (d : Option Addr) (pn : List (Addr × Obj)), Zc cls d oe → (∃ vs, oe.data = .fields vs) → PSs (X.suite a ((a, oe) :: pn)) (b₀ :: suite) (ts a cls d)) (r : HdsA X hds l) :
      HdsA X (.ExceptHandler (some (.Name x np)) (some n) (b₀ :: suite) pos' :: hds) ((c, tAs i ts) :: l)
  | plain {x : Str} {c : Value} {ts : Addr → Value → Option Addr → TS} {b₀ : Stmt} {suite : List Stmt} {np pos' : Pos} {hds : List ExceptHandler} {l : List (Value × (Addr → Value → Option Addr → TS))} (hc : Names X x c)
      (hsu : ∀ (a : Addr) (oe : Obj) (cls : Value) (d : Option Addr) (pn : List (Addr × Obj)), Zc cls d oe → (∃ vs, oe.data = .fields vs) → PSs (X.suite a ((a, oe) :: pn)) (b₀ :: suite) (ts a cls d)) (r : HdsA X hds l) :
      HdsA X (.ExceptHandler (some (.Name x np)) none (b₀ :: suite) pos' :: hds) ((c, ts) :: l)
section
variable {X : Cx} {body : List Stmt} {h₀ : ExceptHandler} {hds : List ExceptHandler} {l : List (Value × (Addr → Value → Option Addr → TS))} {pos : Pos} {tb : WX → TS}
theorem ps_try_all (hs : X.stack = X.env :: X.outer) (hf : X.env.frame = some X.env.locals)
    (hb : ∀ (W : WX) (pn : List (Addr × Obj)) (xe : Value → Shared → Prop), Takes (X.tr pn xe) W → PassesOwn (model X.prog X.w) X.A X.env xe → PSs (X.tr pn xe) body (tb W))
    (hh : HdsA X (h₀ :: hds) l) : PS X (.Try body (h₀ :: hds) [] [] pos) (fun D σ H => tb (wAll X.K D l) D σ H) := by
  refine ⟨fun pins s σ H D I h => ?_⟩
  have ok := I.ok
  have hfr : X.A.frames = some (X.env :: X.outer) := by rw [ok.frames, hs]
  refine wpAny_Try_except ?_
  refine wpAny_mono ((hb (wAll X.K D l) (X.pn ++ pins) (fun e s₁ => wpAny (model X.prog X.w) X.A (noteFrame e X.env) (fun _ s₂ => wpAny (model X.prog X.w) X.A (setFlight e none) (fun _ s₃ =>
    wpAny (model X.prog X.w) X.A (handleBy e X.env (h₀ :: hds)) (SP X pins D) X.xe s₃) X.xe s₂) X.xe s₁) (fun u s' xx => ?_) PassesOwn.looking).run [] s σ H D (I.toTry _) h) (fun f s1 hsp => ?_) (fun e s1 he => he)
  · obtain ⟨a, B, sI, pins', σ', H', cls, d, rfl, J', nb, up, sky, na, os, ag, w⟩ := xx
    have J : Inv X pins σ' H' sI := J'.ofTry ok
    have sky' : Sky B (X.env :: X.outer) a (Zc cls d) X.env.locals s'.heap := by rw [← hs]; exact sky
    show wpAny (model X.prog X.w) X.A (noteFrame (.ref a) X.env) _ _ _
    refine Sky.land Zc.steady hfr hf sky' fun h3 fl3 up3 => ?_
    have J3 : Inv X pins σ' H' { s' with heap := h3 } := J.landed nb fl3.1 (up.trans up3) os ag
    obtain ⟨oe3, vs3, he3, hz3, hd3⟩ := fl3.there
    have nfr : a ∉ frs (X.env :: X.outer) := fun hm => by
      obtain ⟨_, o', e', hnf⟩ := fl3.2.2.1.mem hm
      rw [he3] at e'; cases e'
      exact hnf _ hd3
    have nL : a ≠ X.env.locals := fun z => nfr (List.mem_filterMap.mpr ⟨X.env, List.mem_cons_self, by rw [hf, z]⟩)
    have nF : a ∉ X.fs := fun hm => by
      obtain ⟨e, he, q⟩ := List.mem_filterMap.mp hm
      exact nfr (List.mem_filterMap.mpr ⟨e, List.mem_cons_of_mem _ he, q⟩)
    have S3 := J3.suite he3 hd3 na nL nF
    have LT : PySem.W.Looks (model X.prog X.w) h3 (typeOf (.ref a)) cls := fun A Q E s k q => wpAny_typeOf_ref (k _ _ he3) (by rw [hz3.1]; exact q)
    have test : ∀ {x : Str} {c : Value} {np : Pos} {Q : Value → Shared → Prop} {E : Value → Shared → Prop}, Names X x c → Q c { s' with heap := h3 } → wpAny (model X.prog X.w) (X.A.mark (some (.ref a))) (eval (.Name x np) X.env) Q E { s' with heap := h3 } := fun {x c np Q E} hc q => by
      obtain ⟨hg, hdbg, hm | ⟨hm, hv, hnn⟩⟩ := hc
      · exact ld_glob (X := X.suite a ((a, oe3) :: (X.pn ++ pins))) S3 hg hm q hdbg
      · exact ld_blt (X := X.suite a ((a, oe3) :: (X.pn ++ pins))) S3 hg hm hv q hnn hdbg
    have go : ∀ {hds' : List ExceptHandler} {l' : List (Value × (Addr → Value → Option Addr → TS))}, HdsA X hds' l' → wAll X.K D l' cls d σ' H' →
        wpAny (model X.prog X.w) X.A (handleBy (.ref a) X.env hds') (SP X pins D) X.xe { s' with heap := h3 } := by
      intro hds' l' hk
      induction hk with
      | nil => intro w; exact False.elim w
      | @as_ x n i c ts b₀ suite np pos' hds2 l2 hN hi hln hc hsu r ih =>
        intro w
        obtain ⟨b, hb1, hyes, hno⟩ := w
        have LM := PySem.W.exm_one (M := model X.prog X.w) (J3.kIn) LT hb1
        refine wpAny_handleBy_cons (codeAny_handlers_test ?_) (by intro q; cases q)
        refine test hc (LM.here ?_)
        cases b with
        | true =>
          refine codeAny_handlers_suite_as ?_
          refine HandSPX.lands_againZ fl3 fun h4 fl4 up4 => ?_
          have J4 : Inv X pins σ' H' { s' with heap := h4 } := J.landed nb fl4.1 ((up.trans up3).trans up4) os ag
          obtain ⟨oe4, vs4, he4, hz4, hd4⟩ := fl4.there
          have S4 := J4.suite he4 hd4 na nL nF
          refine store_ok (X := X.suite a ((a, oe4) :: (X.pn ++ pins))) (v := .ref a) S4 hN hi (.inl hln) rfl (fun s5 S5 => ?_) (.inr hln)
          refine wpAny_mono ((hsu a oe4 cls d (X.pn ++ pins) hz4 ⟨_, hd4⟩).run [] s5 _ H' _ S5 (hyes rfl a na)) (fun f s6 hsp => ?_) (fun _ _ z => False.elim z)
          have end_ : ∀ {σ6 : L2.St} {H6 : Hp} {Q : Shared → Prop}, Inv (X.suite a ((a, oe4) :: (X.pn ++ pins))) [] σ6 H6 s6 → (∀ s7, Inv X pins (σ6.set i none) H6 s7 → Q s7) →
              wpAny (model X.prog X.w) X.A (do bindName X.env n .none; unbindBehindTheSuite X.env n pos') (fun _ s7 => Q s7) X.xe s6 := fun {σ6 H6 Q} S6 hq => gone_ok (S6.unsuite ok) hN hi hln hq
          cases f with
          | next => obtain ⟨σ6, H6, S6, q6⟩ := hsp; exact end_ S6 fun s7 J7 => ⟨_, _, J7, q6⟩
          | brk => obtain ⟨σ6, H6, S6, q6⟩ := hsp; exact end_ S6 fun s7 J7 => ⟨_, _, J7, q6⟩
          | cont => obtain ⟨σ6, H6, S6, q6⟩ := hsp; exact end_ S6 fun s7 J7 => ⟨_, _, J7, q6⟩
          | ret u => obtain ⟨v6, σ6, H6, S6, r6, q6⟩ := hsp; exact end_ S6 fun s7 J7 => ⟨_, _, _, J7, r6, q6⟩
        | false => exact ih (hno rfl)
      | @plain x c ts b₀ suite np pos' hds2 l2 hc hsu r ih =>
        intro w
        obtain ⟨b, hb1, hyes, hno⟩ := w
        have LM := PySem.W.exm_one (M := model X.prog X.w) (J3.kIn) LT hb1
        refine wpAny_handleBy_cons (codeAny_handlers_test ?_) (by intro q; cases q)
        refine test hc (LM.here ?_)
        cases b with
        | true =>
          refine codeAny_handlers_suite ?_
          refine HandSPX.lands_againZ fl3 fun h4 fl4 up4 => ?_
          have J4 : Inv X pins σ' H' { s' with heap := h4 } := J.landed nb fl4.1 ((up.trans up3).trans up4) os ag
          obtain ⟨oe4, vs4, he4, hz4, hd4⟩ := fl4.there
          have S4 := J4.suite he4 hd4 na nL nF
          refine wpAny_mono ((hsu a oe4 cls d (X.pn ++ pins) hz4 ⟨_, hd4⟩).run [] _ _ H' _ S4 (hyes rfl a na)) (fun f s6 hsp => ?_) (fun _ _ z => False.elim z)
          cases f with
          | next => obtain ⟨σ6, H6, S6, q6⟩ := hsp; exact ⟨_, _, S6.unsuite ok, q6⟩
          | brk => obtain ⟨σ6, H6, S6, q6⟩ := hsp; exact ⟨_, _, S6.unsuite ok, q6⟩
          | cont => obtain ⟨σ6, H6, S6, q6⟩ := hsp; exact ⟨_, _, S6.unsuite ok, q6⟩
          | ret u => obtain ⟨v6, σ6, H6, S6, r6, q6⟩ := hsp; exact ⟨_, _, _, S6.unsuite ok, r6, q6⟩
        | false => exact ih (hno rfl)
    exact go hh w
  · cases f with
    | next => obtain ⟨σ', H', J', q⟩ := hsp; exact wpAny_execs_nil ⟨σ', H', J'.ofTry ok, q⟩
    | brk => obtain ⟨σ', H', J', q⟩ := hsp; exact ⟨σ', H', J'.ofTry ok, q⟩
    | cont => obtain ⟨σ', H', J', q⟩ := hsp; exact ⟨σ', H', J'.ofTry ok, q⟩
    | ret u => obtain ⟨v, σ', H', J', r, q⟩ := hsp; exact ⟨v, σ', H', J'.ofTry ok, r, q⟩
end

theorem takes_len {X : Cx} {W : WX} (tk : Takes X W) : Takes X (fun cls d σ H => σ.length = X.N.length → W cls d σ H) := fun u s' ⟨a, B, sI, pins, σ, H, cls, d, e, I, nb, up, sky, na, os, ag, w⟩ =>
  tk u s' ⟨a, B, sI, pins, σ, H, cls, d, e, I, nb, up, sky, na, os, ag, w I.len⟩
/-- told of an exception: its tag and its field -/
def triX (K : PySem.W.Frag) : List (Addr × Str × Str) → Value → Option Addr → Hp → VK → Prop
  | [], _, _, _, _ => False
  | (C, tag, f) :: r, cls, d, H, Q => ∃ b, PySem.W.exmOne K cls (.ref C) = some b ∧
      (b = true → cls = .ref C ∧ ∃ (dd : Addr) (fs : List (Str × V)) (v : V), d = some dd ∧ H dd = some (.xd fs) ∧ fs.lookup f = some v ∧ ∀ l, H l = none → Q (.ref l) (upd H l (.tup [.str tag, v]))) ∧ (b = false → triX K r cls d H Q)
/-- told: found = None; try: a() / except .. as e: found = (tag, e.f) ..; return found -/
def TTri (K : PySem.W.Frag) (hl : List (Addr × Str × Str)) : (XK → Hp → VK → Prop) → Hp → VK → Prop := fun tl H Q => tl (fun cls d H' => triX K hl cls d H' Q) H fun _ H' => Q .non H'
inductive TriH (K : PySem.W.Frag) (mg : Str → Option Value) (sg : Scope) (fd e : Str) : List ExceptHandler → List (Addr × Str × Str) → Prop
  | nil : TriH K mg sg fd e [] []
  | cons {x tag f : Str} {C : Addr} {np p1 p2 p3 p4 p5 p6 pos : Pos} {j k : Nat} {hds : List ExceptHandler} {r : List (Addr × Str × Str)} (hg : sg.names.lookup x = some .globalImplicit) (hd : (x == ("__debug__" : Str)) = false) (hm : mg x = some (.ref C)) (xf : XfC K C) (hno : PySem.W.findIn K (.ref C) f = some none)
      (hx : (f == ("__class__" : Str)) = false) (t : TriH K mg sg fd e hds r) :
      TriH K mg sg fd e (.ExceptHandler (some (.Name x np)) (some e) [.Assign [.Name fd p1] (.Tuple [.Constant (.str tag) j p2, .Attribute (.Name e p3) f p4] k p5) p6] pos :: hds) ((C, tag, f) :: r)
def triT (p : Addr × Str × Str) : Value × (Addr → Value → Option Addr → TS) := (.ref p.1, tAs 2 fun a cls d => tAsg (tTup (tCons (tC (.str p.2.1)) (tCons (tXf a cls d p.1 p.2.2 (tVar 2)) tNil))) (gName 1))
section
variable {X : Cx} {x a fd e q : Str} {sg : Scope} {g : Addr} {cdg : Value} {hds : List ExceptHandler} {hl : List (Addr × Str × Str)} {p1 p2 p3 p4 p5 p6 p7 p8 p9 : Pos} {j : Nat}
theorem tri_hds {X' : Cx} (hK : X'.K = X.K) (hmg : X'.mg = X.mg) (hsc : X'.env.scope = sg) (hN : X'.N.Nodup) (h1 : X'.N[1]? = some fd) (h2 : X'.N[2]? = some e) (hfd : sg.names.lookup fd = some .local) (he : sg.names.lookup e = some .local) (hfn : ∀ y, X'.fn y = true)
    (hd1 : (e == ("__debug__" : Str)) = false) (hd2 : (e == ("__classdict__" : Str)) = false) (hb : ∀ f p, attributeBase (.Name e p) f X'.env (eval (.Name e p) X'.env) = eval (.Name e p) X'.env)
    (hsw : ∀ (tag f : Str) (jj k : Nat) (p1 p2 p3 p4 p5 p6 : Pos), swapsWith (.Tuple [.Constant (.str tag) jj p2, .Attribute (.Name e p3) f p4] k p5) (some (.Name fd p1)) p6.line X'.env = pure false)
    (t : TriH X.K X.mg sg fd e hds hl) : HdsA X' hds (hl.map triT) := by
  induction t with
  | nil => exact .nil
  | @cons x tag f C np p1 p2 p3 p4 p5 p6 pos jj k hds r hg hd hm xf hno hx t ih =>
    refine .as_ hN h2 (by show X'.env.scope.names.lookup e = _; rw [hsc]; exact he) ⟨by show X'.env.scope.names.lookup x = _; rw [hsc]; exact hg, hd, .inl (by rw [hmg]; exact hm)⟩ (fun a oe cls d pn hz hf => ?_) ih
    refine pss_one (ps_set (i := 1) hN h1 (.inl (by show X'.env.scope.names.lookup fd = _; rw [hsc]; exact hfd)) (pe_tup (pa_cons pe_str (pa_cons (pe_xf (by show XfC X'.K C; rw [hK]; exact xf) (by show PySem.W.findIn X'.K (.ref C) f = _; rw [hK]; exact hno) hz hf (pe_var (i := 2) h2 (.inl (by show X'.env.scope.names.lookup e = _; rw [hsc]; exact he)) hd1 hd2) (hb f p3)) pa_nil))) (hsw _ _ _ _ _ _ _ _ _ _) (.inl (hfn _)))
/-- told of all exceptions that the clauses name -/
theorem tri_wish {K : PySem.W.Frag} {D : Ends} {H : Hp} {cls : Value} {d : Option Addr} {Q : VK} {σ : L2.St} (hσ : σ.length = 3) (hD : ∀ σ' H', D.nx σ' H' ↔ ∃ v, σ'[1]? = some (some v) ∧ Q v H') :
    ∀ (hl : List (Addr × Str × Str)), triX K hl cls d H Q → wAll K D (hl.map triT) cls d σ H
  | [], h => h
  | (C, tag, f) :: r, ⟨b, h1, h2, h3⟩ => by
    refine ⟨b, h1, fun hb a na => ?_, fun hb => tri_wish hσ hD r (h3 hb)⟩
    obtain ⟨hc, dd, fs, v, e1, e2, e3, e4⟩ := h2 hb
    refine ⟨.ref a, by rw [List.getElem?_set_self (by rw [hσ]; decide)], rfl, hc, dd, fs, v, e1, e2, e3, show (2 : Nat) ≤ sizeLine by rw [sizeLine_eq]; decide, fun p hp => ?_⟩
    refine (hD _ _).mpr ⟨.ref p, ?_, e4 p hp⟩
    rw [List.getElem?_set_ne (by decide), List.getElem?_set_self (by rw [List.length_set, hσ]; decide)]
theorem tri_gives (hge : TriH X.K X.mg sg fd e hds hl) (hne : hds ≠ []) (nd : [a, fd, e].Nodup) (hfd : sg.names.lookup fd = some .local) (he : sg.names.lookup e = some .local)
    (hd1 : (e == ("__debug__" : Str)) = false) (hd2 : (e == ("__classdict__" : Str)) = false) (hd3 : (fd == ("__debug__" : Str)) = false) (hd4 : (fd == ("__classdict__" : Str)) = false) :
    GivesTo X [a, fd, e] x sg g cdg [.Assign [.Name fd p1] (.Constant .none j p2) p3, .Try [.Expr (.Call (.Name a p4) [] [] p5) p9] hds [] [] p6, .Return (some (.Name fd p7)) p8] a q (TTri X.K hl) := by
  intro f c' s H Q tl act hc h
  cases hge with
  | nil => exact absurd rfl hne
  | @cons x' tag f' C np q1 q2 q3 q4 q5 q6 pos jj k hds' r hg hd hm xf hno hx t' =>
    have hT : TriH X.K X.mg sg fd e _ _ := .cons (pos := pos) (np := np) (p1 := q1) (p2 := q2) (p3 := q3) (p4 := q4) (p5 := q5) (p6 := q6) (j := jj) (k := k) (tag := tag) hg hd hm xf hno hx t'
    refine ⟨_, pss_cons (ps_set (i := 1) nd rfl (.inl hfd) pe_non) (pss_cons (ps_try_all (X := (cxOf C8.CX0 X.prog X.w X.K X.mg X.base [a, fd, e] x sg g cdg X.A X.stack s H C8.E0).nox)
      (tb := fun W D σ H => ∃ Ech : XK, (∀ cls d σ' H', Ech cls d H' → σ'.length = 3 → W cls d σ' H') ∧ σ[0]? = some (some (.ref f)) ∧ H c' = some (CodeO c' q) ∧ tl Ech H fun _ H' => D.nx σ H')
      rfl rfl (fun W pn xe tk _ => ?_) (tri_hds (X := X) rfl rfl rfl nd rfl rfl hfd he (fun _ => rfl) hd1 hd2 (fun _ _ => rfl) (fun _ _ _ _ _ _ _ _ _ _ => rfl) hT)) (pss_one (ps_ret (pe_var (i := 1) rfl (.inl hfd) hd3 hd4)))), ?_⟩
    · refine ⟨fun pins s' σ H' D I h' => ?_⟩
      obtain ⟨Ech, hW, h1, h2, h3⟩ := h'
      have hp := act _ pn xe Ech p4 p5 (takes_len tk) (fun cls d σ' H' q hl => hW cls d σ' H' q hl)
      exact (pss_one (ps_expr (pos := p9) hp)).run pins s' σ H' D I ⟨h1, h2, h3⟩
    · refine ⟨fun cls d H' => triX X.K _ cls d H' Q, fun cls d σ' H' q hl => tri_wish hl (fun _ _ => Iff.rfl) _ q, rfl, hc, ?_⟩
      have e2 : (fun (_ : V) (H' : Hp) => ∃ v, ((L2.start [a, fd, e] [V.ref f]).set 1 (some V.non))[1]? = some (some v) ∧ Q v H') = fun _ H' => Q .non H' := by
        funext _ H'
        exact propext ⟨fun ⟨v, e, q⟩ => by cases e; exact q, fun q => ⟨_, rfl, q⟩⟩
      show tl _ H (fun (_ : V) (H' : Hp) => ∃ v, ((L2.start [a, fd, e] [V.ref f]).set 1 (some V.non))[1]? = some (some v) ∧ Q v H')
      rw [e2]
      exact h
end
end LX

set_option Elab.async false
set_option linter.all false
set_option maxRecDepth 100000
set_option maxHeartbeats 1000000
set_option autoImplicit false
/-! XD: f(lambda: e) over plain data, where f tells what is refused. -/
namespace VS
open PySem PySem.Spec PyProof.Rows L2 LamX LX
/-- exception classes that are apart -/
def ExmOk (K : PySem.W.Frag) (T : Tab) (xs : List Nat) : Prop := ∀ c ∈ xs, ∀ c' ∈ xs, PySem.W.exmOne K (.ref (T.ca K c)) (.ref (T.ca K c')) = some (decide (c = c'))
def exmB (K : PySem.W.Frag) (T : Tab) (xs : List Nat) : Bool := xs.all fun c => xs.all fun c' => decide (PySem.W.exmOne K (.ref (T.ca K c)) (.ref (T.ca K c')) = some (decide (c = c')))
theorem exmB_ok {K : PySem.W.Frag} {T : Tab} {xs : List Nat} (h : exmB K T xs = true) : ExmOk K T xs := fun c hc c' hc' => of_decide_eq_true (List.all_eq_true.mp (List.all_eq_true.mp h c hc) c' hc')
section
variable {K : PySem.W.Frag} {T : Tab} {E : XK} {Z H H1 : Hp} {ι : List Addr} {st : Store}
end
section
variable {X : Cx} {T : Tab} {E : XK}
end
end VS

set_option Elab.async false
set_option linter.all false
set_option maxRecDepth 100000
set_option maxHeartbeats 1000000
set_option autoImplicit false
/-! XE: defs that may raise, defs that make lambdas; the end of such a law. -/
namespace VS
open PySem PySem.Spec PyProof.Rows L2 LamX LX
/-- the tables of the makers: what the machine has there -/
structure TbsOk (K : PySem.W.Frag) (mg : Str → Option Value) (base : Heap) (T : Tab) : Prop where
  tab : ∀ x ∈ T.mks, TabB base mg (codeAd K x) (tabAd K x)
  one : ∀ x ∈ T.mks, ∀ y ∈ T.mks, tabAd K x = tabAd K y → x = y
section
variable {P : Program} {w : World} {K : PySem.W.Frag} {mg : Str → Option Value} {base : Heap} {T : Tab} {x qual : Str} {params : Arguments} {body : List Stmt} {scope : Scope} {dvs : List V} {kws : List (Str × V)} {f : Addr} {fd : FuncData} {N ps : List Str} {k : Nat} {t : TSv}
end
section
variable {X : Cx} {T : Tab} {E : XK} {e : Expr} {te : TEv}
end
/-! ### what the head must have left: the tables empty -/
def isTabO : Option Obj → Bool
  | some ⟨.none, _, .fields _, _⟩ => true
  | _ => false
def emptyB : Option Obj → Bool
  | some ⟨.none, none, .fields vs, sl⟩ => decide (vs = #[]) && decide (sl = #[])
  | _ => false
theorem emptyB_ok {o : Option Obj} (h : emptyB o = true) : o = some { cls := .none, data := .fields #[] } := by
  unfold emptyB at h
  split at h
  · simp only [Bool.and_eq_true, decide_eq_true_eq] at h
    rw [h.1, h.2]
  · cases h
def codeHdB (K : PySem.W.Frag) (c P : Addr) : Bool := match K.lookup c with
  | some ⟨.type cn, _, .fields vs, _⟩ => decide (cn = "code") && decide (c ≠ P) && (match (vs[11]? : Option Value) with
    | some (Value.ref Q) => decide (Q = P)
    | _ => false) && (match vs.getD 18 .none with
    | .str _ _ => true
    | _ => false) && (match vs.getD 7 .none with
    | .int _ _ => true
    | _ => false) && (match vs.getD 9 .none with
    | .bool _ => true
    | _ => false) && (match vs.getD 10 .none with
    | .int _ _ => true
    | _ => false)
  | _ => false
theorem codeHdB_ok {K : PySem.W.Frag} {c P : Addr} {h : Heap} (X : K.In h) (q : codeHdB K c P = true) : PySem.W.CodeHd h c P := by
  unfold codeHdB at q
  split at q
  · rename_i cn dd vs sl hk
    simp only [Bool.and_eq_true, decide_eq_true_eq] at q
    obtain ⟨⟨⟨⟨⟨⟨h1, h2⟩, h3⟩, h4⟩, h5⟩, h6⟩, h7⟩ := q
    subst h1
    split at h3
    · rename_i Q e3
      have h3 := of_decide_eq_true h3
      subst h3
      split at h4
      · rename_i file tf e4
        split at h5
        · rename_i fl tg e5
          split at h6
          · rename_i b e6
            split at h7
            · rename_i t tt e7
              exact ⟨_, vs, file, tf, fl, tg, b, t, tt, X _ _ hk, rfl, rfl, e3, by rw [Array.getD_eq_getD_getElem?, e3]; rfl, e4, e5, e6, e7, h2⟩
            · cases h7
          · cases h6
        · cases h5
      · cases h4
    · cases h3
  · cases q
def tabsB (g : Addr → Option Obj) (K : PySem.W.Frag) (mks : List Str) : Bool := (mks.all fun x => codeHdB K (codeAd K x) (tabAd K x) && emptyB (g (tabAd K x)) && (K.lookup (tabAd K x)).isNone) &&
  mks.all fun x => mks.all fun y => decide (x = y) || !decide (tabAd K x = tabAd K y)
/-- the tables of the makers are empty -/
structure TabsE (K : PySem.W.Frag) (mks : List Str) (h : Heap) : Prop where
  at_ : ∀ x ∈ mks, PySem.W.CodeHd h (codeAd K x) (tabAd K x) ∧ h.get? (tabAd K x) = some { cls := .none, data := .fields #[] } ∧ K.lookup (tabAd K x) = none
  one : ∀ x ∈ mks, ∀ y ∈ mks, tabAd K x = tabAd K y → x = y
theorem tabsB_ok {K : PySem.W.Frag} {mks : List Str} {h : Heap} (X : K.In h) (q : tabsB h.get? K mks = true) : TabsE K mks h := by
  unfold tabsB at q
  rw [Bool.and_eq_true] at q
  refine ⟨fun x hx => ?_, fun x hx y hy e => ?_⟩
  · have := List.all_eq_true.mp q.1 x hx
    rw [Bool.and_eq_true, Bool.and_eq_true] at this
    exact ⟨codeHdB_ok X this.1.1, emptyB_ok this.1.2, Option.isNone_iff_eq_none.mp this.2⟩
  · have := List.all_eq_true.mp (List.all_eq_true.mp q.2 x hx) y hy
    rw [Bool.or_eq_true] at this
    rcases this with z | z
    · exact of_decide_eq_true z
    · simp [e] at z
def csOf (K : PySem.W.Frag) (T : Tab) : List (Addr × Addr) := T.mks.map fun x => (codeAd K x, tabAd K x)
/-- the end of a law whose defs make lambdas -/
theorem law_atT {l : PySem.W.OpenLaw} {w : World} {K : PySem.W.Frag} {k n : Nat} {x : Str} {mg : Str → Option Value} {fa : Addr} {h : Heap} {T : Tab} {fd : FuncData} {m : FnM} (t : TabsE K T.mks h) (hn : n = 63) (hb : ∀ (s : Shared) (u : Value), BindsTo s fd ⟨[u], []⟩ [(x, u)])
    (hm : ∀ ns : List Int, ns.length ≤ 63 → ∃ st, m [.f (.scr ns)] [] = .ok (.f (.bl true)) st) (F : ∀ base : Heap, TbsOk K mg base T → FnOk l.prog w K mg base CX0 k fa fd [x] (spM K T m)) : LawAtS l w K CX0 k n x mg fa h := by
  have mem : ∀ p ∈ csOf K T, ∃ x ∈ T.mks, p = (codeAd K x, tabAd K x) := fun p hp => by
    obtain ⟨y, hy, e⟩ := List.mem_map.mp hp
    exact ⟨y, hy, e.symm⟩
  refine ⟨fd, csOf K T, spM K T m, fun p hp => ?_, fun p hp => ?_, fun p hp => ?_, hb, fun H a ns hl _ hH hS => sp_lawT hm (by omega) hS fun p hp => ?_, fun base _ _ TB => F base ⟨fun y hy => TB (codeAd K y, tabAd K y) (List.mem_map.mpr ⟨y, hy, rfl⟩), t.one⟩⟩
  · obtain ⟨y, hy, rfl⟩ := mem p hp; exact (t.at_ y hy).2.1
  · obtain ⟨y, hy, rfl⟩ := mem p hp; exact (t.at_ y hy).2.2
  · obtain ⟨y, hy, rfl⟩ := mem p hp; exact (t.at_ y hy).1
  · obtain ⟨y, hy, rfl⟩ := List.mem_map.mp hp
    exact TabS.nil (hH (codeAd K y, tabAd K y) (List.mem_map.mpr ⟨y, hy, rfl⟩))
end VS

set_option Elab.async false
set_option linter.all false
set_option maxRecDepth 100000
set_option maxHeartbeats 1000000
set_option autoImplicit false
/-! XF: exception classes with one field, as the head has left them. -/
namespace VS
open PySem PySem.Spec PyProof.Rows L2 LamX LX NdefX
/-- an exception class: its name, its __init__, its field -/
structure XcD where
  cls : Str
  params : Arguments
  body : List Stmt
  scope : Scope
  fld : Str
def XcD.C (d : XcD) (K : PySem.W.Frag) : Addr := He.ga K d.cls
def XcD.fI (d : XcD) (K : PySem.W.Frag) : Addr := He.ma K (d.C K) "__init__"
def XcD.fd (d : XcD) (K : PySem.W.Frag) : Option FuncData := match K.lookup (d.fI K) with
  | some ⟨_, _, .func fd, _⟩ => some fd
  | _ => none
/-- what is written of the function -/
abbrev FnX : Type := Option (Str × Str × Arguments × FuncBody × Scope × Addr × List Str × Addr)
def XcD.got (d : XcD) (K : PySem.W.Frag) : FnX := (d.fd K).map fun fd => (fd.name, fd.qualname, fd.params, fd.body, fd.scope, fd.globals, fd.closure.map (·.1), fd.builtins)
def XcD.val (d : XcD) : FnX := some ("__init__", d.cls ++ ".__init__", d.params, .stmts d.body, d.scope, mainGlobals, ["__class__"], builtinsNs)
def oexB (K : PySem.W.Frag) (C : Addr) : Bool := (match K.lookup C with
  | some ⟨.type tn, _, .cls cd, sl⟩ => decide (tn = "type") && (match cd.mro, sl.toList with
    | .ref C' :: bm, [_, _, _, _, some (.builtin n), _] => decide (C' = C) && decide (n = "ValueError.__new__") && cd.hasDict && !cd.hasDel && PySem.HandSPX.refsVE bm
    | _, _ => false)
  | _ => false) && decide (PySem.W.findIn K (.ref C) "__setattr__" = some (some (.builtin "object.__setattr__"))) && decide (PySem.W.subIn K (.ref C) (.type "BaseException") = some true) && decide (PySem.W.typeIn K (.ref C) = some (.type "type")) && PySem.W.keepIn K (.ref C)
theorem oexB_ok {K : PySem.W.Frag} {C : Addr} (h : oexB K C = true) : OexC K C := by
  unfold oexB at h
  simp only [Bool.and_eq_true, decide_eq_true_eq] at h
  obtain ⟨⟨⟨⟨h1, h2⟩, h3⟩, h4⟩, h5⟩ := h
  refine ⟨?_, h2, h3, h4, h5⟩
  split at h1
  · rename_i tn dd cd sl hk
    obtain ⟨ht, h1⟩ := Bool.and_eq_true_iff.mp h1
    have ht := of_decide_eq_true ht
    subst ht
    split at h1
    · rename_i C' bm k0 k1 k2 k3 n k5 hm hs
      have h9 : (((C' = C ∧ n = "ValueError.__new__") ∧ cd.hasDict = true) ∧ cd.hasDel = false) ∧ PySem.HandSPX.refsVE bm = true := by
        simp only [Bool.and_eq_true, decide_eq_true_eq, Bool.not_eq_true'] at h1
        exact h1.2
      obtain ⟨⟨⟨⟨e1, e2⟩, hd⟩, hdel⟩, hr⟩ := h9
      subst e1 e2
      obtain ⟨nm, bs, mro, ns, qn, hdc, sn, sub, ab, col, del⟩ := cd
      dsimp only at hm
      subst hm
      cases hd
      cases hdel
      obtain ⟨l⟩ := sl
      simp only at hs
      subst hs
      exact ⟨nm, qn, ns, bs, bm, sn, sub, ab, col, dd, k0, k1, k2, k3, k5, hk, hr⟩
    · cases h1
  · cases h1
def xcB (prog : Program) (K : PySem.W.Frag) (d : XcD) : Bool := oexB K (d.C K) && (match d.fd K with
  | some fd => decide (fd.defaults = .none) && decide (fd.kwdefaults = .none) && decide (fd.annotations = none) && PySem.W.codeIn K fd.code (d.cls ++ ".__init__") && (match fd.code with
    | .ref c => (match K.lookup c with
      | some ⟨_, _, .fields vs, _⟩ => (match (vs[2]? : Option Value) with
        | some (Value.str file _) => (prog.main.file : Str) == file
        | _ => false)
      | _ => false)
    | _ => false) && (match fd.closure with
    | [(_, cc)] => (match K.lookup cc with
      | some ⟨_, _, .cell (some (Value.ref C')), _⟩ => decide (C' = d.C K)
      | _ => false)
    | _ => false)
  | none => false) && decide (PySem.W.mroIn K (d.C K) (.ref (d.C K)) = some true) && decide (PySem.W.ks_superIn K (d.C K) (d.C K) "__init__" = some (some (.builtin "ValueError.__init__"))) &&
  decide (PySem.W.nsIn K cStatics "thirdparty.any" = some none) && decide (PySem.W.subIn K (.ref (d.C K)) (.type "ValueError") = some true) && decide (PySem.W.nsIn K mainGlobals "super" = some none) &&
  decide (PySem.W.findIn K (.ref (d.C K)) "__init__" = some (some (.ref (d.fI K)))) && decide (PySem.W.typeIn K (.ref (d.fI K)) = some (.type "function")) && decide (PySem.W.findIn K (.ref (d.C K)) d.fld = some none) && xfB K (d.C K)
/-- all that is asked of an exception class -/
structure XcOk (prog : Program) (K : PySem.W.Frag) (d : XcD) : Prop where
  ex : ∃ (cc : Addr) (G : NF) (doc pm ctv oc : Value) (od : Option Addr) (osl : Array (Option Value)), SupC K prog (d.C K) (d.fI K) cc G ∧ K.lookup (d.fI K) = some ⟨oc, od, .func (G.fd doc pm ctv), osl⟩ ∧ G.params = d.params ∧ G.body = d.body ∧ G.scope = d.scope
  ox : OexC K (d.C K)
  ini : PySem.W.findIn K (.ref (d.C K)) "__init__" = some (some (.ref (d.fI K)))
  typ : PySem.W.typeIn K (.ref (d.fI K)) = some (.type "function")
  nof : PySem.W.findIn K (.ref (d.C K)) d.fld = some none
  xf : XfC K (d.C K)
theorem xcB_ok {prog : Program} {K : PySem.W.Frag} {d : XcD} (h : xcB prog K d = true) (hv : d.got K = d.val) : XcOk prog K d := by
  unfold xcB at h
  simp only [Bool.and_eq_true, decide_eq_true_eq] at h
  obtain ⟨⟨⟨⟨⟨⟨⟨⟨⟨⟨h1, h2⟩, h3⟩, h4⟩, h5⟩, h6⟩, h7⟩, h8⟩, h9⟩, h10⟩, h11⟩ := h
  have ox := oexB_ok h1
  refine ⟨?_, ox, h8, h9, h10, xfB_ok h11⟩
  unfold XcD.got at hv
  cases hf : d.fd K with
  | none => rw [hf] at h2; cases h2
  | some fd =>
    rw [hf] at h2 hv
    simp only [Bool.and_eq_true, decide_eq_true_eq] at h2
    obtain ⟨⟨⟨⟨⟨a1, a2⟩, a3⟩, a4⟩, a5⟩, a6⟩ := h2
    unfold XcD.fd at hf
    split at hf
    · rename_i oc od fd' osl hk
      have hf' := Option.some.inj hf
      subst hf'
      have hv : some (fd'.name, fd'.qualname, fd'.params, fd'.body, fd'.scope, fd'.globals, fd'.closure.map (·.1), fd'.builtins) = d.val := hv
      unfold XcD.val at hv
      simp only [Option.some.injEq, Prod.mk.injEq] at hv
      obtain ⟨b1, b2, b3, b4, b5, b6, b7, b8⟩ := hv
      obtain ⟨nm, qn, ps, bd, sc, gl, cl, df, kw, doc, pm, an, cd, ct, bt⟩ := fd'
      dsimp only at a1 a2 a3 a4 a5 a6 b1 b2 b3 b4 b5 b6 b7 b8
      subst a1 a2 a3 b1 b2 b3 b4 b5 b6 b8
      split at a5
      · rename_i c
        split at a5
        · rename_i o1 o2 vs o3 hkc
          split at a5
          · rename_i file tf hvs
            split at a6
            · rename_i nm2 cc
              have e7 : nm2 = "__class__" := by simpa using b7
              subst e7
              split at a6
              · rename_i c1 c2 C' c3 hkcc
                have a6 := of_decide_eq_true a6
                subst a6
                exact ⟨cc, ⟨"__init__", d.cls ++ ".__init__", d.params, d.body, d.scope, [("__class__", cc)], c⟩, doc, pm, ct, oc, od, osl, ⟨ox, ⟨oc, od, doc, pm, ct, osl, hk⟩, a4, ⟨o1, o2, vs, o3, file, tf, hkc, hvs, a5⟩, rfl, ⟨c1, c2, c3, hkcc⟩, h3, h4, h5, h6, h7⟩, hk, rfl, rfl, rfl⟩
              · cases a6
            · cases a6
          · cases a5
        · cases a5
      · cases a5
    · cases hf
end VS

set_option Elab.async false
set_option linter.all false
set_option maxRecDepth 100000
set_option maxHeartbeats 1000000
set_option autoImplicit false
/-! XG: what the printed texts use. -/
namespace VS
open PySem PySem.Spec PyProof.Rows L2 LamX LX NdefX
section
variable {P : Program} {w : World} {K : PySem.W.Frag} {mg : Str → Option Value} {base : Heap} {d : XcD} {N : List Str} {pn : Str}
end
section
variable {X : Cx} {T : Tab} {E : XK}
end
theorem xv_at {K : PySem.W.Frag} {xl : List XcD} (h : xl.map (fun d => d.got K) = xl.map XcD.val) {i : Nat} {d : XcD} (e : xl[i]? = some d) : d.got K = d.val := by
  have e2 : (xl.map fun d => d.got K)[i]? = (xl.map XcD.val)[i]? := by rw [h]
  rw [List.getElem?_map, List.getElem?_map, e] at e2
  exact Option.some.inj e2
abbrev AlT : Type := ((He.AlD × Bool) × Bool) × List FnX
def obsT (n : Nat) (ex : PySem.W.Frag → Bool) (fa : List He.Fa) (fn : List He.DefD) (xl : List XcD) (mks : List Str) (g : Addr → Option Obj) : AlT :=
  let K := He.frG g (((He.asD g n).filter fun a => !isTabO (g a)) ++ [cStatics])
  (((He.obsD fa fn K, ex K), tabsB g K mks), xl.map fun d => d.got K)
def hookT (n : Nat) (ex : PySem.W.Frag → Bool) (fa : List He.Fa) (fn : List He.DefD) (xl : List XcD) (mks : List Str) : PySem.W.Hook where
  α := AlT
  obs := fun s => obsT n ex fa fn xl mks s.heap.get?
  val := fun _ => (((He.valD fn, true), true), xl.map XcD.val)
  says := fun _ h => ∃ K : PySem.W.Frag, K.In h ∧ SaysX ex fa fn K ∧ xl.map (fun d => d.got K) = xl.map XcD.val ∧ TabsE K mks h
  of := fun _ _ e => ⟨_, He.frG_in, ⟨(Prod.mk.inj (Prod.mk.inj (Prod.mk.inj e).1).1).1, (Prod.mk.inj (Prod.mk.inj (Prod.mk.inj e).1).1).2⟩, (Prod.mk.inj e).2, tabsB_ok He.frG_in (Prod.mk.inj (Prod.mk.inj e).1).2⟩
  keeps := fun _ _ _ ⟨K, hK, c, v, t⟩ k => ⟨K, PySem.W.Frag.In.keeps hK k, c, v, fun x hx => ⟨(t.at_ x hx).1.keeps k, k _ _ (t.at_ x hx).2.1, (t.at_ x hx).2.2⟩, t.one⟩
theorem obsT_eq {n : Nat} {ex : PySem.W.Frag → Bool} {fa : List He.Fa} {fn : List He.DefD} {xl : List XcD} {mks : List Str} {g : Addr → Option Obj} {s : Shared} (h : ∀ a, g a = s.heap.get? a) : obsT n ex fa fn xl mks g = (hookT n ex fa fn xl mks).obs s := by
  have e : g = s.heap.get? := funext h
  rw [e] <;> rfl
end VS

set_option Elab.async false
set_option linter.all false
set_option maxRecDepth 100000
set_option maxHeartbeats 1000000
set_option autoImplicit false
/-! XH: exceptions without a field; try: return ask() / except C: return text. -/
namespace LX
open PySem PySem.Calls PySem.Spec PyProof.Rows L2 LamX NdefX PySem.W
/-- __init__(self): super().__init__(text) -/
def sp0 (C : Addr) : Sp := fun vs H Q _ => ∃ (a : Addr), vs = [.ref a] ∧ H a = some (exo a C none) ∧ Q .non H
section
variable {CX : CXT} {P : Program} {w : World} {K : Frag} {mg : Str → Option Value} {base : Heap} {C fI cc : Addr} {G : NF} {N : List Str} {k : Nat} {doc pm ctv oc : Value} {od : Option Addr} {osl : Array (Option Value)}
theorem exinit0 {p0 p1 p2 p3 p4 p5 : Pos} {msg : Str} {j : Nat} {pl : Sem Bool} (D : SupC K P C fI cc G) (hfn : K.lookup fI = some ⟨oc, od, .func (G.fd doc pm ctv), osl⟩)
    (S : NScope N [("self" : Str)] ["__class__"] G.scope)
    (hbody : G.body = [.Expr (.Call (.Attribute (.Call (.Name "super" p0) [] [] p1) "__init__" p2) [.Constant (.str msg) j p3] [] p4) p5])
    (hpar : ∃ ar, (G.params.posonlyargs ++ G.params.args).head? = some ar ∧ ar.arg = "self")
    (hks : G.scope.names.lookup ("super" : Str) = some .globalImplicit)
    (htop : (P.main.scope.names.lookup ("super" : Str)).isSome = false)
    (hs : ∀ env, swapsWith (.Call (.Attribute (.Call (.Name "super" p0) [] [] p1) "__init__" p2) [.Constant (.str msg) j p3] [] p4) none p5.line env = pure false)
    (hi : ∀ L, interactive (envF G fI L) = false)
    (he : ∀ L, eval (.Call (.Attribute (.Call (.Name "super" p0) [] [] p1) "__init__" p2) [.Constant (.str msg) j p3] [] p4) (envF G fI L) = (do
      let ov ← attributeBase (.Call (.Name "super" p0) [] [] p1) "__init__" (envF G fI L) (eval (.Call (.Name "super" p0) [] [] p1) (envF G fI L))
      standAt p2.atName
      let (f, first) ← holding [ov] (getMethod ov "__init__" pl)
      callWith p4 f first (backTo p4 (starEach [.Constant (.str msg) j p3] (envF G fI L))) [])) :
    FnOk P w K mg base CX (k + 1) fI (G.fd doc pm ctv) [("self" : Str)] (sp0 C) := by
  refine exinit_ok (pr := []) (rest := []) D hfn S hbody hpar hks htop hs hi he (fun vs H Q E h => ?_) fun A outer s H vs Q E hr h => ?_
  · obtain ⟨a, rfl, e, _⟩ := h
    exact ⟨rfl, a, [], rfl, e⟩
  · obtain ⟨a, rfl, e, q⟩ := h
    exact ⟨_, pss_nil, q⟩
end
end LX
namespace VS
open PySem PySem.Spec PyProof.Rows L2 LX LamX NdefX
section
variable {P : Program} {w : World} {K : PySem.W.Frag} {mg : Str → Option Value} {base : Heap} {d : XcD} {N : List Str}
theorem xc_fn0 {p0 p1 p2 p3 p4 p5 : Pos} {msg : Str} {j : Nat} {pl : Sem Bool} (h : XcOk P K d)
    (S : NScope N [("self" : Str)] ["__class__"] d.scope)
    (hbody : d.body = [.Expr (.Call (.Attribute (.Call (.Name "super" p0) [] [] p1) "__init__" p2) [.Constant (.str msg) j p3] [] p4) p5])
    (hpar : ∃ ar, (d.params.posonlyargs ++ d.params.args).head? = some ar ∧ ar.arg = "self")
    (hks : d.scope.names.lookup ("super" : Str) = some .globalImplicit)
    (htop : (P.main.scope.names.lookup ("super" : Str)).isSome = false)
    (hs : ∀ env, swapsWith (.Call (.Attribute (.Call (.Name "super" p0) [] [] p1) "__init__" p2) [.Constant (.str msg) j p3] [] p4) none p5.line env = pure false)
    (hi : ∀ (nm ql : Str) (cl : List (Str × Addr)) (c L : Addr), interactive (envF ⟨nm, ql, d.params, d.body, d.scope, cl, c⟩ (d.fI K) L) = false)
    (he : ∀ (nm ql : Str) (cl : List (Str × Addr)) (c L : Addr), eval (.Call (.Attribute (.Call (.Name "super" p0) [] [] p1) "__init__" p2) [.Constant (.str msg) j p3] [] p4) (envF ⟨nm, ql, d.params, d.body, d.scope, cl, c⟩ (d.fI K) L) = (do
      let ov ← attributeBase (.Call (.Name "super" p0) [] [] p1) "__init__" (envF ⟨nm, ql, d.params, d.body, d.scope, cl, c⟩ (d.fI K) L) (eval (.Call (.Name "super" p0) [] [] p1) (envF ⟨nm, ql, d.params, d.body, d.scope, cl, c⟩ (d.fI K) L))
      standAt p2.atName
      let (f, first) ← holding [ov] (getMethod ov "__init__" pl)
      callWith p4 f first (backTo p4 (starEach [.Constant (.str msg) j p3] (envF ⟨nm, ql, d.params, d.body, d.scope, cl, c⟩ (d.fI K) L))) []))
    (hbn : ∀ (nm ql : Str) (cl : List (Str × Addr)) (c : Addr) (us : List Value) (doc pm ctv : Value), us.length = 1 → bindArgs (NF.fd ⟨nm, ql, d.params, d.body, d.scope, cl, c⟩ doc pm ctv) ⟨us, []⟩ = pure ([("self" : Str)].zip us)) :
    ∃ fd, FnOk P w K mg base L2.CX0 1 (d.fI K) fd [("self" : Str)] (sp0 (d.C K)) ∧ L2.Binds K fd [("self" : Str)] [] := by
  obtain ⟨cc, ⟨nm, ql, pr, bd, sc, cl, c⟩, doc, pm, ctv, oc, od, osl, D, hk, e1, e2, e3⟩ := h.ex
  dsimp only at e1 e2 e3
  subst e1 e2 e3
  refine ⟨_, exinit0 (k := 0) (pl := pl) D hk S hbody hpar hks htop hs (hi nm ql cl c) (he nm ql cl c), ?_⟩
  exact L2.Binds.all fun us hl => hbn nm ql cl c us doc pm ctv hl
end
section
variable {X : Cx} {T : Tab} {E : XK} {W : WX} {x : Str} {k c : Nat} {fI : Addr} {fd : FuncData} {ps : List Str} {p pos pos' : Pos}
end
section
variable {X : Cx} {T : Tab} {E : XK}
end
end VS
namespace VS
theorem exm_one {K : PySem.W.Frag} {T : Tab} {xs : List Nat} {c : Nat} (h : ExmOk K T xs) (hc : c ∈ xs) : ExmOk K T [c] := fun a ha b hb => by
  have ea : a = c := by simpa using ha
  have eb : b = c := by simpa using hb
  subst ea
  subst eb
  exact h _ hc _ hc
end VS

set_option Elab.async false
set_option linter.all false
set_option maxRecDepth 100000
set_option maxHeartbeats 1000000
set_option autoImplicit false
/-! XI: the Hook over written addresses, with exceptions. -/
namespace VS
open PySem PySem.Spec PyProof.Rows L2 LamX LX NdefX
end VS

set_option Elab.async false
set_option linter.all false
set_option maxRecDepth 100000
set_option maxHeartbeats 1000000
set_option autoImplicit false
/-! WL: the Hook over written addresses. -/
namespace VS
open PySem PySem.Spec PyProof.Rows L2
section
variable {X : Cx} {T : Tab} {E : XK} {a : Expr} {ta : TEv} {p p2 pos pos2 : Pos}
end
end VS

set_option Elab.async false
set_option linter.all false
set_option maxRecDepth 100000
set_option maxHeartbeats 4000000
set_option autoImplicit false
/-! XW: operators between an own object and things of any kind. -/
namespace PySem
open Sem (wp)
open Builtin
end PySem
namespace PySem.W
open PySem PySem.Calls PyProof.Rows
section
variable {prog : Program} {w : World} {A : Around} {E : Value → Shared → Prop} {s : Shared} {K : Frag} {x C L f f0 dx : Addr} {h₀ : Heap} {m : Str → Option Value} {ox : Obj} {od : Option Obj} {Ty : String}
end
end PySem.W
namespace VS
open PySem PySem.Spec PyProof.Rows L2
def names5 : List String := ["NoneType", "str", "tuple", "list", "dict"]
structure MulA (K : PySem.W.Frag) (C : Addr) : Prop where
  i : MulR K C
  b : PySem.W.subIn K (.ref C) (.type "bool") = some false
  r : ∀ Ty ∈ names5, BinR K C "mul" Ty
section
variable {X : Cx} {T : Tab} {E : XK} {a b e : Expr} {ta tb te : TEv} {pos : Pos} {CX : CXT} {k c : Nat} {g : Addr} {m : FnM} {C : Addr} {sp : Sp}
end
end VS

set_option Elab.async false
set_option linter.all false
set_option maxRecDepth 100000
set_option maxHeartbeats 4000000
set_option autoImplicit false
/-! XL: dicts whose keys are tuples: items walked, comprehensions, displays of one pair; a dict locked for good. -/
namespace L2
open PySem PySem.Spec PyProof.Rows
section
variable {X : Cx} {pins : List (Addr × Obj)} {σ : St} {H : Hp} {s : Shared} {d : Addr} {o : Obj}
end
section
variable {X : Cx} {e : Expr} {td : TE} {apos cpos : Pos}
end
/-! ### stores and displays -/
section
variable {X : Cx} {pins : List (Addr × Obj)} {σ : St} {H : Hp} {s : Shared}
end
/-! ### comprehensions -/
section
variable {X : Cx}
end
end L2

set_option Elab.async false
set_option linter.all false
set_option maxRecDepth 100000
set_option maxHeartbeats 4000000
set_option autoImplicit false
/-! XM: locked dicts and dicts with tuples as keys, over plain data. -/
namespace VS
open PySem PySem.Spec PyProof.Rows L2
abbrev FK := Int ⊕ List Nat
def lookT (kfs : List (List FK × F)) (k : List FK) : Option F := (kfs.find? fun p => decide (p.1 = k)).map (·.2)
def putT (kfs : List (List FK × F)) (k : List FK) (x : F) : List (List FK × F) := if (kfs.any fun p => decide (p.1 = k)) = true then kfs.map (fun p => if p.1 = k then (p.1, x) else p) else kfs ++ [(k, x)]
theorem fkK_inj {a b : FK} (h : fkK a = fkK b) : a = b := by
  cases a with
  | inl i => cases b with
    | inl j => have h : (Sum.inl i : Key) = Sum.inl j := h; injection h with h; rw [h]
    | inr t => have h : (Sum.inl i : Key) = Sum.inr (S t) := h; cases h
  | inr s => cases b with
    | inl j => have h : (Sum.inr (S s) : Key) = Sum.inl j := h; cases h
    | inr t => have h : (Sum.inr (S s) : Key) = Sum.inr (S t) := h; injection h with h; rw [S_inj.mp h]
theorem fkKs_inj : ∀ {a b : List FK}, a.map fkK = b.map fkK → a = b
  | [], [], _ => rfl
  | [], _ :: _, h => by simp at h
  | _ :: _, [], h => by simp at h
  | x :: a, y :: b, h => by
    rw [List.map_cons, List.map_cons] at h
    injection h with h1 h2
    rw [fkK_inj h1, fkKs_inj h2]
section
variable {K : PySem.W.Frag} {T : Tab} {Z Z' H : Hp} {ι : List Addr} {st : Store}
theorem RepFt.val {n : List FK} : ∀ {kvs : List (List Key × V)} {kfs : List (List FK × F)}, RepFt K T Z kvs kfs →
    (∃ v x, valV kvs (n.map fkK) = some v ∧ lookT kfs n = some x ∧ RepF K T Z v x) ∨ (valV kvs (n.map fkK) = none ∧ lookT kfs n = none)
  | _, _, .nil => .inr ⟨rfl, rfl⟩
  | _, _, .cons (k := k') (ns := m) (v := v') (x := x') (vs := vs) (xs := xs) h r t => by
    by_cases hk : m = n
    · subst hk
      exact .inl ⟨v', x', valV_pos h, by simp [lookT], r⟩
    · have hk' : ¬ k' = n.map fkK := fun e => hk (fkKs_inj (h.symm.trans e))
      have e1 : lookT ((m, x') :: xs) n = lookT xs n := by
        unfold lookT
        rw [List.find?_cons_of_neg (by simp [hk])]
      rw [valV_neg (p := (k', v')) hk', e1]
      exact RepFt.val t
theorem RepFt.any {n : List FK} : ∀ {kvs : List (List Key × V)} {kfs : List (List FK × F)}, RepFt K T Z kvs kfs → (kvs.any fun kv => decide (kv.1 = n.map fkK)) = kfs.any fun p => decide (p.1 = n)
  | _, _, .nil => rfl
  | _, _, .cons (k := k') (ns := m) h r t => by
    rw [List.any_cons, List.any_cons, RepFt.any t]
    congr 1
    exact decide_eq_decide.mpr ⟨fun e => fkKs_inj (h.symm.trans e), fun e => by rw [← e]; exact h⟩
theorem RepFt.repl {n : List FK} {x : F} {v : V} (rx : RepF K T Z v x) : ∀ {kvs : List (List Key × V)} {kfs : List (List FK × F)}, RepFt K T Z kvs kfs →
    RepFt K T Z (kvs.map fun kv => if kv.1 = n.map fkK then (kv.1, v) else kv) (kfs.map fun p => if p.1 = n then (p.1, x) else p)
  | _, _, .nil => .nil
  | _, _, .cons (k := k') (ns := m) h r t => by
    rw [List.map_cons, List.map_cons]
    by_cases hk : m = n
    · rw [if_pos (show k' = n.map fkK from hk ▸ h), if_pos hk]
      exact .cons h rx (RepFt.repl rx t)
    · rw [if_neg (show ¬ k' = n.map fkK from fun e => hk (fkKs_inj (h.symm.trans e))), if_neg hk]
      exact .cons h r (RepFt.repl rx t)
theorem RepFt.append : ∀ {vs ws : List (List Key × V)} {xs ys : List (List FK × F)}, RepFt K T Z vs xs → RepFt K T Z ws ys → RepFt K T Z (vs ++ ws) (xs ++ ys)
  | _, _, _, _, .nil, s => s
  | _, _, _, _, .cons h r t, s => .cons h r (RepFt.append t s)
theorem RepFt.put {n : List FK} {x : F} {v : V} {kvs : List (List Key × V)} {kfs : List (List FK × F)} (h : RepFt K T Z kvs kfs) (rx : RepF K T Z v x) : RepFt K T Z (putK kvs (n.map fkK) v) (putT kfs n x) := by
  unfold putK putT
  rw [h.any]
  by_cases q : (kfs.any fun p => decide (p.1 = n)) = true
  · rw [if_pos q, if_pos q]; exact h.repl rx
  · rw [if_neg q, if_neg q]; exact h.append (.cons rfl rx .nil)
theorem RepFt.length : ∀ {vs : List (List Key × V)} {xs : List (List FK × F)}, RepFt K T Z vs xs → vs.length = xs.length
  | _, _, .nil => rfl
  | _, _, .cons _ _ t => by rw [List.length_cons, List.length_cons, RepFt.length t]
theorem RepFt.get : ∀ {vs : List (List Key × V)} {xs : List (List FK × F)} {i : Nat} {p : List FK × F}, RepFt K T Z vs xs → xs[i]? = some p → ∃ v, vs[i]? = some (p.1.map fkK, v) ∧ RepF K T Z v p.2
  | _, _, _, _, .nil, h => by simp at h
  | _, _, 0, _, .cons e r _, h => by simp at h; subst h; exact ⟨_, by rw [e]; rfl, r⟩
  | _, _, i + 1, p, .cons _ _ t, h => by
    obtain ⟨v, e, r⟩ := RepFt.get (i := i) (p := p) t (by simpa using h)
    exact ⟨v, by simpa using e, r⟩
theorem RepFu.val {n : FK} : ∀ {kvs : List (Key × V)} {kfs : List (List FK × F)}, RepFu K T Z kvs kfs →
    (∃ v x, valV kvs (fkK n) = some v ∧ lookT kfs [n] = some x ∧ RepF K T Z v x) ∨ (valV kvs (fkK n) = none ∧ lookT kfs [n] = none)
  | _, _, .nil => .inr ⟨rfl, rfl⟩
  | _, _, .cons (k := k') (n := m) (v := v') (x := x') (vs := vs) (xs := xs) h r t => by
    by_cases hk : m = n
    · subst hk
      exact .inl ⟨v', x', valV_pos h, by simp [lookT], r⟩
    · have hk' : ¬ k' = fkK n := fun e => hk (fkK_inj (h.symm.trans e))
      have e1 : lookT (([m], x') :: xs) [n] = lookT xs [n] := by
        unfold lookT
        rw [List.find?_cons_of_neg (by simp [hk])]
      rw [valV_neg (p := (k', v')) hk', e1]
      exact RepFu.val t
theorem RepFu.length : ∀ {vs : List (Key × V)} {xs : List (List FK × F)}, RepFu K T Z vs xs → vs.length = xs.length
  | _, _, .nil => rfl
  | _, _, .cons _ _ t => by rw [List.length_cons, List.length_cons, RepFu.length t]
theorem RepFu.get : ∀ {vs : List (Key × V)} {xs : List (List FK × F)} {i : Nat} {p : List FK × F}, RepFu K T Z vs xs → xs[i]? = some p → ∃ n v, p.1 = [n] ∧ vs[i]? = some (fkK n, v) ∧ RepF K T Z v p.2
  | _, _, _, _, .nil, h => by simp at h
  | _, _, 0, _, .cons (n := m) e r _, h => by simp at h; subst h; exact ⟨m, _, rfl, by rw [e]; rfl, r⟩
  | _, _, i + 1, p, .cons _ _ t, h => by
    obtain ⟨n, v, e1, e, r⟩ := RepFu.get (i := i) (p := p) t (by simpa using h)
    exact ⟨n, v, e1, by simpa using e, r⟩
/-! ### keys, dicts -/
def keyW : W → Option (Bool × List FK)
  | .f (.ktp ks) => some (true, ks)
  | .f (.int i) => some (false, [.inl i])
  | .f (.str s) => some (false, [.inr s])
  | _ => none
def dictW (st : Store) : W → Option (Bool × List (List FK × F))
  | .f (.dlk t kvs) => some (t, kvs)
  | .loc n => match st[n]? with
    | some (.dti kvs) => some (true, kvs)
    | _ => none
  | _ => none
def getT (st : Store) (d k : W) : Option (Option F) := match dictW st d, keyW k with
  | some (t, kvs), some (u, ks) => if t = u then some (lookT kvs ks) else none
  | _, _ => none
/-! ### locking -/
end
section
variable {X : Cx} {T : Tab} {E : XK} {a b c e o i value tg : Expr} {es : List Expr} {ta tb tc te to tk tv tiv : TEv} {tr : TAv} {pos pos' apos cpos p p2 p3 : Pos} {ti : TIv} {g : TGv} {tt : TTv} {vs ss : List Nat}
/-! ### made -/
/-! ### asked -/
/-! ### stored -/
end
end VS

set_option Elab.async false
set_option linter.all false
set_option maxRecDepth 100000
set_option maxHeartbeats 4000000
set_option autoImplicit false
/-! XY: a dict's display with another dict in front: {**d, k: v}. -/
namespace PySem
section
variable {prog : Program} {w : World} {A : Around} {E : Value → Shared → Prop} {s : Shared} {K : Type} [DecidableEq K] {knd : KeyKind prog w K}
end
end PySem
namespace PySem
section
variable {prog : Program} {w : World} {A : Around} {E : Value → Shared → Prop} {s : Shared}
end
end PySem
namespace L2
open PySem PySem.Spec PyProof.Rows
end L2
namespace VS
open PySem PySem.Spec PyProof.Rows L2
section
variable {X : Cx} {T : Tab} {E : XK} {kx dx vx : Expr} {td tk tv : TEv} {pos : Pos}
end
end VS

set_option Elab.async false
set_option linter.all false
set_option maxRecDepth 100000
set_option maxHeartbeats 4000000
set_option autoImplicit false
/-! XN: locked dicts walked; dict comprehensions with tuples as keys. -/
namespace VS
open PySem PySem.Spec PyProof.Rows L2
section
variable {K : PySem.W.Frag} {T : Tab} {Z H : Hp} {ι : List Addr} {st : Store}
end
section
variable {X : Cx} {T : Tab} {E : XK} {a b c e o i value tg : Expr} {es : List Expr} {ta tb tc te to tk tv tiv : TEv} {tr : TAv} {pos pos' apos cpos p p2 p3 : Pos} {ti : TIv} {g : TGv} {tt : TTv} {vs ss : List Nat}
/-! ### comprehensions -/
variable {kx vx iter : Expr} {ifs : List Expr} {scope : Scope} {own : List (Str × Nat)}
variable {py spos : Pos}
end
end VS

set_option Elab.async false
set_option linter.all false
set_option maxRecDepth 100000
set_option maxHeartbeats 4000000
set_option autoImplicit false
/-! WM: an expression that only looks at live cells. -/
namespace VS
open PySem PySem.Spec PyProof.Rows L2
section
variable {X : Cx} {T : Tab} {E : XK} {e : Expr} {te : TEv}
end
end VS

set_option Elab.async false
set_option linter.all false
set_option maxRecDepth 100000
set_option maxHeartbeats 4000000
set_option autoImplicit false
/-! WN: xs.extend(ys), ys a tuple. -/
namespace VS
open PySem PySem.Spec PyProof.Rows L2 PySem.AutoSeq1
set_option maxRecDepth 8000 in
theorem ext_tup (l : Addr) (items : Array Value) (n : Nat) (b : Addr) (items2 : Array Value) (n2 : Nat) (dd : Option Addr) (sl : Array (Option Value)) (hs0 : ¬(!items.isEmpty && Builtin.List.listTooLong (items.size + items2.size)) = true) (hs1 : items.size ≤ sizeLine) (hs2 : items.size + items2.size ≤ sizeLine + 1) :
    Meets (Builtin.«list.extend» ⟨[.ref l, .ref b], []⟩) (fun _ R s => s.heap.get? l = some { cls := .type "list", dict := none, data := .seq items n, slots := #[] } ∧ s.heap.get? b = some { cls := .type "tuple", dict := dd, data := .seq items2 n2, slots := sl } ∧ R (.ok (.ret Value.none)) { s with heap := s.heap.update l (Obj.mapSeq fun x => x ++ items2), toks := s.toks }) :=
  .of_wp fun prog w A R s h => by
    obtain ⟨hp, g, d, tk, os⟩ := s; obtain ⟨hl, hb, h⟩ := h; have f1 := AutoSeq1.idx_int; have f2 := AutoSeq1.sub_tuple_tuple; have f3 := AutoSeq1.sub_list_list; have f4 := AutoSeq1.sub_tuple_list; have f5 := AutoSeq1.sub_list_tuple;
    have hz' : (items ++ items2).size ≤ sizeLine + 1 := by rw [Array.size_append]; exact hs2
    wp_walk using (wpAny_updateSeq hl rfl (hz := hs1) (_hz' := hz')), wpAny_loadPart' hl, wpAny_loadPart' hb; exact ⟨_, rfl, h⟩
section
variable {X : Cx} {T : Tab} {E : XK} {e o : Expr} {te to : TEv}
end
end VS

set_option Elab.async false
set_option linter.all false
set_option maxRecDepth 100000
set_option maxHeartbeats 4000000
set_option autoImplicit false
/-! WO: sorted of tuples of ints, of any lengths. -/
namespace VS
open PySem PySem.Spec PyProof.Rows L2 SrtO PySem.W PySem.Calls
/-- v is a tuple of these numbers -/
def TupI (h : Heap) (v : Value) (ns : List Int) : Prop :=
  ∃ (a : Addr) (dd : Option Addr) (items : Array Value) (n : Nat) (sl : Array (Option Value)), v = .ref a ∧ h.get? a = some { cls := .type "tuple", dict := dd, data := .seq items n, slots := sl } ∧ IntsAre items.toList ns
theorem TupI.keeps {h h' : Heap} {v : Value} {ns : List Int} (x : TupI h v ns) (k : ∀ b o, v = .ref b → h.get? b = some o → h'.get? b = some o) : TupI h' v ns := by
  obtain ⟨a, dd, items, n, sl, e, g, i⟩ := x
  exact ⟨a, dd, items, n, sl, e, k _ _ e g, i⟩
theorem TupI.type {M : Model} {h : Heap} {v : Value} {ns : List Int} (x : TupI h v ns) : Looks M h (typeOf v) (.type "tuple") := by
  obtain ⟨a, dd, items, n, sl, rfl, g, i⟩ := x
  exact (Looks.ld g).andThen .now
section
variable {prog : Program} {w : World} {A : Around} {E : Value → Shared → Prop} {s : Shared}
end
end VS

set_option Elab.async false
set_option linter.all false
set_option maxRecDepth 100000
set_option maxHeartbeats 4000000
set_option autoImplicit false
/-! XO: a locked dict copied, compared with another one; lists of pairs of an int and a text, sorted. -/
namespace VS
open PySem PySem.Spec PyProof.Rows L2 SrtO PySem.W PySem.Calls
/-! ### dict(d) -/
section
variable {X : Cx} {T : Tab} {E : XK} {e : Expr} {es : List Expr} {tr : TAv} {p pos : Pos}
end
/-! ### != of locked dicts -/
/-! ### sorted of pairs -/
def PairIS (h : Heap) (v : Value) (b : Int × List Nat) : Prop :=
  ∃ (a : Addr) (dd : Option Addr) (items : Array Value) (n : Nat) (sl : Array (Option Value)) (t1 t2 : Tok), v = .ref a ∧ h.get? a = some { cls := .type "tuple", dict := dd, data := .seq items n, slots := sl } ∧ items.toList = [.int b.1 t1, .str (S b.2) t2]
def encP (b : Int × List Nat) : PyData := .tuple [.int b.1, .str (S b.2)]
theorem PairIS.reads {h : Heap} {v : Value} {b : Int × List Nat} (x : PairIS h v b) : ∃ as, Reads h v (encP b) as := by
  obtain ⟨a, dd, items, n, sl, t1, t2, rfl, g, e⟩ := x
  exact ⟨_, .tuple g rfl rfl (by rw [e]; exact .cons (.int _ _) (.cons (.str _ _) .nil))⟩
@[irreducible] def sortP (l : List (Int × List Nat)) : List (Int × List Nat) := l.mergeSort (dataLe false encP)
section
variable {X : Cx} {T : Tab} {E : XK}
/-! over data -/
end
end VS

set_option Elab.async false
set_option linter.all false
set_option maxRecDepth 100000
set_option maxHeartbeats 4000000
set_option autoImplicit false
/-! XP: a locked dict's keys walked; a dict of a list of pairs. -/
namespace VS
open PySem PySem.Spec PyProof.Rows L2
/-! ### keys -/
section
variable {K : PySem.W.Frag} {T : Tab} {Z H : Hp} {ι : List Addr} {st : Store}
end
section
variable {X : Cx} {T : Tab} {E : XK} {e tg : Expr} {es : List Expr} {te : TEv} {tr : TAv} {p pos : Pos}
/-! ### dict of pairs -/
end
end VS

set_option Elab.async false
set_option linter.all false
set_option maxRecDepth 100000
set_option maxHeartbeats 4000000
set_option autoImplicit false
/-! XZ: the keys of a dict as a list, a dict copied as a cell, a name's dict locked ahead of a block. -/
namespace VS
open PySem PySem.Spec PyProof.Rows L2
/-! ### list(d) -/
section
variable {X : Cx} {T : Tab} {E : XK} {e : Expr} {es : List Expr} {tr : TAv} {p pos : Pos}
/-! ### dict(d) as a cell -/
end
/-! ### locked ahead of a block -/
section
variable {X : Cx} {T : Tab} {E : XK} {ss : List Stmt} {u : TSv} {i : Nat}
end
end VS

set_option Elab.async false
set_option linter.all false
set_option maxRecDepth 100000
set_option maxHeartbeats 4000000
set_option autoImplicit false
/-! WP: sorted of data that are tuples of ints. -/
namespace VS
open PySem PySem.Spec PyProof.Rows L2 SrtO PySem.W PySem.Calls
/-! ### the order -/
/-! ### over the heap -/
theorem ints_inj : ∀ {vs : List Value} {ns ms : List Int}, IntsAre vs ns → IntsAre vs ms → ns = ms
  | _, _, _, .nil, .nil => rfl
  | _, _, _, .cons n t h, .cons _ _ h' => by rw [ints_inj h h']
theorem TupI.inj {h : Heap} {v : Value} {ns ms : List Int} (x : TupI h v ns) (y : TupI h v ms) : ns = ms := by
  obtain ⟨a, dd, items, n, sl, rfl, g, i⟩ := x
  obtain ⟨b, dd2, items2, n2, sl2, e, g2, i2⟩ := y
  cases e
  rw [g] at g2
  cases g2
  exact ints_inj i i2
open Classical in
noncomputable def kOf (h : Heap) (v : Value) : List Int := if q : ∃ ns, TupI h v ns then q.choose else []
section
variable {X : Cx} {T : Tab} {E : XK}
/-! ### over data -/
end
end VS

set_option Elab.async false
set_option linter.all false
set_option maxRecDepth 100000
set_option maxHeartbeats 4000000
set_option autoImplicit false
/-! WQ: sorted by key=len of tuples: what it does to the heap. -/
namespace VS
open PySem PySem.Spec PyProof.Rows L2 SrtO PySem.W PySem.Calls
section
variable {α β : Type}
end
section
variable {prog : Program} {w : World} {A : Around} {E : Value → Shared → Prop} {s : Shared} {a kS : Addr} {e1 : Nat} {vs : List Value} {kz : List Int} {P : PySem.Fin → Shared → Prop}
end
end VS

set_option Elab.async false
set_option linter.all false
set_option maxRecDepth 100000
set_option maxHeartbeats 4000000
set_option autoImplicit false
/-! WR: sorted(xs, key=len), xs tuples. -/
namespace VS
open PySem PySem.Spec PyProof.Rows L2 SrtO PySem.W PySem.Calls
section
variable {prog : Program} {w : World} {A : Around} {E : Value → Shared → Prop} {s : Shared} {a : Addr} {vs : List Value} {kz : List Int}
end
end VS

set_option Elab.async false
set_option linter.all false
set_option maxRecDepth 100000
set_option maxHeartbeats 4000000
set_option autoImplicit false
/-! WS: sorted(xs, key=len) over data. -/
namespace VS
open PySem PySem.Spec PyProof.Rows L2 PySem.W PySem.Calls
section
variable {X : Cx} {T : Tab} {E : XK} {e : Expr} {te : TEv} {t : TA}
theorem Paired.at {α β : Type} {R : α → β → Prop} : ∀ {l : List α} {m : List β} {i : Nat} {x : α} {y : β}, Paired R l m → l[i]? = some x → m[i]? = some y → R x y
  | _, _, _, _, _, .nil, h, _ => by simp at h
  | _, _, 0, _, _, .cons r _, h, h2 => by simp at h h2; subst h h2; exact r
  | _, _, i + 1, _, _, .cons _ t, h, h2 => Paired.at (i := i) t (by simpa using h) (by simpa using h2)
theorem Paired.len {α β : Type} {R : α → β → Prop} : ∀ {l : List α} {m : List β}, Paired R l m → l.length = m.length
  | _, _, .nil => rfl
  | _, _, .cons _ t => by rw [List.length_cons, List.length_cons, Paired.len t]
/-! ### over data -/
end
end VS

set_option Elab.async false
set_option linter.all false
set_option maxRecDepth 100000
set_option maxHeartbeats 4000000
set_option autoImplicit false
/-! WT: sorted(set(xs)) as a new cell. -/
namespace VS
open PySem PySem.Spec PyProof.Rows L2
section
variable {X : Cx} {T : Tab} {E : XK} {e : Expr} {te : TEv} {p p2 p3 pos : Pos}
end
end VS

set_option Elab.async false
set_option linter.all false
set_option maxRecDepth 100000
set_option maxHeartbeats 4000000
set_option autoImplicit false
/-! WU: sorted(set(xs)) where few things are in xs, however often. -/
namespace VS
open PySem PySem.Spec PyProof.Rows L2
section
variable {X : Cx} {T : Tab} {E : XK} {e : Expr} {te : TEv} {p p2 p3 pos : Pos}
end
end VS

set_option Elab.async false
set_option linter.all false
set_option maxRecDepth 100000
set_option maxHeartbeats 4000000
set_option autoImplicit false
/-! XR: texts taken apart; integers of texts; xs[i], xs[j] = ..; try: S / except C as e: x = .. e.f ... -/
namespace VS
open PySem PySem.Spec PyProof.Rows L2
section
variable {X : Cx} {T : Tab} {E : XK} {o e : Expr} {to te : TEv} {apos cpos : Pos}
/-! ### partition, split -/
/-! ### int(text) -/
end
/-! ### xs[i] as a target among others -/
section
variable {X : Cx} {T : Tab} {E : XK} {pos' : Pos}
end
/-! ### try -/
section
open LX
variable {X : Cx} {T : Tab} {E : XK}
end
end VS

set_option Elab.async false
set_option linter.all false
set_option maxRecDepth 100000
set_option maxHeartbeats 1000000
set_option autoImplicit false
/-! XU: found = None; try: ask() / except C: found = text; return found. -/
namespace LX
open PySem PySem.Calls PySem.Spec PyProof.Rows L2 LamX NdefX
section
variable {X : Cx} {x a fd y q ret : Str} {sg : Scope} {g C : Addr} {cdg : Value} {p1 p2 p3 p4 p5 p6 p7 p8 p9 q1 q2 q3 q4 q5 : Pos} {j jj : Nat}
end
end LX
namespace VS
open PySem PySem.Spec PyProof.Rows L2 LX LamX NdefX
section
variable {X : Cx} {T : Tab} {E : XK}
end
end VS

set_option Elab.async false
set_option linter.all false
set_option maxRecDepth 100000
set_option maxHeartbeats 1000000
set_option autoImplicit false
/-! XT: for x, y in ((a, b), (c, d)): what stands there may be a place. -/
namespace VS
open PySem PySem.Spec PyProof.Rows L2
section
variable {X : Cx} {T : Tab} {E : XK} {u : TSv} {pos : Pos}
end
end VS

set_option Elab.async false
set_option linter.all false
set_option maxRecDepth 100000
set_option maxHeartbeats 2000000
set_option autoImplicit false
/-! XQ: lambdas as values, kept in a list; [f(ask) for ask in asks]. -/
namespace LamY
open PySem PySem.Spec PyProof.Rows L2 LamX
/-- a lambda that is known -/
def LamH (f : Addr) (ob : Obj) : HO := .ext fun h => h.get? f = some ob
abbrev lamQ (X : Cx) : Str := X.env.qual ++ "<lambda>"
abbrev lamOb (X : Cx) (params : Arguments) (body : Expr) (scope : Scope) (pm ctv : Value) (c' : Addr) : Obj := PySem.W.kla_obj "<lambda>" (lamQ X) params body scope (cloFrom X.env.cells scope.names []) pm c' ctv
section
variable {X : Cx}
/-- a lambda without parameters, and what its body reads -/
structure LamD (X : Cx) (k : Nat) where
  params : Arguments
  body : Expr
  scope : Scope
  pos : Pos
  t : XK → TE
  L : LamS X.env.scope scope
  hdef : defaultsOf params X.env = ([], [])
  hbind : ∀ (q : Str) (cl : List (Str × Addr)) (pm cv ctv : Value), bindArgs (PySem.W.kla_fn "<lambda>" q params body scope cl pm cv ctv) ⟨[], []⟩ = pure []
  hbody : ∀ (A : Around) (outer : List PySem.Env) (s : Shared) (H : Hp) (E : XK) (f c' : Addr), Room k (A.deeper (lamEnv X scope s.heap.objs.size f c')) → PE (lamCx X A outer s H E scope f c') body (t E)
/-- the lambda at f -/
def LamAt (X : Cx) {k : Nat} (d : LamD X k) (f : Addr) (H : Hp) : Prop := ∃ (c' : Addr) (pm ctv : Value), H c' = some (CodeO c' (lamQ X)) ∧ H f = some (LamH f (lamOb X d.params d.body d.scope pm ctv c'))
end
end LamY

set_option Elab.async false
set_option linter.all false
set_option maxRecDepth 100000
set_option maxHeartbeats 2000000
set_option autoImplicit false
/-! XV: a list of lambdas, asked one behind another: the V rules. -/
namespace VS
open PySem PySem.Spec PyProof.Rows L2 LamX LX LamY
section
variable {K : PySem.W.Frag} {T : Tab} {E : XK} {Z H : Hp} {ι : List Addr} {st : Store}
/-- what lies in no cell may be kept -/
theorem SimS.know {a : Addr} {o : HO} (s : SimS K T Z ι st H) (ho : H a = some o) (hn : a ∉ ι) (ht : ∀ ps, o ≠ .tbl ps) : SimS K T (upd Z a o) ι st H ∧ Le Z ι (upd Z a o) ι := by
  have hs : Same Z (upd Z a o) := fun b u e => by
    by_cases h : b = a
    · subst h
      have := s.sub _ _ e
      rw [ho] at this
      cases this
      exact upd_same
    · rw [upd_ne h]; exact e
  have l : Le Z ι (upd Z a o) ι := ⟨hs, fun _ _ h => h⟩
  refine ⟨⟨fun b u e => ?_, s.len, s.nd, fun n b c h1 h2 => ?_, s.there, ⟨fun b ps e => ?_, s.tab.ct, fun p hp => ⟨?_, (s.tab.tb p hp).2⟩⟩⟩, l⟩
  · by_cases h : b = a
    · subst h; rw [upd_same] at e; cases e; exact ho
    · rw [upd_ne h] at e; exact s.sub b u e
  · have hba : b ≠ a := fun q => hn (q ▸ List.mem_of_getElem? h1)
    have k := s.cell n b c h1 h2
    have up : ∀ {z : Hp}, z b = none → z = Z → upd Z a o b = none := fun q e => by rw [upd_ne hba, ← e]; exact q
    cases c with
    | dead => trivial
    | lstF xs => obtain ⟨n, vs, q, r⟩ := k; exact ⟨up n rfl, vs, q, r.mono hs⟩
    | lstW xs => obtain ⟨n, vs, q, r⟩ := k; exact ⟨up n rfl, vs, q, r.mono l⟩
    | dct xs => obtain ⟨n, vs, q, r⟩ := k; exact ⟨up n rfl, vs, q, r.mono hs⟩
    | dti xs => obtain ⟨n, vs, q, r⟩ := k; exact ⟨up n rfl, vs, q, r.mono hs⟩
    | ins c fs => obtain ⟨n, dx, fvs, q, hc, r⟩ := k; exact ⟨up n rfl, dx, fvs, q, hc, r.mono l⟩
  · by_cases h : b = a
    · subst h; rw [upd_same] at e; cases e; exact ht ps rfl
    · rw [upd_ne h] at e; exact s.tab.zt b ps e
  · obtain ⟨h1, ps, h2, _⟩ := s.tab.tb p hp
    rw [upd_ne fun q => ht ps (by rw [q, ho] at h2; exact Option.some.inj h2)]
    exact h1
end
/-- a lambda's text, and what it computes -/
structure LamV (X : Cx) (T : Tab) (k : Nat) where
  params : Arguments
  body : Expr
  scope : Scope
  pos : Pos
  tb : TEv
  L : LamS X.env.scope scope
  hdef : defaultsOf params X.env = ([], [])
  hbind : ∀ (q : Str) (cl : List (Str × Addr)) (pm cv ctv : Value), bindArgs (PySem.W.kla_fn "<lambda>" q params body scope cl pm cv ctv) ⟨[], []⟩ = pure []
  hbody : ∀ (A : Around) (outer : List PySem.Env) (s : Shared) (H : Hp) (E : XK) (f c' : Addr), Room k (A.deeper (lamEnv X scope s.heap.objs.size f c')) → VE (lamCx X A outer s H E scope f c') T E body tb
def LamV.D {X : Cx} {T : Tab} {k : Nat} (d : LamV X T k) : LamD X k := ⟨d.params, d.body, d.scope, d.pos, fun E => RdE X.K T E d.tb, d.L, d.hdef, d.hbind, d.hbody⟩
def LamsAt (X : Cx) (T : Tab) (k : Nat) (ds : List (LamV X T k)) (fs : List Addr) (Z : Hp) : Prop := ds.length = fs.length ∧ ∀ (n : Nat) (d : LamV X T k) (f : Addr), ds[n]? = some d → fs[n]? = some f → LamAt X d.D f Z
section
variable {X : Cx} {T : Tab} {E : XK} {k i : Nat} {ds : List (LamV X T k)}
theorem lamAt_mono {d : LamD X k} {f : Addr} {Z Z' : Hp} (h : LamAt X d f Z) (s : Same Z Z') : LamAt X d f Z' := by
  obtain ⟨c', pm, ctv, h1, h2⟩ := h
  exact ⟨c', pm, ctv, s _ _ h1, s _ _ h2⟩
theorem LamsAt.mono {fs : List Addr} {Z Z' : Hp} (h : LamsAt X T k ds fs Z) (s : Same Z Z') : LamsAt X T k ds fs Z' := ⟨h.1, fun n d f e1 e2 => lamAt_mono (h.2 n d f e1 e2) s⟩
variable {x y : Str} {params : Arguments} {body : Expr} {scope : Scope} {pos p0 p1 p2 p3 p4 : Pos} {tb : TEv} {rest : List Stmt} {t : TSv} {jj : Nat}
variable {P : Hp → L2.St → Prop} {tc te : TEv}
end
end VS

set_option Elab.async false
set_option linter.all false
set_option maxRecDepth 100000
set_option maxHeartbeats 4000000
set_option autoImplicit false
/-! WV: dicts without entries: == of them, dict([.. for k in d]). -/
namespace VS
open PySem PySem.Spec PyProof.Rows L2
section
variable {X : Cx} {T : Tab} {E : XK} {e : Expr} {te : TEv} {p p2 p3 pos : Pos}
variable {elt tg : Expr} {ifs : List Expr} {scope : Scope} {own : List (Str × Nat)} {tg1 : TGv} {tt : TTv} {te2 : TEv} {x : Str} {i : Nat} {pl : Pos} {ss : List Nat}
end
end VS

set_option Elab.async false
set_option linter.all false
set_option maxRecDepth 100000
set_option maxHeartbeats 4000000
set_option autoImplicit false
/-! WW: tuples many times. -/
namespace VS
open PySem PySem.Spec PyProof.Rows L2
section
variable {X : Cx} {T : Tab}
end
end VS

set_option Elab.async false
set_option linter.all false
set_option maxRecDepth 100000
set_option maxHeartbeats 4000000
set_option autoImplicit false
/-! WX: == of a list and the empty one, whatever its members are. -/
namespace PySem.SeqAt
open AutoSeq1 (wpAny_loadPart')
open MeetsSeq MeetsSeq2 MeetsSeq3 SeqRoads2
section
variable {prog : Program} {w : World}
end
end PySem.SeqAt
namespace VS
open PySem PySem.Spec PyProof.Rows L2
section
variable {X : Cx} {T : Tab}
end
end VS

set_option Elab.async false
set_option linter.all false
set_option maxRecDepth 100000
set_option maxHeartbeats 4000000
set_option autoImplicit false
/-! WY: a def that tells a live object, the object told as data; a value taken apart into attributes. -/
namespace VS
open PySem PySem.Spec PyProof.Rows L2
/-- what m tells, as data -/
def frzM (m : FnM) : FnM := fun ws st => (m ws st).bind fun w st1 => frz st.length w st1
section
variable {P : Program} {w : World} {K : PySem.W.Frag} {mg : Str → Option Value} {base : Heap} {T : Tab} {f : Addr} {k : Nat}
theorem spM_frz {m : FnM} {vs : List V} {H : Hp} {Q : VK} {E : XK} (h : spM K T (frzM m) vs H Q E) : spM K T m vs H Q E := by
  obtain ⟨Z, ι, ws, st, s, rvs, p⟩ := h
  refine ⟨Z, ι, ws, st, s, rvs, ?_⟩
  unfold frzM at p
  cases q : m ws st with
  | ok w st1 => rw [q] at p; exact fun H' Z' ι' l s' v rv => frz_ok (Z0 := Z) (ι0 := ι) s.len l s' rv p
  | exc c fs st1 => rw [q] at p; exact p
  | stuck => rw [q] at p; exact p
theorem Fn.frz {CX : CXT} {m : FnM} (F : Fn P w K mg base T CX k f m) : Fn P w K mg base T CX k f (frzM m) := by
  obtain ⟨fd, ps, ds, dvs, dfs, m0, F0, b, v, r, e⟩ := F.ex
  refine ⟨⟨fd, ps, ds, dvs, dfs, frzM m0, F0.imp fun vs H Q E h => spM_frz h, b, v, r, ?_⟩, F.kp⟩
  funext ws st
  rw [e]
  rfl
end
section
variable {X : Cx} {T : Tab} {E : XK} {e : Expr} {te : TEv} {pos : Pos}
end
end VS

set_option Elab.async false
set_option linter.all false
set_option maxRecDepth 100000
set_option maxHeartbeats 4000000
/-! XK: a list's != whose items have an own ==. -/
namespace GQ
open PySem PySem.SeqAt
open AutoSeq1 (wpAny_loadPart')
open MeetsSeq MeetsSeq2 MeetsSeq3 SeqRoads2
section
variable {prog : Program} {w : World} {A : Around} {R : Result → Shared → Prop}
end
section
variable {prog : Program} {w : World} {A : Around} {E : Value → Shared → Prop} {s : Shared}
end
end GQ
namespace L2
open PySem PySem.Spec PyProof.Rows
section
variable {X : Cx} {n m : Nat} {D D' : Eqv}
end
end L2

set_option Elab.async false
set_option linter.all false
set_option maxRecDepth 100000
set_option maxHeartbeats 4000000
set_option autoImplicit false
/-! WZ: a list's != where the items are own objects or pairs of ints, all alike. -/
namespace VS
open PySem PySem.Spec PyProof.Rows L2
section
variable {X : Cx} {T : Tab} {E : XK} {a b e : Expr} {ta tb te : TEv} {pos : Pos} {CX : CXT} {k c : Nat} {g : Addr} {m : FnM} {C : Addr} {sp : Sp}
end
end VS

set_option Elab.async false
set_option linter.all false
set_option maxRecDepth 100000
set_option maxHeartbeats 4000000
set_option autoImplicit false
/-! YA: the keys of a locked dict as a new list's cell. -/
namespace VS
open PySem PySem.Spec PyProof.Rows L2
section
variable {X : Cx} {T : Tab} {E : XK} {e : Expr} {es : List Expr} {tr : TAv} {p pos : Pos}
end
end VS

set_option Elab.async false
set_option linter.all false
set_option maxRecDepth 100000
set_option maxHeartbeats 4000000
set_option autoImplicit false
/-! YB1: list(zip(x, y)) over two iterators of any kind: the tuples given out stay, so the zip makes a new one each time. -/
namespace PySem
open PySem.Calls PyProof.Rows PyProof.V PySem.Spec
section
variable {prog : Program} {w : World} {A : Around} {E : Value → Shared → Prop} {s : Shared} {z TI TO T i1 i2 : Addr} {f : Bool} {oT : Obj} {fp1 fp2 : List Addr} {n1 n2 i : Nat} {P1 P2 : Nat → Value → Prop} {St1 St2 : Nat → Heap → Prop}
end
section
variable {prog : Program} {w : World} {A : Around} {E : Value → Shared → Prop} {s : Shared} {z TI TO T i1 i2 : Addr} {f : Bool} {oT : Obj} {fp1 fp2 : List Addr} {n1 n2 i : Nat} {P1 P2 : Nat → Value → Prop} {St1 St2 : Nat → Heap → Prop}
end
/-- the state of the walk behind i items; l: the list that takes them -/
structure ZlSt (St1 St2 : Nat → Heap → Prop) (z TI TO i1 i2 l : Addr) (i : Nat) (h : Heap) : Prop where
  ti : IsTupOf2 h TI (.ref i1) (.ref i2)
  s1 : St1 i h
  s2 : St2 i h
  zz : (IsZip h z TI TO .none ∧ ∃ a b, IsTupOf2 h TO a b) ∨ ∃ T f oT, IsZipHeld h z TI TO T f ∧ h.get? T = some oT ∧ T ≠ z ∧ T ≠ i1 ∧ T ≠ i2 ∧ T ≠ l
/-- the tuples that were given out -/
structure ZlG (P1 P2 : Nat → Value → Prop) (lo : Addr) (h : Heap) (as : List Addr) : Prop where
  rise : as.Pairwise (· < ·)
  above : ∀ a ∈ as, lo < a
  pairs : ∀ (j : Nat) (a : Addr), as[j]? = some a → ∃ x y, P1 j x ∧ P2 j y ∧ h.get? a = some { cls := .type "tuple", data := .seq #[x, y] }
theorem ZlG.there {P1 P2 : Nat → Value → Prop} {lo : Addr} {h : Heap} {as : List Addr} (g : ZlG P1 P2 lo h as) {a : Addr} (ha : a ∈ as) : a < h.objs.size := by
  obtain ⟨j, hj⟩ := List.mem_iff_getElem?.mp ha
  obtain ⟨_, _, _, _, e⟩ := g.pairs j a hj
  exact Heap.lt_size e
section
variable {prog : Program} {w : World} {A : Around} {s : Shared} {R : Result → Shared → Prop} {z TI TO i1 i2 : Addr} {fp1 fp2 : List Addr} {n1 n2 : Nat} {P1 P2 : Nat → Value → Prop} {St1 St2 : Nat → Heap → Prop}
theorem ZlSt.keep {l : Addr} {i : Nat} {h h' : Heap} (S : ZipSep2 z TI TO i1 i2 fp1 fp2) (D1 : Draws prog w A i1 fp1 n1 P1 St1) (D2 : Draws prog w A i2 fp2 n2 P2 St2) (st : ZlSt St1 St2 z TI TO i1 i2 l i h)
    (hl : l ∉ z :: TI :: TO :: (fp1 ++ fp2)) (k : ∀ b o, b ≠ l → h.get? b = some o → h'.get? b = some o) : ZlSt St1 St2 z TI TO i1 i2 l i h' := by
  have lz : z ≠ l := fun e => hl (by simp [e])
  have lTI : TI ≠ l := fun e => hl (by simp [e])
  have lTO : TO ≠ l := fun e => hl (by simp [e])
  obtain ⟨hTI, st1, st2, hzz⟩ := st
  refine ⟨k _ _ lTI hTI, D1.frame _ _ _ st1 fun b hb o e => k b o (fun x => hl (by simp [x ▸ hb])) e, D2.frame _ _ _ st2 fun b hb o e => k b o (fun x => hl (by simp [x ▸ hb])) e, ?_⟩
  rcases hzz with ⟨hz, a, b, hTO⟩ | ⟨T, f, oT, hz, hT, r1, r2, r3, r4⟩
  · exact .inl ⟨k _ _ lz hz, a, b, k _ _ lTO hTO⟩
  · exact .inr ⟨T, f, oT, k _ _ lz hz, k _ _ r4 hT, r1, r2, r3, r4⟩
end
section
variable {prog : Program} {w : World} {A : Around} {E : Value → Shared → Prop} {s : Shared} {R : Result → Shared → Prop} {z TI TO i1 i2 : Addr} {fp1 fp2 : List Addr} {n1 n2 : Nat} {P1 P2 : Nat → Value → Prop} {St1 St2 : Nat → Heap → Prop}
end
end PySem

set_option Elab.async false
set_option linter.all false
set_option maxRecDepth 100000
set_option maxHeartbeats 4000000
set_option autoImplicit false
/-! YB: list(zip(x, y)) as data. -/
namespace VS
open PySem PySem.Spec PyProof.Rows L2
section
variable {X : Cx}
section
variable {pins : List (Addr × Obj)} {σ : L2.St} {H : Hp} {s : Shared}
end
end
section
variable {X : Cx} {T : Tab} {E : XK} {e e2 : Expr} {tr : TAv} {p p2 pos pos2 : Pos}
end
end VS

set_option Elab.async false
set_option linter.all false
set_option maxRecDepth 100000
set_option maxHeartbeats 4000000
set_option autoImplicit false
/-! YC: tuples that are keys: as they come from items(), as tuples again, asked by get with a value for none. -/
namespace VS
open PySem PySem.Spec PyProof.Rows L2
section
variable {K : PySem.W.Frag} {T : Tab} {Z : Hp} {ι : List Addr}
end
section
variable {X : Cx} {T : Tab} {E : XK} {e f o : Expr} {te tf to : TEv} {apos cpos : Pos}
end
end VS

set_option Elab.async false
set_option linter.all false
set_option maxRecDepth 100000
set_option maxHeartbeats 4000000
set_option autoImplicit false
/-! YD: several clauses, some 'except X as e' with a field told, some 'except X' with a tag alone. -/
namespace LX2
open PySem PySem.Calls PySem.Spec PyProof.Rows L2 LamX NdefX
open LX hiding triX TTri TriH triT tri_hds tri_wish tri_gives
/-- told of an exception: its tag and its field -/
def triX (K : PySem.W.Frag) : List (Addr × Str × Option Str) → Value → Option Addr → Hp → VK → Prop
  | [], _, _, _, _ => False
  | (C, tag, none) :: r, cls, d, H, Q => ∃ b, PySem.W.exmOne K cls (.ref C) = some b ∧ (b = true → ∀ l, H l = none → Q (.ref l) (upd H l (.tup [.str tag]))) ∧ (b = false → triX K r cls d H Q)
  | (C, tag, some f) :: r, cls, d, H, Q => ∃ b, PySem.W.exmOne K cls (.ref C) = some b ∧
      (b = true → cls = .ref C ∧ ∃ (dd : Addr) (fs : List (Str × V)) (v : V), d = some dd ∧ H dd = some (.xd fs) ∧ fs.lookup f = some v ∧ ∀ l, H l = none → Q (.ref l) (upd H l (.tup [.str tag, v]))) ∧ (b = false → triX K r cls d H Q)
/-- told: found = None; try: a() / except .. as e: found = (tag, e.f) ..; return found -/
def TTri (K : PySem.W.Frag) (hl : List (Addr × Str × Option Str)) : (XK → Hp → VK → Prop) → Hp → VK → Prop := fun tl H Q => tl (fun cls d H' => triX K hl cls d H' Q) H fun _ H' => Q .non H'
inductive TriH (K : PySem.W.Frag) (mg : Str → Option Value) (sg : Scope) (fd e : Str) : List ExceptHandler → List (Addr × Str × Option Str) → Prop
  | nil : TriH K mg sg fd e [] []
  | cons {x tag f : Str} {C : Addr} {np p1 p2 p3 p4 p5 p6 pos : Pos} {j k : Nat} {hds : List ExceptHandler} {r : List (Addr × Str × Option Str)} (hg : sg.names.lookup x = some .globalImplicit) (hd : (x == ("__debug__" : Str)) = false) (hm : mg x = some (.ref C)) (xf : XfC K C) (hno : PySem.W.findIn K (.ref C) f = some none)
      (hx : (f == ("__class__" : Str)) = false) (t : TriH K mg sg fd e hds r) :
      TriH K mg sg fd e (.ExceptHandler (some (.Name x np)) (some e) [.Assign [.Name fd p1] (.Tuple [.Constant (.str tag) j p2, .Attribute (.Name e p3) f p4] k p5) p6] pos :: hds) ((C, tag, some f) :: r)
  | pl {x tag : Str} {C : Addr} {np p1 p2 p5 p6 pos : Pos} {j k : Nat} {hds : List ExceptHandler} {r : List (Addr × Str × Option Str)} (hg : sg.names.lookup x = some .globalImplicit) (hd : (x == ("__debug__" : Str)) = false) (hm : mg x = some (.ref C)) (t : TriH K mg sg fd e hds r) :
      TriH K mg sg fd e (.ExceptHandler (some (.Name x np)) none [.Assign [.Name fd p1] (.Tuple [.Constant (.str tag) j p2] k p5) p6] pos :: hds) ((C, tag, none) :: r)
def triT : Addr × Str × Option Str → Value × (Addr → Value → Option Addr → TS)
  | (C, tag, some f) => (.ref C, tAs 2 fun a cls d => tAsg (tTup (tCons (tC (.str tag)) (tCons (tXf a cls d C f (tVar 2)) tNil))) (gName 1))
  | (C, tag, none) => (.ref C, fun _ _ _ => tAsg (tTup (tCons (tC (.str tag)) tNil)) (gName 1))
section
variable {X : Cx} {x a fd e q : Str} {sg : Scope} {g : Addr} {cdg : Value} {hds : List ExceptHandler} {hl : List (Addr × Str × Option Str)} {p1 p2 p3 p4 p5 p6 p7 p8 p9 : Pos} {j : Nat}
theorem tri_hds {X' : Cx} (hK : X'.K = X.K) (hmg : X'.mg = X.mg) (hsc : X'.env.scope = sg) (hN : X'.N.Nodup) (h1 : X'.N[1]? = some fd) (h2 : X'.N[2]? = some e) (hfd : sg.names.lookup fd = some .local) (he : sg.names.lookup e = some .local) (hfn : ∀ y, X'.fn y = true)
    (hd1 : (e == ("__debug__" : Str)) = false) (hd2 : (e == ("__classdict__" : Str)) = false) (hb : ∀ f p, attributeBase (.Name e p) f X'.env (eval (.Name e p) X'.env) = eval (.Name e p) X'.env)
    (hsw : ∀ (tag f : Str) (jj k : Nat) (p1 p2 p3 p4 p5 p6 : Pos), swapsWith (.Tuple [.Constant (.str tag) jj p2, .Attribute (.Name e p3) f p4] k p5) (some (.Name fd p1)) p6.line X'.env = pure false)
    (hsw2 : ∀ (tag : Str) (jj k : Nat) (p1 p2 p5 p6 : Pos), swapsWith (.Tuple [.Constant (.str tag) jj p2] k p5) (some (.Name fd p1)) p6.line X'.env = pure false)
    (t : TriH X.K X.mg sg fd e hds hl) : HdsA X' hds (hl.map triT) := by
  induction t with
  | nil => exact .nil
  | @pl x tag C np p1 p2 p5 p6 pos jj k hds r hg hd hm t ih =>
    refine .plain ⟨by show X'.env.scope.names.lookup x = _; rw [hsc]; exact hg, hd, .inl (by rw [hmg]; exact hm)⟩ (fun a oe cls d pn hz hf => ?_) ih
    exact pss_one (ps_set (i := 1) hN h1 (.inl (by show X'.env.scope.names.lookup fd = _; rw [hsc]; exact hfd)) (pe_tup (pa_cons pe_str pa_nil)) (hsw2 _ _ _ _ _ _ _) (.inl (hfn _)))
  | @cons x tag f C np p1 p2 p3 p4 p5 p6 pos jj k hds r hg hd hm xf hno hx t ih =>
    refine .as_ hN h2 (by show X'.env.scope.names.lookup e = _; rw [hsc]; exact he) ⟨by show X'.env.scope.names.lookup x = _; rw [hsc]; exact hg, hd, .inl (by rw [hmg]; exact hm)⟩ (fun a oe cls d pn hz hf => ?_) ih
    refine pss_one (ps_set (i := 1) hN h1 (.inl (by show X'.env.scope.names.lookup fd = _; rw [hsc]; exact hfd)) (pe_tup (pa_cons pe_str (pa_cons (pe_xf (by show XfC X'.K C; rw [hK]; exact xf) (by show PySem.W.findIn X'.K (.ref C) f = _; rw [hK]; exact hno) hz hf (pe_var (i := 2) h2 (.inl (by show X'.env.scope.names.lookup e = _; rw [hsc]; exact he)) hd1 hd2) (hb f p3)) pa_nil))) (hsw _ _ _ _ _ _ _ _ _ _) (.inl (hfn _)))
/-- told of all exceptions that the clauses name -/
theorem tri_wish {K : PySem.W.Frag} {D : Ends} {H : Hp} {cls : Value} {d : Option Addr} {Q : VK} {σ : L2.St} (hσ : σ.length = 3) (hD : ∀ σ' H', D.nx σ' H' ↔ ∃ v, σ'[1]? = some (some v) ∧ Q v H') :
    ∀ (hl : List (Addr × Str × Option Str)), triX K hl cls d H Q → wAll K D (hl.map triT) cls d σ H
  | [], h => h
  | (C, tag, none) :: r, ⟨b, h1, h2, h3⟩ => by
    refine ⟨b, h1, fun hb a na => ?_, fun hb => tri_wish hσ hD r (h3 hb)⟩
    refine ⟨show (1 : Nat) ≤ sizeLine by rw [sizeLine_eq]; decide, fun p hp => ?_⟩
    refine (hD _ _).mpr ⟨.ref p, ?_, h2 hb p hp⟩
    rw [List.getElem?_set_self (by rw [hσ]; decide)]
  | (C, tag, some f) :: r, ⟨b, h1, h2, h3⟩ => by
    refine ⟨b, h1, fun hb a na => ?_, fun hb => tri_wish hσ hD r (h3 hb)⟩
    obtain ⟨hc, dd, fs, v, e1, e2, e3, e4⟩ := h2 hb
    refine ⟨.ref a, by rw [List.getElem?_set_self (by rw [hσ]; decide)], rfl, hc, dd, fs, v, e1, e2, e3, show (2 : Nat) ≤ sizeLine by rw [sizeLine_eq]; decide, fun p hp => ?_⟩
    refine (hD _ _).mpr ⟨.ref p, ?_, e4 p hp⟩
    rw [List.getElem?_set_ne (by decide), List.getElem?_set_self (by rw [List.length_set, hσ]; decide)]
theorem tri_gives (hge : TriH X.K X.mg sg fd e hds hl) (hne : hds ≠ []) (nd : [a, fd, e].Nodup) (hfd : sg.names.lookup fd = some .local) (he : sg.names.lookup e = some .local)
    (hd1 : (e == ("__debug__" : Str)) = false) (hd2 : (e == ("__classdict__" : Str)) = false) (hd3 : (fd == ("__debug__" : Str)) = false) (hd4 : (fd == ("__classdict__" : Str)) = false) :
    GivesTo X [a, fd, e] x sg g cdg [.Assign [.Name fd p1] (.Constant .none j p2) p3, .Try [.Expr (.Call (.Name a p4) [] [] p5) p9] hds [] [] p6, .Return (some (.Name fd p7)) p8] a q (TTri X.K hl) := by
  intro f c' s H Q tl act hc h
  obtain ⟨h₀, hds', rfl⟩ : ∃ h₀ hds', hds = h₀ :: hds' := by
    cases hds with
    | nil => exact absurd rfl hne
    | cons a b => exact ⟨a, b, rfl⟩
  have hT := hge
  refine ⟨_, pss_cons (ps_set (i := 1) nd rfl (.inl hfd) pe_non) (pss_cons (ps_try_all (X := (cxOf C8.CX0 X.prog X.w X.K X.mg X.base [a, fd, e] x sg g cdg X.A X.stack s H C8.E0).nox)
    (tb := fun W D σ H => ∃ Ech : XK, (∀ cls d σ' H', Ech cls d H' → σ'.length = 3 → W cls d σ' H') ∧ σ[0]? = some (some (.ref f)) ∧ H c' = some (CodeO c' q) ∧ tl Ech H fun _ H' => D.nx σ H')
    rfl rfl (fun W pn xe tk _ => ?_) (tri_hds (X := X) rfl rfl rfl nd rfl rfl hfd he (fun _ => rfl) hd1 hd2 (fun _ _ => rfl) (fun _ _ _ _ _ _ _ _ _ _ => rfl) (fun _ _ _ _ _ _ _ => rfl) hT)) (pss_one (ps_ret (pe_var (i := 1) rfl (.inl hfd) hd3 hd4)))), ?_⟩
  · refine ⟨fun pins s' σ H' D I h' => ?_⟩
    obtain ⟨Ech, hW, h1, h2, h3⟩ := h'
    have hp := act _ pn xe Ech p4 p5 (LX.takes_len tk) (fun cls d σ' H' q hl => hW cls d σ' H' q hl)
    exact (pss_one (ps_expr (pos := p9) hp)).run pins s' σ H' D I ⟨h1, h2, h3⟩
  · refine ⟨fun cls d H' => triX X.K _ cls d H' Q, fun cls d σ' H' q hl => tri_wish hl (fun _ _ => Iff.rfl) _ q, rfl, hc, ?_⟩
    have e2 : (fun (_ : V) (H' : Hp) => ∃ v, ((L2.start [a, fd, e] [V.ref f]).set 1 (some V.non))[1]? = some (some v) ∧ Q v H') = fun _ H' => Q .non H' := by
      funext _ H'
      exact propext ⟨fun ⟨v, e, q⟩ => by cases e; exact q, fun q => ⟨_, rfl, q⟩⟩
    show tl _ H (fun (_ : V) (H' : Hp) => ∃ v, ((L2.start [a, fd, e] [V.ref f]).set 1 (some V.non))[1]? = some (some v) ∧ Q v H')
    rw [e2]
    exact h
end
end LX2

namespace VS
open PySem PySem.Spec PyProof.Rows L2 LamX LX
section
variable {K : PySem.W.Frag} {T : Tab} {E : XK} {Z H H1 : Hp} {ι : List Addr} {st : Store}
end
section
variable {X : Cx} {T : Tab} {E : XK}
end
end VS

namespace VS
open PySem PySem.Spec PyProof.Rows L2
end VS

set_option Elab.async false
set_option linter.all false
set_option maxRecDepth 100000
set_option maxHeartbeats 4000000
set_option autoImplicit false
/-! YE: defs whose last statement tells a pair of data and a value (a live cell, say); the pair taken apart by its caller. -/
namespace VS
open PySem PySem.Spec PyProof.Rows L2
abbrev TPv := Env → Store → Res (F × W)
abbrev FnM2 := List W → Store → Res (F × W)
section
variable {K : PySem.W.Frag} {T : Tab} {E : XK}
def PQ (Q : VK) : F × W → Store → Hp → Hp → List Addr → Prop := fun p _ H' Z' ι' => ∀ v1 v2 a, SqT K Z' a [v1, v2] → RepF K T Z' v1 p.1 → RepW K T Z' ι' v2 p.2 → Q (.ref a) H'
variable (K T E) in
def spM2 (K : PySem.W.Frag) (T : Tab) (m : FnM2) : Sp := fun vs H Q E => ∃ Z ι ws st, SimS K T Z ι st H ∧ RepWs K T Z ι vs ws ∧ Post K T E Z ι (m ws st) (PQ (K := K) (T := T) Q)
end
section
variable {X : Cx} {T : Tab} {E : XK} {es : List Expr} {tr : TAv} {pos pos' : Pos} {s : Stmt} {ss : List Stmt} {u : TSv} {r : TPv} {x1 : Nat}
end
section
variable {P : Program} {w : World} {K : PySem.W.Frag} {mg : Str → Option Value} {base : Heap} {T : Tab} {x qual : Str} {params : Arguments} {body : List Stmt} {scope : Scope} {dvs : List V} {kws : List (Str × V)} {f : Addr} {fd : FuncData} {N ps : List Str} {k : Nat} {t : TPv}
end
/-- the def at f tells pairs -/
structure Fn2 (P : Program) (w : World) (K : PySem.W.Frag) (mg : Str → Option Value) (base : Heap) (T : Tab) (CX : CXT) (k : Nat) (f : Addr) (m : FnM2) : Prop where
  ex : ∃ (fd : FuncData) (ps : List Str), FnOk P w K mg base CX k f fd ps (spM2 K T m) ∧ Binds K fd ps []
  kp : PySem.W.keepIn K (.ref f) = true
section
variable {X : Cx} {T : Tab} {E : XK} {CX : CXT} {k : Nat} {f : Addr} {m : FnM2} {x : Str} {p pos pos' : Pos} {e : Expr} {es ts : List Expr} {gs : List TM} {tr : TAv} {kt : Nat} {pt : Pos}
end
/-! ### d["a"] as a target among others -/
section
variable {X : Cx} {T : Tab} {E : XK} {pos' : Pos}
end
end VS

set_option Elab.async false
set_option linter.all false
set_option maxRecDepth 100000
set_option maxHeartbeats 4000000
set_option autoImplicit false
/-! YF: the keys of a locked dict with tuple keys. -/
namespace VS
open PySem PySem.Spec PyProof.Rows L2
/-! ### the keys of a locked dict with tuple keys, as keys -/
section
variable {K : PySem.W.Frag} {T : Tab} {Z : Hp} {ι : List Addr}
end
section
variable {X : Cx} {T : Tab} {E : XK} {tg e : Expr} {te : TEv}
end
end VS

set_option Elab.async false
set_option linter.all false
set_option maxRecDepth 100000
set_option maxHeartbeats 4000000
set_option autoImplicit false
/-! YG: dict(a list of pairs) as a live cell. -/
namespace VS
open PySem PySem.Spec PyProof.Rows L2
section
variable {X : Cx} {T : Tab} {E : XK} {e : Expr} {es : List Expr} {tr : TAv} {p pos : Pos}
end
end VS

set_option Elab.async false
set_option linter.all false
set_option maxRecDepth 100000
set_option maxHeartbeats 4000000
set_option autoImplicit false
/-! YH: xs[i] += e. -/
namespace VS
open PySem PySem.Spec PyProof.Rows L2
section
variable {X : Cx} {T : Tab} {E : XK} {o i e : Expr} {to ti te : TEv} {pos tpos : Pos}
end
/-! ### a != b, each an own object or None (None against an object is not told) -/
section
variable {X : Cx} {T : Tab} {E : XK} {a b : Expr} {ta tb : TEv} {pos : Pos} {CX : CXT} {k c : Nat} {f : Addr} {m : FnM}
end
/-! ### xs * n as a cell -/
section
variable {X : Cx} {T : Tab} {E : XK} {a b : Expr} {ta tb : TEv} {pos : Pos}
end
/-! ### != of locked dicts of texts -/
end VS

set_option Elab.async false
set_option linter.all false
set_option maxRecDepth 100000
set_option maxHeartbeats 4000000
set_option autoImplicit false
/-! YI: xs.remove(k) of whole numbers, list(range(a, b)) as a cell, sorted forms of trees. -/
namespace VS
open PySem PySem.Spec PyProof.Rows L2 PySem.W
/-! ### remove -/
section
variable {X : Cx} {T : Tab} {E : XK} {o e : Expr} {to te : TEv} {apos cpos : Pos}
/-! ### list(range(a, b)) as a cell -/
variable {a b : Expr} {ta tb : TEv} {p p2 pos pos2 : Pos}
end
/-! ### sorted forms: a form is a list of pairs of a number and a form -/
inductive Fm where
  | nil | cons (i : Int) (sub rest : Fm)
deriving DecidableEq
def items : Fm → List (Int × Fm)
  | .nil => []
  | .cons i s r => (i, s) :: items r
def encs : Fm → List PyData
  | .nil => []
  | .cons i s r => .tuple [.int i, .tuple (encs s)] :: encs r
def encI (b : Int × Fm) : PyData := .tuple [.int b.1, .tuple (encs b.2)]
@[irreducible] def sortFm (l : List (Int × Fm)) : List (Int × Fm) := l.mergeSort (dataLe false encI)
section
variable {X : Cx} {T : Tab} {E : XK}
end
/-! ### k in d, d a dict with numbers and texts for keys, live or data -/
section
variable {X : Cx} {T : Tab} {E : XK} {o i : Expr} {tk td : TEv} {pos : Pos}
end
/-! ### an expression that only looks at live cells and makes a new list of flat things -/
section
variable {X : Cx} {T : Tab} {E : XK} {e : Expr} {te : TEv}
variable {elt iter tg c : Expr} {ifs : List Expr} {scope : Scope} {own : List (Str × Nat)} {spos py pos : Pos} {ti : TIv} {g : TGv} {tt : TTv} {ss : List Nat}
end
end VS

set_option Elab.async false
set_option linter.all false
set_option maxRecDepth 100000
set_option maxHeartbeats 4000000
set_option autoImplicit false
/-! YJ: a list's != where the items are own objects or any equal data. -/
namespace VS
open PySem PySem.Spec PyProof.Rows L2
section
variable {X : Cx} {T : Tab} {E : XK} {a b e : Expr} {ta tb te : TEv} {pos : Pos} {CX : CXT} {k c : Nat} {g : Addr} {m : FnM} {C : Addr} {sp : Sp}
end
end VS

set_option Elab.async false
set_option linter.all false
set_option maxRecDepth 100000
set_option maxHeartbeats 4000000
set_option autoImplicit false
/-! YK: calls with keywords of defs, methods and constructors, with and without values by place. -/
namespace VS
open PySem PySem.Spec PyProof.Rows L2

/-- some of a list's items, by their places -/
def perm {α : Type} (pr : List Nat) (xs : List α) : List α := pr.filterMap fun i => xs[i]?
theorem vals_get : ∀ {vs : List V} {us : List Value}, Vals vs us → ∀ i : Nat, (vs[i]? = none ∧ us[i]? = none) ∨ ∃ v u, vs[i]? = some v ∧ us[i]? = some u ∧ RelV v u
  | _, _, .nil, i => .inl (by simp)
  | _, _, .cons r t, 0 => .inr ⟨_, _, rfl, rfl, r⟩
  | _, _, .cons r t, i + 1 => by simpa using vals_get t i
theorem vals_perm {vs : List V} {us : List Value} (r : Vals vs us) : ∀ pr : List Nat, Vals (perm pr vs) (perm pr us)
  | [] => .nil
  | i :: pr => by
    rcases vals_get r i with ⟨e1, e2⟩ | ⟨v, u, e1, e2, q⟩
    · have h1 : perm (i :: pr) vs = perm pr vs := by unfold perm; rw [List.filterMap_cons_none e1]
      have h2 : perm (i :: pr) us = perm pr us := by unfold perm; rw [List.filterMap_cons_none e2]
      rw [h1, h2]; exact vals_perm r pr
    · have h1 : perm (i :: pr) vs = v :: perm pr vs := by unfold perm; rw [List.filterMap_cons_some e1]
      have h2 : perm (i :: pr) us = u :: perm pr us := by unfold perm; rw [List.filterMap_cons_some e2]
      rw [h1, h2]; exact .cons q (vals_perm r pr)
section
variable {K : PySem.W.Frag} {T : Tab} {Z : Hp} {ι : List Addr}
end

/-- a def called with n values by place and the keywords ks: pr tells where each parameter's value stands among the values by place, the keywords' ones and the defaults -/
structure FnK (P : Program) (w : World) (K : PySem.W.Frag) (mg : Str → Option Value) (base : Heap) (T : Tab) (CX : CXT) (k : Nat) (f : Addr) (n : Nat) (ks : List Str) (m : FnM) : Prop where
  ex : ∃ (fd : FuncData) (ps : List Str) (ds : List Value) (dvs : List V) (dfs : List F) (m0 : FnM) (pr : List Nat), FnOk P w K mg base CX k f fd ps (spM K T m0) ∧
    KBn K fd ps n ks (fun us ws => perm pr (us ++ (ws ++ ds))) (fun vs zs => perm pr (vs ++ (zs ++ dvs))) ∧ (∀ Z, RepFs K T Z dvs dfs) ∧ m = fun ws st => m0 (perm pr (ws ++ dfs.map W.f)) st
  kp : PySem.W.keepIn K (.ref f) = true
section
variable {P : Program} {w : World} {K : PySem.W.Frag} {mg : Str → Option Value} {base : Heap} {T : Tab} {x qual : Str} {params : Arguments} {body : List Stmt} {scope : Scope} {dvs : List V} {kws : List (Str × V)} {f : Addr} {fd : FuncData} {N ps ks : List Str} {k n : Nat}
theorem FnK.mono {CX : CXT} {j : Nat} {m : FnM} (F : FnK P w K mg base T CX j f n ks m) (h : j ≤ k) : FnK P w K mg base T CX k f n ks m := by
  obtain ⟨fd, ps, ds, dvs, dfs, m0, pr, F0, b, r, e⟩ := F.ex
  exact ⟨⟨fd, ps, ds, dvs, dfs, m0, pr, F0.mono h, b, r, e⟩, F.kp⟩
/-- no defaults are needed -/
theorem FnK.plain {CX : CXT} {m : FnM} {pr : List Nat} (F : FunD K x qual params body scope [] kws f fd) (G : FnOk P w K mg base CX k f fd ps (spM K T m))
    (h : ∀ (kV doc pm : Value) (an : Option Addr) (cdv ct : Value) (us ws : List Value), us.length = n → ws.length = ks.length → bindArgs (PySem.W.fnOf x qual params body scope .none kV doc pm an cdv ct) ⟨us, ks.zip ws⟩ = pure (ps.zip (perm pr (us ++ ws)))) :
    FnK P w K mg base T CX k f n ks (fun ws st => m (perm pr ws) st) := by
  refine ⟨⟨fd, ps, [], [], [], m, pr, G, ?_, fun _ => .nil, by simp⟩, F.kp⟩
  obtain ⟨oc, od, dV, kV, doc, pm, an, cdv, ct, osl, rfl, lk, hcd, hD, hK⟩ := F.ex
  rcases hD with ⟨_, rfl⟩ | ⟨e, _⟩
  · exact ⟨fun s us ws X l1 l2 => .of_eq (by rw [h kV doc pm an cdv ct us ws l1 l2, List.append_nil]), fun r1 r2 => vals_perm (r1.append (r2.append .nil)) pr⟩
  · exact absurd rfl e
end

/-! ### the calls, by values -/
section
variable {X : Cx} {CX : CXT} {k n : Nat} {f C : Addr} {fd : FuncData} {ps ks : List Str} {sp : Sp} {E : XK} {x mn : Str} {p pos apos : Pos} {e o : Expr} {es : List Expr} {kws : List Keyword} {ta : TE} {t tk : TA} {g : List Value → List Value → List Value} {gV : List V → List V → List V}
end

/-! ### mirrored -/
abbrev VK (X : Cx) (T : Tab) (E : XK) (kws : List Keyword) (t : TAv) : Prop := PK X kws (RdA X.K T E t)
section
variable {X : Cx} {T : Tab} {E : XK} {CX : CXT} {k n : Nat} {f C : Addr} {m : FnM} {x mn : Str} {ks : List Str} {p pos apos kpos : Pos} {e o : Expr} {es : List Expr} {kws : List Keyword} {te to : TEv} {tr tk : TAv} {nm : Option Str}
theorem pk_weak {t t' : TA} (h : PK X kws t) (w : ∀ σ H Q, t' σ H Q → t σ H Q) : PK X kws t' := ⟨fun p pins s σ H Q I q => h.run p pins s σ H Q I (w σ H Q q)⟩
theorem vk_nil : VS.VK X T E [] aNil := pk_weak pk_nil fun σ H Q h => by
  obtain ⟨Z, ι, env, st, s, re, p⟩ := h
  exact p H Z ι Le.refl s _ .nil
theorem vk_cons (ha : VE X T E e te) (hr : VS.VK X T E kws tr) : VS.VK X T E (⟨nm, e, kpos⟩ :: kws) (aCons te tr) := pk_weak (pk_cons ha hr) fun σ H Q h => by
  obtain ⟨Z, ι, env, st, s, re, p⟩ := h
  refine ⟨Z, ι, env, st, s, re, (Post.bind p).imp fun w st1 H1 Z1 ι1 l1 s1 p1 v rv => ?_⟩
  refine ⟨Z1, ι1, env, st1, s1, re.mono l1, (Post.bind p1).imp fun ws st2 H2 Z2 ι2 l2 s2 p2 vs rvs => ?_⟩
  exact p2 H2 Z2 ι2 Le.refl s2 _ (.cons (rv.mono l2) rvs)
/-! ### constructors -/
end
end VS

set_option Elab.async false
set_option linter.all false
set_option maxRecDepth 100000
set_option maxHeartbeats 2000000
set_option autoImplicit false
/-! YL: `with C(..): body` of an own class where nothing is raised within; a lambda with one parameter handed to a method. -/
namespace LY
open PySem PySem.Spec PyProof.Rows L2 LamX
section
variable {X : Cx} {C : Addr} {ctx : Expr} {body : List Stmt} {pos : Pos} {te : TE} {t : TS} {fe fx : Addr} {spE spX : Sp} {Ee Ex : XK}
end
end LY

set_option Elab.async false
set_option linter.all false
set_option maxRecDepth 100000
set_option maxHeartbeats 2000000
set_option autoImplicit false
/-! YL1: a lambda with one parameter handed to a method. -/
namespace LY
open PySem PySem.Spec PyProof.Rows L2 LamX
/-- one parameter, no other name of its own: captured ones and globals -/
structure LamS1 (sc scope : Scope) (y : Str) : Prop where
  kind : scope.kind = .function
  co : scope.isCoroutine = false
  gen : scope.isGenerator = false
  par : scope.names.lookup y = some .local
  own : ∀ z ∈ scope.names, z.2 ≠ .cell ∧ (z.2 = .local → z.1 = y)
  free : ∀ z ∈ scope.names, z.2 = .free → sc.names.lookup z.1 = some .cell ∨ sc.names.lookup z.1 = some .free
theorem LamS1.has {X : Cx} {scope : Scope} {y : Str} (L : LamS1 X.env.scope scope y) (ok : X.Ok) : ∀ z ∈ scope.names, z.2 = .free → ∃ c, X.env.cells.lookup z.1 = some c := fun z hz e => by
  rcases L.free z hz e with k | k
  · exact ok.has _ (.inl k)
  · exact ok.has _ (.inr k)
section
variable {X : Cx} {pins : List (Addr × Obj)} {σ : L2.St} {H HZ : Hp} {s s1 : Shared} {y : Str}
end
end LY

set_option Elab.async false
set_option linter.all false
set_option maxRecDepth 100000
set_option maxHeartbeats 2000000
set_option autoImplicit false
/-! YL2: o.m(lambda y: e), o.m(k=lambda y: e). -/
namespace LY
open PySem PySem.Spec PyProof.Rows L2 LamX
section
variable {X : Cx} {T : List (Addr × Str)} {TT : Addr → (XK → V → Hp → VK → Prop) → Hp → VK → Prop} {a mn y ma qx : Str} {g c P C : Addr} {k : Nat} {pg : Arguments} {bg : List Stmt} {sg : Scope} {dV kV doc pm cdv ct oc : Value} {an od : Option Addr} {osl : Array (Option Value)} {Ng : List Str}
    {params : Arguments} {body o : Expr} {scope : Scope} {ta : TE} {t : XK → TE} {apos lpos pos kpos : Pos}
end
end LY

set_option Elab.async false
set_option linter.all false
set_option maxRecDepth 100000
set_option maxHeartbeats 2000000
set_option autoImplicit false
/-! YL3: a trial: o.m(lambda y: e) where m is `with C(self): return work(self)`; mirrored. -/
namespace VS
open PySem PySem.Spec PyProof.Rows L2 LamX LY
section
variable {X : Cx} {K : PySem.W.Frag} {T : Tab} {E E' : XK} {Z Z' H : Hp} {ι : List Addr} {st : Store}
section
variable {cS cB k : Nat} {mI mN mX : FnM} {to tb : TEv} {a mn y ma qx : Str} {g c P : Addr} {pg : Arguments} {bg : List Stmt} {sg : Scope} {dV kV doc pm cdv ct oc : Value} {an od : Option Addr} {osl : Array (Option Value)}
    {params : Arguments} {body o : Expr} {scope : Scope} {apos lpos pos kpos : Pos}
end
end
end VS

set_option Elab.async false
set_option linter.all false
set_option maxRecDepth 100000
set_option maxHeartbeats 2000000
set_option autoImplicit false
/-! YL4: trials, by the def's place. -/
namespace VS
open PySem PySem.Spec PyProof.Rows L2 LamX LY
section
variable {X : Cx} {T : Tab} {E : XK} {cS cB k : Nat} {mI mN mX : FnM} {to tb : TEv} {a mn y ma qx x : Str} {g : Addr} {pg : Arguments} {bg : List Stmt} {sg : Scope} {fd : FuncData} {kws : List (Str × V)}
    {params : Arguments} {body o : Expr} {scope : Scope} {apos lpos pos kpos : Pos}
end
end VS

set_option Elab.async false
set_option linter.all false
set_option maxRecDepth 100000
set_option maxHeartbeats 2000000
set_option autoImplicit false
/-! YM: calls with keywords that are names or constants are told as calls by places; a trial whose function reads its parameter alone, as a method. -/
namespace VS
open PySem PySem.Spec PyProof.Rows L2
section
variable {X : Cx} {T : Tab} {E : XK} {e : Expr} {te te' to t t1 t2 : TEv} {m mk : FnM} {c : Nat}
/-- reads no more than the names -/
structure Pu (t : TEv) : Prop where
  pu : ∀ env, (∃ w, ∀ st, t env st = .ok w st) ∨ (∀ st, t env st = .stuck)
end
end VS

set_option Elab.async false
set_option linter.all false
set_option maxRecDepth 100000
set_option maxHeartbeats 1000000
set_option autoImplicit false
/-! YN: exceptions that are made and kept: C(e), C(name=e), C(). -/
namespace XKX
open PySem PySem.W PySem.Calls PySem.HandSPX
/-! ### the call, with names -/
section
variable {prog : Program} {w : World} {A : Around} {R : Result → Shared → Prop} {hp : Heap} {gs : Array GenState} {dr : Drawn} {tk : Nat} {os : OsState}
  {nm q : Str} {C N : Addr} {bs bm bv : List Value} {dct : Bool} {sn : List Str} {sb : List Value} {ab : Bool} {cl : Option Bool} {dd : Option Addr} {k0 k1 k2 k3 k5 : Option Value} {B nid iid : String}
theorem xk_new (F : ExcBaseFacts B nid iid bv) (hT : ∀ Y : String, bm.contains (.type Y) = bv.contains (.type Y)) {us : List Value} {kw : List (Str × Value)}
    (hC : hp.get? C = some (excClassObj nm q C N bs bm dct sn sb ab cl dd k0 k1 k2 k3 k5 nid)) (hl : us.length ≤ sizeLine)
    (fin : R (.ok (.ret (.ref (hp.objs.size + 1)))) ⟨(hp.push (kdv_tup us)).push (HandSPX.excO C hp.objs.size), gs, dr, tk, os⟩) :
    codeAny (model prog w) A (.builtin nid ⟨.ref C :: us, kw⟩) R ⟨hp, gs, dr, tk, os⟩ := by
  have e0 := F.ends
  have c1 : (Value.ref C :: bm).contains (.type B) = true := by simp only [List.contains_cons, hT, F.hasB, Bool.or_true]
  have c2 : (Value.ref C :: bm).contains (.type "AttributeError") = false := by simp only [List.contains_cons, hT, F.noAttr]; rfl
  have c3 : (Value.ref C :: bm).contains (.type "NameError") = false := by simp only [List.contains_cons, hT, F.noName]; rfl
  refine codeAny_builtinAt F.entry ?_
  (unfold Builtin.«BaseException.__new__»; refine wpAt_bind ?_; show wpAt _ _ _ (stack >>= _) _ _ _; refine wpAt_bind (wpAt_stack fun q1 r1 => wpAt_of_wpAny ?_))
  wp_walk
  refine wpAt_of_wpAny ?_
  rw [F.owner]
  repeat (first
    | with_reducible refine wpAny_madeHere_exc F.canon hC ?_
    | with_reducible refine wpAny_loadPart_at hC ?_
    | (with_reducible refine wpAny_isSubtype_exc hC ?_; first | rw [c1] | rw [c2] | rw [c3])
    | wp_step)
  show R _ _
  rw [Heap.size_push]
  exact fin
theorem xk_chk (F : ExcBaseFacts B nid iid bv) (hT : ∀ Y : String, bm.contains (.type Y) = bv.contains (.type Y)) {us : List Value} {kw : List (Str × Value)} {E : Value → Shared → Prop} {Q : Unit → Shared → Prop} {M : Model}
    (hC : hp.get? C = some (excClassObj nm q C N bs bm dct sn sb ab cl dd k0 k1 k2 k3 k5 nid)) (hq : Q () ⟨hp, gs, dr, tk, os⟩) : wpAny M A (checkBuiltinCall nid ⟨.ref C :: us, kw⟩) Q E ⟨hp, gs, dr, tk, os⟩ := by
  have c1 : (Value.ref C :: bm).contains (.type B) = true := by simp only [List.contains_cons, hT, F.hasB, Bool.or_true]
  have e0 := F.noStar
  simp only [checkBuiltinCall, F.newKind, F.newSplit, F.newRow]
  repeat (first
    | refine wpAny_loadPart_at hC ?_
    | (refine wpAny_isSubtype_exc hC ?_; rw [c1])
    | refine wpAny_staticBase_exc hC ?_
    | refine wpAny_madeBy_exc hC ?_
    | simp only [bne_self_eq_false, Bool.false_eq_true, if_false]
    | wp_step)
  exact hq
theorem xk_type (F : ExcBaseFacts B nid iid bv) (hT : ∀ Y : String, bm.contains (.type Y) = bv.contains (.type Y)) {us : List Value} {kw : List (Str × Value)} {fI : Addr} {E : Value → Shared → Prop} {Q : Fin → Shared → Prop}
    (hC : hp.get? C = some (excClassObj nm q C N bs bm dct sn sb ab cl dd k0 k1 k2 k3 k5 nid))
    (hi : Looks (model prog w) hp (typeLookup (.ref C) "__init__") (some (.ref fI))) (hb : ∀ v, Looks (model prog w) hp (bindSpecial (.ref fI) v) (.ref fI, [v])) (hl : us.length ≤ sizeLine)
    (hq : codeAny (model prog w) A (.call (.ref fI) ⟨.ref (hp.objs.size + 1) :: us, kw⟩)
      (fun r s' => match r with | .ok (.ret v) => v = .none ∧ Q (.done (.ret (.ref (hp.objs.size + 1)))) s' | .ok _ => False | .error e => E e s')
      ⟨(hp.push (kdv_tup us)).push (HandSPX.excO C hp.objs.size), gs, dr, tk, os⟩) :
    wpAny (model prog w) A (Builtin.«type.__call__» ⟨.ref C :: us, kw⟩) Q E ⟨hp, gs, dr, tk, os⟩ := by
  repeat (first
    | with_reducible refine wpAny_loadPart_at hC ?_
    | with_reducible refine wpAny_madeBy_exc hC ?_
    | wp_step)
  refine codeAny_call_builtin_code (Code.quiet_builtin _ F.quiet) (xk_chk F hT hC ?_)
  refine xk_new F hT hC hl ?_
  show wpAny _ _ _ _ _ _
  have up : ∀ b o, hp.get? b = some o → ((hp.push (kdv_tup us)).push (HandSPX.excO C hp.objs.size)).get? b = some o := fun b o e => Heap.get?_push_of_some _ (Heap.get?_push_of_some _ e)
  have hC1 := up _ _ hC
  have hx : ((hp.push (kdv_tup us)).push (HandSPX.excO C hp.objs.size)).get? (hp.objs.size + 1) = some (HandSPX.excO C hp.objs.size) := by heap_get
  have cC : (Value.ref C :: bm).contains (.ref C) = true := by simp
  have i1 := hi.keeps up
  have b1 := (hb (.ref (hp.objs.size + 1))).keeps up
  unfold isInstance
  repeat (first
    | with_reducible refine wpAny_loadPart_at hx ?_
    | (with_reducible refine wpAny_isSubtype_exc hC1 ?_; rw [cC])
    | wp_step)
  show wpAny _ _ (typeLookup (.ref C) _) _ _ _
  refine i1.at ?_
  refine wpAny_holding (wpAny_bind (b1.at ?_))
  refine wpAny_bind (wpAny_call (codeAny_mono hq fun r s' z => ?_))
  rcases r with e | (v | _ | _ | _) <;> first | exact z | exact z.elim | skip
  obtain ⟨rfl, z⟩ := z
  first
    | exact wpAny_pure (wpAny_pure z)
    | (wp_walk; exact z)
theorem xk_call (F : ExcBaseFacts B nid iid bv) (hT : ∀ Y : String, bm.contains (.type Y) = bv.contains (.type Y)) {us : List Value} {kw : List (Str × Value)} {fI : Addr}
    (hC : hp.get? C = some (excClassObj nm q C N bs bm dct sn sb ab cl dd k0 k1 k2 k3 k5 nid))
    (hi : Looks (model prog w) hp (typeLookup (.ref C) "__init__") (some (.ref fI))) (hb : ∀ v, Looks (model prog w) hp (bindSpecial (.ref fI) v) (.ref fI, [v])) (hl : us.length ≤ sizeLine)
    (hq : codeAny (model prog w) (A.under (.builtin "type.__call__" ⟨.ref C :: us, kw⟩)) (.call (.ref fI) ⟨.ref (hp.objs.size + 1) :: us, kw⟩) (InitBack (hp.objs.size + 1) R)
      ⟨(hp.push (kdv_tup us)).push (HandSPX.excO C hp.objs.size), gs, dr, tk, os⟩) :
    codeAny (model prog w) A (.call (.ref C) ⟨us, kw⟩) R ⟨hp, gs, dr, tk, os⟩ := by
  have f1 := tc_lookup
  have f2 := tc_bind (.ref C)
  have ty : (⟨hp, gs, dr, tk, os⟩ : Shared).TypeIs (.ref C) "type" := ⟨_, hC, rfl⟩
  refine codeAny_of_tree ?_
  show wpAny _ _ (callAny (.ref C) _) _ _ _
  repeat (any_goals (first
    | assumption
    | with_reducible refine wpAny_loadPart_at hC ?_
    | wp_step))
  refine ⟨rfl, ?_⟩
  have chk : ∀ {Q : Unit → Shared → Prop} {E : Value → Shared → Prop} {A' : Around}, Q () ⟨hp, gs, dr, tk, os⟩ → wpAny (model prog w) A' (checkBuiltinCall "type.__call__" ⟨.ref C :: us, kw⟩) Q E ⟨hp, gs, dr, tk, os⟩ := by
    intro Q E A' hq
    have f3 := tc_sub
    simp only [checkBuiltinCall, tc_kind, tc_split]
    repeat (any_goals (first
      | assumption
      | with_reducible refine wpAny_loadPart_at hC ?_
      | with_reducible refine wpAny_onRaise ?_
      | with_reducible refine wpAny_map ?_
      | wp_step))
  refine codeAny_call_builtin_at (Code.quiet_builtin _ (by decide +kernel)) entry_typeCall (chk (xk_type F hT hC hi hb hl ?_))
  refine codeAny_mono hq fun r s' z => ?_
  rcases r with e | (v | _ | _ | _) <;> exact z
end
end XKX
namespace LX
open PySem PySem.Calls PySem.Spec PyProof.Rows L2 LamX NdefX
/-- C(..) kept as a value; its own __init__ keeps sp and raises nothing -/
def tMkV (C : Addr) (sp : Sp) (vs : List V) (H : Hp) (Q : VK) : Prop := ∀ a, H a = none → sp (.ref a :: vs) (upd H a (exo a C none)) (fun v H2 => v = .non ∧ Q (.ref a) H2) (fun _ _ _ => False)
section
variable {X : Cx} {pins : List (Addr × Obj)} {σ : L2.St} {H : Hp} {s : Shared} {CX : CXT} {C fI : Addr} {k : Nat} {fd : FuncData} {ps : List Str} {sp : Sp}
theorem mkv_core {us ws : List Value} {kw : List (Str × Value)} {vs : List V} {Q : VK} (T : OexC X.K C) (iC : PySem.W.findIn X.K (.ref C) "__init__" = some (some (.ref fI))) (tI : PySem.W.typeIn X.K (.ref fI) = some (.type "function"))
    (F1 : FnOk X.prog X.w X.K X.mg X.base CX k fI fd ps sp) (hr : Room (k + 1) X.A) (hx : Passes CX X (fun _ _ _ => False)) (I : Inv X pins σ H s) (hl : us.length ≤ sizeLine)
    (hb : ∀ a s', X.K.In s'.heap → (Value.ref a :: ws).length = ps.length → BindsTo s' fd ⟨.ref a :: us, kw⟩ (ps.zip (.ref a :: ws))) (r : Vals vs ws) (h : tMkV C sp vs H Q) :
    wpAny (model X.prog X.w) X.A (call (.ref C) us kw) (EP X pins σ Q) X.xe s := by
  obtain ⟨n0, q0, N0, bs, bm, sn, sb, ab, cl, dd, k0, k1, k2, k3, k5, hC, hbm⟩ := T.cls
  obtain ⟨hp, g, dr, tk, os⟩ := s
  have z1 : hp.objs.size ≤ hp.objs.size + 1 := Nat.le_succ _
  have hq := h (hp.objs.size + 1) (I.hok.fresh z1)
  have up1 : ∀ b o, hp.get? b = some o → ((hp.push (PySem.W.kdv_tup us)).push (PySem.HandSPX.excO C hp.objs.size)).get? b = some o := fun b o e => Heap.get?_push_of_some _ (Heap.get?_push_of_some _ e)
  have hx1 : ((hp.push (PySem.W.kdv_tup us)).push (PySem.HandSPX.excO C hp.objs.size)).get? (hp.objs.size + 1) = some (PySem.HandSPX.excO C hp.objs.size) := by heap_get
  have I2 : Inv X pins σ (upd H (hp.objs.size + 1) (exo (hp.objs.size + 1) C none)) ⟨(hp.push (PySem.W.kdv_tup us)).push (PySem.HandSPX.excO C hp.objs.size), g, dr, tk, os⟩ :=
    I.laid (t' := tk) (a := hp.objs.size + 1) (o := exo (hp.objs.size + 1) C none) up1 z1 (exo_ok hx1)
  have r2 : Vals (V.ref (hp.objs.size + 1) :: vs) (Value.ref (hp.objs.size + 1) :: ws) := .cons rfl r
  have el : (Value.ref (hp.objs.size + 1) :: ws).length = ps.length := by
    have e := r2.length
    rw [F1.len _ _ _ _ hq] at e
    exact e.symm
  refine wpAny_call (XKX.xk_call F.excBase_ValueError (fun Y => PySem.HandSPX.refsVE_contains Y bm hbm) (I.kIn _ _ hC) (PySem.W.looks_findIn I.kIn iC) (fun self => PySem.W.bind_fn I.kIn self tI) hl
    (codeAny_mono (F1.run _ X.stack _ _ ⟨Value.ref (hp.objs.size + 1) :: us, kw⟩ (Value.ref (hp.objs.size + 1) :: ws) _ _ (fun _ _ _ => False) (hr.make C us kw) (I2.env0.make C us kw) (hb _ _ I2.kIn el) r2 hq) fun r s' hq' => ?_))
  cases r with
  | error er => exact hx pins σ _ _ er s' I2 hq'
  | ok fl =>
    cases fl with
    | ret u =>
      obtain ⟨v, H2, os2, bare2, un2, hok2, rv, ev, q2⟩ := hq'
      subst ev
      exact ⟨rv, .ref (hp.objs.size + 1), H2, I2.call' (ch := []) os2 un2 hok2 bare2 (fun b z => absurd z (by simp)), rfl, q2⟩
    | next => exact False.elim hq'
    | brk => exact False.elim hq'
    | cont => exact False.elim hq'
end
end LX
namespace LX
open PySem PySem.Calls PySem.Spec PyProof.Rows L2 LamX NdefX
section
variable {X : Cx} {CX : CXT} {x : Str} {C fI : Addr} {k : Nat} {fd : FuncData} {ps ks : List Str} {sp : Sp} {e : Expr} {ta tk : TA} {p pos : Pos} {kws : List Keyword}
theorem pe_mkv1 (T : OexC X.K C) (iC : PySem.W.findIn X.K (.ref C) "__init__" = some (some (.ref fI))) (tI : PySem.W.typeIn X.K (.ref fI) = some (.type "function"))
    (F1 : FnOk X.prog X.w X.K X.mg X.base CX k fI fd ps sp) (hr : Room (k + 1) X.A) (hb : L2.Binds X.K fd ps []) (hx : Passes CX X (fun _ _ _ => False)) (hg : Gl X x) (hm : X.mg x = some (.ref C)) (ha : PA X [e] ta)
    (hdb : (x == ("__debug__" : Str)) = false := by decide) (he : starEach [e] X.env = (false, eval e X.env) :: starEach [] X.env := by rfl) (hpl : (backTo pos (starEach [] X.env)).any (·.1) = false := by rfl) :
    PE X (.Call (.Name x p) [e] [] pos) (fun σ H Q => ta σ H fun vs H1 => vs.length ≤ 1000 ∧ tMkV C sp vs H1 Q) := by
  refine ⟨fun pins s σ H Q I h => wpAny_Call_Name_kw (ld_glob I hg hm ?_ hdb)⟩
  refine PySem.W.callWith_K (h₀ := X.base) I.ok.mod.kin T.kC (thn (ha.run pos pins s σ H _ I h) fun us s1 ⟨vs, H1, I1, r1, hz, q1⟩ => ⟨I1.kIn, ?_⟩) he hpl
  have hl : us.length ≤ sizeLine := by
    rw [← r1.length]
    exact Nat.le_trans hz (by rw [sizeLine_eq]; decide)
  exact mkv_core (us := us) (ws := us) (kw := []) T iC tI F1 hr hx I1 hl (fun a s' X' l => by
    have := hb s' (Value.ref a :: us) X' (by rw [List.append_nil]; exact l)
    rw [List.append_nil] at this
    exact this) r1 q1
theorem pe_mkv0 (T : OexC X.K C) (iC : PySem.W.findIn X.K (.ref C) "__init__" = some (some (.ref fI))) (tI : PySem.W.typeIn X.K (.ref fI) = some (.type "function"))
    (F1 : FnOk X.prog X.w X.K X.mg X.base CX k fI fd ps sp) (hr : Room (k + 1) X.A) (hb : L2.Binds X.K fd ps []) (hx : Passes CX X (fun _ _ _ => False)) (hg : Gl X x) (hm : X.mg x = some (.ref C))
    (hdb : (x == ("__debug__" : Str)) = false := by decide) :
    PE X (.Call (.Name x p) [] [] pos) (fun σ H Q => tMkV C sp [] H Q) := by
  refine ⟨fun pins s σ H Q I h => wpAny_Call_Name_kw (ld_glob I hg hm ?_ hdb)⟩
  refine PySem.W.callWith_K0 I.kIn T.kC ?_
  exact mkv_core (us := []) (ws := []) (kw := []) T iC tI F1 hr hx I (Nat.zero_le _) (fun a s' X' l => by
    have := hb s' [Value.ref a] X' (by rw [List.append_nil]; exact l)
    rw [List.append_nil] at this
    exact this) .nil h
/-- C(k = e) -/
theorem pe_mkvK (T : OexC X.K C) (iC : PySem.W.findIn X.K (.ref C) "__init__" = some (some (.ref fI))) (tI : PySem.W.typeIn X.K (.ref fI) = some (.type "function"))
    (F1 : FnOk X.prog X.w X.K X.mg X.base CX k fI fd ps sp) (hr : Room (k + 1) X.A) (hb : ∀ s a ws, ws.length = ks.length → BindsTo s fd ⟨[.ref a], ks.zip ws⟩ (ps.zip (.ref a :: ws))) (hx : Passes CX X (fun _ _ _ => False)) (hg : Gl X x) (hm : X.mg x = some (.ref C))
    (hkw : PK X kws tk) (hks : (backToKw pos (keywordEach kws X.env)).filterMap (·.1) = ks := by rfl) (hall : (backToKw pos (keywordEach kws X.env)).all (·.1.isSome) = true := by rfl)
    (hpl : ((backTo pos (starEach [] X.env)).any (·.1) || (backToKw pos (keywordEach kws X.env)).any (·.1.isNone)) = false := by rfl)
    (hdb : (x == ("__debug__" : Str)) = false := by decide) :
    PE X (.Call (.Name x p) [] kws pos) (fun σ H Q => tk σ H fun vs H1 => vs.length = ks.length ∧ tMkV C sp vs H1 Q) := by
  refine ⟨fun pins s σ H Q I h => wpAny_Call_Name_kw (ld_glob I hg hm ?_ hdb)⟩
  refine PySem.W.callWith_KW0 (h₀ := X.base) I.ok.mod.kin T.kC hall ?_ hpl
  refine thn (hkw.run pos pins s σ H _ I h) fun ws s2 ⟨zs, H2, I2, rz, l1, q2⟩ => ⟨I2.kIn, ?_⟩
  rw [hks]
  have l2 : ws.length = ks.length := by rw [← rz.length, l1]
  exact mkv_core (us := []) (ws := ws) (kw := ks.zip ws) T iC tI F1 hr hx I2 (Nat.zero_le _) (fun a s' X' l => hb s' a ws l2) rz q2
/-- e.f of an exception that is kept -/
theorem pe_xvAt {te : TE} {n : Str} {apos : Pos} (T : XfC X.K C) (hno : PySem.W.findIn X.K (.ref C) n = some none) (he : PE X e te) (hb : attributeBase e n X.env (eval e X.env) = eval e X.env := by rfl) :
    PE X (.Attribute e n apos) (fun σ H Q => te σ H fun x H1 => ∃ a dx fs v, x = .ref a ∧ H1 a = some (exo a C (some dx)) ∧ H1 dx = some (exd dx fs) ∧ fs.lookup n = some v ∧ Q v H1) := by
  refine ⟨fun pins s σ H Q I h => attr_of hb (thn (he.run pins s σ H _ I h) fun u s1 hh => ?_)⟩
  obtain ⟨x, H1, I1, rx, a, dx, fs, v, ex, e1, e2, l, q⟩ := hh
  subst ex
  cases (show u = Value.ref a from rx)
  obtain ⟨t1, hxa⟩ := exo_at I1.hok e1
  obtain ⟨mA, hns, rel⟩ := exd_at I1.hok e2
  obtain ⟨od, ho, hl⟩ := lookIn_ns hns
  obtain ⟨u, hu, ru⟩ := RelO.some_of (v := v) (o := mA n) (by rw [← l]; exact rel n)
  have J : PySem.W.InstAt s1.heap a _ C (some od) := ⟨hxa, rfl, rfl, ho⟩
  exact HandSPX.exc_get I1.kIn J T.ga T.gg T.exC (PySem.W.findObj_own T.hdC hno rfl (by rw [hl, hu])) (handed_of ru) ⟨v, H1, I1.tok _, ru, q⟩
end
end LX
namespace VS
open PySem PySem.Spec PyProof.Rows L2 LX LamX NdefX
theorem exd_tbl {e : Addr} {fs : List (Str × V)} {ps : Array Value} : exd e fs ≠ .tbl ps := fun z => by
  have z1 : HO.ext _ = HO.tbl ps := z
  cases z1
section
variable {P : Program} {w : World} {K : PySem.W.Frag} {mg : Str → Option Value} {base : Heap} {d : XcD} {N : List Str} {pn : Str}
/-- .. called by its parameter's name too -/
theorem xc_fnK {p0 p1 p2 p3 p4 p5 q1 q2 q3 q4 : Pos} {msg : Str} {j : Nat} {pl : Sem Bool} (h : XcOk P K d)
    (S : NScope N [("self" : Str), pn] ["__class__"] d.scope)
    (hbody : d.body = [.Expr (.Call (.Attribute (.Call (.Name "super" p0) [] [] p1) "__init__" p2) [.Constant (.str msg) j p3] [] p4) p5, .Assign [.Attribute (.Name "self" q1) d.fld q2] (.Name pn q3) q4])
    (hpar : ∃ ar, (d.params.posonlyargs ++ d.params.args).head? = some ar ∧ ar.arg = "self")
    (hks : d.scope.names.lookup ("super" : Str) = some .globalImplicit)
    (htop : (P.main.scope.names.lookup ("super" : Str)).isSome = false)
    (hs : ∀ env, swapsWith (.Call (.Attribute (.Call (.Name "super" p0) [] [] p1) "__init__" p2) [.Constant (.str msg) j p3] [] p4) none p5.line env = pure false)
    (hs2 : ∀ env, swapsWith (.Name pn q3) (some (.Attribute (.Name "self" q1) d.fld q2)) q4.line env = pure false)
    (hi : ∀ (nm ql : Str) (cl : List (Str × Addr)) (c L : Addr), interactive (envF ⟨nm, ql, d.params, d.body, d.scope, cl, c⟩ (d.fI K) L) = false)
    (he : ∀ (nm ql : Str) (cl : List (Str × Addr)) (c L : Addr), eval (.Call (.Attribute (.Call (.Name "super" p0) [] [] p1) "__init__" p2) [.Constant (.str msg) j p3] [] p4) (envF ⟨nm, ql, d.params, d.body, d.scope, cl, c⟩ (d.fI K) L) = (do
      let ov ← attributeBase (.Call (.Name "super" p0) [] [] p1) "__init__" (envF ⟨nm, ql, d.params, d.body, d.scope, cl, c⟩ (d.fI K) L) (eval (.Call (.Name "super" p0) [] [] p1) (envF ⟨nm, ql, d.params, d.body, d.scope, cl, c⟩ (d.fI K) L))
      standAt p2.atName
      let (f, first) ← holding [ov] (getMethod ov "__init__" pl)
      callWith p4 f first (backTo p4 (starEach [.Constant (.str msg) j p3] (envF ⟨nm, ql, d.params, d.body, d.scope, cl, c⟩ (d.fI K) L))) []))
    (hN0 : N[0]? = some ("self" : Str)) (hN1 : N[1]? = some pn)
    (hd1 : (pn == ("__debug__" : Str)) = false) (hd2 : (pn == ("__classdict__" : Str)) = false)
    (hbn : ∀ (nm ql : Str) (cl : List (Str × Addr)) (c : Addr) (us : List Value) (doc pm ctv : Value), us.length = 2 → bindArgs (NF.fd ⟨nm, ql, d.params, d.body, d.scope, cl, c⟩ doc pm ctv) ⟨us, []⟩ = pure ([("self" : Str), pn].zip us))
    (hbk : ∀ (nm ql : Str) (cl : List (Str × Addr)) (c : Addr) (us ws : List Value) (doc pm ctv : Value), us.length = 1 → ws.length = 1 → bindArgs (NF.fd ⟨nm, ql, d.params, d.body, d.scope, cl, c⟩ doc pm ctv) ⟨us, [pn].zip ws⟩ = pure ([("self" : Str), pn].zip (us ++ ws))) :
    ∃ fd, FnOk P w K mg base L2.CX0 1 (d.fI K) fd [("self" : Str), pn] (sp1 (d.C K) d.fld) ∧ L2.Binds K fd [("self" : Str), pn] [] ∧
      ∀ s a ws, ws.length = [pn].length → BindsTo s fd ⟨[.ref a], [pn].zip ws⟩ ([("self" : Str), pn].zip (.ref a :: ws)) := by
  obtain ⟨cc, ⟨nm, ql, pr, bd, sc, cl, c⟩, doc, pm, ctv, oc, od, osl, D, hk, e1, e2, e3⟩ := h.ex
  dsimp only at e1 e2 e3
  subst e1 e2 e3
  exact ⟨_, exinit1 (k := 0) (pl := pl) D hk S hbody hpar hks htop hs hs2 (hi nm ql cl c) (he nm ql cl c) hN0 hN1 h.nof hd1 hd2, L2.Binds.all fun us hl => hbn nm ql cl c us doc pm ctv hl,
    fun s a ws hl => .of_eq (hbk nm ql cl c [.ref a] ws doc pm ctv rfl hl)⟩
end
section
variable {K : PySem.W.Frag} {T : Tab} {Z H : Hp} {ι : List Addr} {st : Store} {c i : Nat}
theorem sim_exn1 {a dx : Addr} {v : V} {x : F} (s : SimS K T Z ι st H) (hc : T.xvl.contains c = true) (r : RepF K T Z v x) (ha : H a = none) (hd : H dx = none) (ne : dx ≠ a) :
    ∃ Z', Le Z ι Z' ι ∧ SimS K T Z' ι st (upd (upd H dx (exd dx [(T.fn i, v)])) a (exo a (T.ca K c) (some dx))) ∧ RepF K T Z' (.ref a) (.exn c [(i, x)]) := by
  have g1 := Grow.laid (o := exd dx [(T.fn i, v)]) s.sub hd (fun _ => exd_tbl)
  have ha1 : upd H dx (exd dx [(T.fn i, v)]) a = none := by rw [upd_ne ne.symm]; exact ha
  have g2 := Grow.laid (o := exo a (T.ca K c) (some dx)) g1.sub ha1 (fun _ => exo_tbl)
  have g := g1.trans g2
  exact ⟨_, g.le, s.grow g, .exn1 upd_same (by rw [upd_ne ne, upd_same]) hc (r.mono g.z)⟩
theorem sim_exn0 {a : Addr} (s : SimS K T Z ι st H) (hc : T.xvl.contains c = true) (ha : H a = none) :
    ∃ Z', Le Z ι Z' ι ∧ SimS K T Z' ι st (upd H a (exo a (T.ca K c) none)) ∧ RepF K T Z' (.ref a) (.exn c []) := by
  have g := Grow.laid (o := exo a (T.ca K c) none) s.sub ha (fun _ => exo_tbl)
  exact ⟨_, g.le, s.grow g, .exn0 upd_same hc⟩
end
/-- c(e) kept as a value; the field i is e -/
def eMkX (c i : Nat) (t : TAv) : TEv := fun env st => (t env st).bind fun ws st1 => match ws with
  | [.f v] => .ok (.f (.exn c [(i, v)])) st1
  | _ => .stuck
def eMkX0 (c : Nat) : TEv := fun _ st => .ok (.f (.exn c [])) st
/-- e.f of a kept exception of the class c -/
def eXAt (c i : Nat) (t : TEv) : TEv := fun env st => (t env st).bind fun w st1 => match w with
  | .f (.exn d [(j, v)]) => if d = c ∧ j = i then .ok (.f v) st1 else .stuck
  | _ => .stuck
section
variable {X : Cx} {T : Tab} {E : XK} {e : Expr} {te : TEv} {tr : TAv} {x pn : Str} {k c i : Nat} {fI : Addr} {fd : FuncData} {ps : List Str} {p pos apos : Pos} {kws : List Keyword}
theorem rd_mkx (hc : T.xvl.contains c = true) {σ : L2.St} {H : Hp} {Q : L2.VK} (h : RdE X.K T E (eMkX c i tr) σ H Q) : RdA X.K T E tr σ H fun vs H1 => vs.length = 1 ∧ tMkV (T.ca X.K c) (sp1 (T.ca X.K c) (T.fn i)) vs H1 Q := by
  obtain ⟨Z, ι, env, st, s, re, p⟩ := h
  refine ⟨Z, ι, env, st, s, re, (Post.bind p).imp fun ws st1 H1 Z1 ι1 l1 s1 p1 vs rvs => ?_⟩
  cases rvs with
  | nil => exact p1.elim
  | cons r1 r2 =>
    cases r2 with
    | cons _ _ =>
      cases r1 with
      | f r1 => exact p1.elim
      | loc _ => exact p1.elim
    | nil =>
      cases r1 with
      | loc _ => exact p1.elim
      | f r1 =>
        rename_i v x
        have p1 : Post X.K T E Z1 ι1 (Res.ok (W.f (.exn c [(i, x)])) st1) _ := p1
        refine ⟨rfl, fun a ha => ⟨a, v, rfl, upd_same, fun dx hdx ne => ⟨rfl, ?_⟩⟩⟩
        have hd : H1 dx = none := by rw [upd_ne ne] at hdx; exact hdx
        have e1 : upd (upd (upd H1 a (exo a (T.ca X.K c) none)) dx (exd dx [(T.fn i, v)])) a (exo a (T.ca X.K c) (some dx)) = upd (upd H1 dx (exd dx [(T.fn i, v)])) a (exo a (T.ca X.K c) (some dx)) := by
          funext b
          by_cases hb : b = a
          · rw [hb, upd_same, upd_same]
          · rw [upd_ne hb, upd_ne hb]
            by_cases hbd : b = dx
            · rw [hbd, upd_same, upd_same]
            · rw [upd_ne hbd, upd_ne hbd, upd_ne hb]
        rw [e1]
        obtain ⟨Z2, l2, s2, r⟩ := sim_exn1 (i := i) s1 hc r1 ha hd ne
        exact p1 _ Z2 ι1 l2 s2 _ (.f r)
theorem ve_mkx (hc : T.xvl.contains c = true) (T1 : OexC X.K (T.ca X.K c)) (iC : PySem.W.findIn X.K (.ref (T.ca X.K c)) "__init__" = some (some (.ref fI))) (tI : PySem.W.typeIn X.K (.ref fI) = some (.type "function"))
    (F1 : FnOk X.prog X.w X.K X.mg X.base L2.CX0 k fI fd ps (sp1 (T.ca X.K c) (T.fn i))) (hr : Room (k + 1) X.A) (hb : L2.Binds X.K fd ps []) (hg : Gl X x) (hm : X.mg x = some (.ref (T.ca X.K c))) (ha : VA X T E [e] tr)
    (hdb : (x == ("__debug__" : Str)) = false := by decide) (hse : starEach [e] X.env = (false, eval e X.env) :: starEach [] X.env := by rfl) :
    VE X T E (.Call (.Name x p) [e] [] pos) (eMkX c i tr) :=
  pe_weak (pe_mkv1 T1 iC tI F1 hr hb (fun _ _ _ _ _ _ _ h => h.elim) hg hm ha hdb hse rfl) fun σ H Q h => by
    obtain ⟨Z, ι, env, st, s, re, p⟩ := rd_mkx hc h
    exact ⟨Z, ι, env, st, s, re, p.imp fun ws st1 H1 Z1 ι1 l1 s1 q vs rvs => ⟨by rw [(q vs rvs).1]; decide, (q vs rvs).2⟩⟩
theorem ve_mkxK (hc : T.xvl.contains c = true) (T1 : OexC X.K (T.ca X.K c)) (iC : PySem.W.findIn X.K (.ref (T.ca X.K c)) "__init__" = some (some (.ref fI))) (tI : PySem.W.typeIn X.K (.ref fI) = some (.type "function"))
    (F1 : FnOk X.prog X.w X.K X.mg X.base L2.CX0 k fI fd ps (sp1 (T.ca X.K c) (T.fn i))) (hr : Room (k + 1) X.A) (hb : ∀ s a ws, ws.length = [pn].length → BindsTo s fd ⟨[.ref a], [pn].zip ws⟩ (ps.zip (.ref a :: ws))) (hg : Gl X x) (hm : X.mg x = some (.ref (T.ca X.K c)))
    (hkw : VS.VK X T E kws tr) (hks : (backToKw pos (keywordEach kws X.env)).filterMap (·.1) = [pn] := by rfl) (hall : (backToKw pos (keywordEach kws X.env)).all (·.1.isSome) = true := by rfl)
    (hpl : ((backTo pos (starEach [] X.env)).any (·.1) || (backToKw pos (keywordEach kws X.env)).any (·.1.isNone)) = false := by rfl)
    (hdb : (x == ("__debug__" : Str)) = false := by decide) :
    VE X T E (.Call (.Name x p) [] kws pos) (eMkX c i tr) :=
  pe_weak (pe_mkvK T1 iC tI F1 hr hb (fun _ _ _ _ _ _ _ h => h.elim) hg hm hkw hks hall hpl hdb) fun σ H Q h => by
    obtain ⟨Z, ι, env, st, s, re, p⟩ := rd_mkx hc h
    exact ⟨Z, ι, env, st, s, re, p⟩
theorem ve_mkx0 (hc : T.xvl.contains c = true) (T1 : OexC X.K (T.ca X.K c)) (iC : PySem.W.findIn X.K (.ref (T.ca X.K c)) "__init__" = some (some (.ref fI))) (tI : PySem.W.typeIn X.K (.ref fI) = some (.type "function"))
    (F1 : FnOk X.prog X.w X.K X.mg X.base L2.CX0 k fI fd ps (sp0 (T.ca X.K c))) (hr : Room (k + 1) X.A) (hb : L2.Binds X.K fd ps []) (hg : Gl X x) (hm : X.mg x = some (.ref (T.ca X.K c)))
    (hdb : (x == ("__debug__" : Str)) = false := by decide) :
    VE X T E (.Call (.Name x p) [] [] pos) (eMkX0 c) :=
  pe_weak (pe_mkv0 T1 iC tI F1 hr hb (fun _ _ _ _ _ _ _ h => h.elim) hg hm hdb) fun σ H Q h => by
    obtain ⟨Z, ι, env, st, s, re, p⟩ := h
    have p : Post X.K T E Z ι (Res.ok (W.f (.exn c [])) st) _ := p
    refine fun a ha => ⟨a, rfl, upd_same, rfl, ?_⟩
    obtain ⟨Z2, l2, s2, r⟩ := sim_exn0 s hc ha
    exact p _ Z2 ι l2 s2 _ (.f r)
theorem ve_xat {n : Str} (T1 : XfC X.K (T.ca X.K c)) (hno : PySem.W.findIn X.K (.ref (T.ca X.K c)) n = some none) (hn : T.fn i = n) (he : VE X T E e te) (hb : attributeBase e n X.env (eval e X.env) = eval e X.env := by rfl) :
    VE X T E (.Attribute e n apos) (eXAt c i te) := by
  subst hn
  refine pe_weak (pe_xvAt T1 hno he hb) fun σ H Q h => ?_
  obtain ⟨Z, ι, env, st, s, re, p⟩ := h
  refine ⟨Z, ι, env, st, s, re, (Post.bind p).imp fun w st1 H1 Z1 ι1 l1 s1 p1 v rv => ?_⟩
  cases rv with
  | loc _ => exact p1.elim
  | f rv =>
    cases rv with
    | exn1 h1 h2 hc r =>
      rename_i a dx d j v x
      have p2 : Post X.K T E Z1 ι1 (if d = c ∧ j = i then Res.ok (W.f x) st1 else .stuck) _ := p1
      clear p1
      by_cases q : d = c ∧ j = i
      · rw [if_pos q] at p2
        obtain ⟨rfl, rfl⟩ := q
        exact ⟨a, dx, _, v, rfl, s1.sub _ _ h1, s1.sub _ _ h2, by simp [List.lookup], p2 H1 Z1 ι1 Le.refl s1 _ (.f r)⟩
      · rw [if_neg q] at p2; exact p2.elim
    | _ => exact p1.elim
/-- !=, of dicts of one entry too -/
def neX : F → F → Option F
  | .dct [(.str a, .int i)], .dct [(.str b, .int j)] => if a = b ∧ i = j then some (.bl false) else none
  | x, y => neF x y
def rNeX (K : PySem.W.Frag) : R2 := fun x y H Q => rNeF K x y H Q ∨ rNeDA x y H Q
theorem or_neX (hu : X.A.units + 64 < cLine) : OpR X (compareOp .NotEq) (rNeX X.K) := OpR.or (or_ne hu) (op_ne_dictA (by omega))
theorem o2_neX : Op2 X T (rNeX X.K) neX := by
  intro Z H x y fx fy z Q s vx vy h g
  unfold neX at h
  split at h
  · rename_i a i b j
    split at h
    · rename_i q
      obtain ⟨rfl, rfl⟩ := q
      cases h
      obtain ⟨u, vs, rfl, ea, rk⟩ := vx.dct' s
      obtain ⟨v, ws, rfl, eb, rk2⟩ := vy.dct' s
      cases rk with
      | cons k1 r1 t1 =>
        cases t1
        cases rk2 with
        | cons k2 r2 t2 =>
          cases t2
          cases r1
          cases r2
          cases k1
          cases k2
          refine .inr ⟨u, v, _, _, rfl, rfl, ea, eb, rfl, fun p hp => ?_, g.here s (.bl _)⟩
          simp only [List.mem_singleton] at hp
          subst hp
          exact ⟨by simp [valV], rfl⟩
    · cases h
  · exact .inl (o2_ne _ _ _ _ _ _ _ _ s vx vy h g)
end
end VS

set_option Elab.async false
set_option linter.all false
set_option maxRecDepth 100000
set_option maxHeartbeats 4000000
set_option autoImplicit false
namespace LB
open PySem PySem.Spec PyProof.Rows L2 VS LX LamX
/-! ### the text by places -/
def topS (i : Nat) : Stmt := PySem.Challenge.pw_longbough_k25_errors_made.main.body.getD i (.Pass ⟨0, 0, 0, 0⟩)
abbrev sx_0 : Stmt := (inClass (topS 11) 0)
def xd_0 : XcD := ⟨"Misfit", defArgs sx_0, defBody sx_0, defScope sx_0, "why"⟩
abbrev sx_1 : Stmt := (inClass (topS 10) 0)
def xd_1 : XcD := ⟨"NoBlock", defArgs sx_1, defBody sx_1, defScope sx_1, "block"⟩
abbrev sx_2 : Stmt := (inClass (topS 9) 0)
def xd_2 : XcD := ⟨"BadBlock", defArgs sx_2, defBody sx_2, defScope sx_2, "block"⟩
abbrev sx_3 : Stmt := (inClass (topS 5) 0)
def xd_3 : XcD := ⟨"BadSlot", defArgs sx_3, defBody sx_3, defScope sx_3, "slot"⟩
abbrev sx_4 : Stmt := (inClass (topS 4) 0)
def xd_4 : XcD := ⟨"BadNumber", defArgs sx_4, defBody sx_4, defScope sx_4, "number"⟩
abbrev sx_5 : Stmt := (inClass (topS 2) 0)
def xd_5 : XcD := ⟨"BadKind", defArgs sx_5, defBody sx_5, defScope sx_5, "at"⟩
abbrev sx_6 : Stmt := (inClass (topS 15) 0)
def xd_6 : XcD := ⟨"BadPrice", defArgs sx_6, defBody sx_6, defScope sx_6, "change"⟩
abbrev sx_7 : Stmt := (inClass (topS 14) 0)
def xd_7 : XcD := ⟨"BadText", defArgs sx_7, defBody sx_7, defScope sx_7, "line"⟩
abbrev sx_8 : Stmt := (inClass (topS 13) 0)
def xd_8 : XcD := ⟨"BadHand", defArgs sx_8, defBody sx_8, defScope sx_8, "hand"⟩
abbrev sx_9 : Stmt := (inClass (topS 12) 0)
def xd_9 : XcD := ⟨"BadHands", defArgs sx_9, defBody sx_9, defScope sx_9, "hands"⟩
abbrev sx_10 : Stmt := (inClass (topS 3) 0)
def xd_10 : XcD := ⟨"NoKind", defArgs sx_10, defBody sx_10, defScope sx_10, "kind"⟩
abbrev sx_11 : Stmt := (inClass (topS 8) 0)
def xd_11 : XcD := ⟨"NoRest", defArgs sx_11, defBody sx_11, defScope sx_11, ""⟩
abbrev sx_12 : Stmt := (inClass (topS 7) 0)
def xd_12 : XcD := ⟨"BadChances", defArgs sx_12, defBody sx_12, defScope sx_12, ""⟩
abbrev sx_13 : Stmt := (inClass (topS 6) 0)
def xd_13 : XcD := ⟨"UnlikeLengths", defArgs sx_13, defBody sx_13, defScope sx_13, ""⟩
abbrev PP : Program := PySem.Challenge.pw_longbough_k25_errors_made
def T : Tab := { cls := [], fld := ["why", "block", "slot", "number", "at", "change", "line", "hand", "hands", "kind"], mks := [], xcl := ["Misfit", "NoBlock", "BadBlock", "BadSlot", "BadNumber", "BadKind", "BadPrice", "BadText", "BadHand", "BadHands", "NoKind", "NoRest", "BadChances", "UnlikeLengths", "BoughError"], xvl := [500, 501, 502, 503, 504, 505, 506, 507, 508, 509, 510, 511, 512, 513], xbs := [514] }
/-! ### what the top has left -/
abbrev s__law_start : Stmt := (topS 17)
abbrev s__law_draw : Stmt := (topS 18)
abbrev s__law_pick : Stmt := (topS 19)
abbrev s__law_made_by_name : Stmt := (topS 21)
abbrev s__law_made_by_place : Stmt := (topS 20)
abbrev s__law_held : Stmt := (topS 22)
abbrev s__law_classes : Stmt := (topS 23)
abbrev s_law : Stmt := (topS 24)
structure Facts (K : PySem.W.Frag) (mg : Str → Option Value) : Prop where
  tab : TabOk K T
  isi : IsiOk K T
  exm : ExmOk K T [500, 501, 502, 503, 504, 505, 506, 507, 508, 509, 510, 511, 512, 513]
  xc0 : XcOk PP K xd_0
  xc1 : XcOk PP K xd_1
  xc2 : XcOk PP K xd_2
  xc3 : XcOk PP K xd_3
  xc4 : XcOk PP K xd_4
  xc5 : XcOk PP K xd_5
  xc6 : XcOk PP K xd_6
  xc7 : XcOk PP K xd_7
  xc8 : XcOk PP K xd_8
  xc9 : XcOk PP K xd_9
  xc10 : XcOk PP K xd_10
  xc11 : XcOk PP K xd_11
  xc12 : XcOk PP K xd_12
  xc13 : XcOk PP K xd_13
  g0 : mg "_law_start" = some (.ref (He.ga K "_law_start"))
  g1 : mg "_law_pick" = some (.ref (He.ga K "_law_pick"))
  g2 : mg "_law_draw" = some (.ref (He.ga K "_law_draw"))
  g3 : mg "_law_made_by_name" = some (.ref (He.ga K "_law_made_by_name"))
  g4 : mg "Misfit" = some (.ref (He.ga K "Misfit"))
  g5 : mg "NoBlock" = some (.ref (He.ga K "NoBlock"))
  g6 : mg "BadBlock" = some (.ref (He.ga K "BadBlock"))
  g7 : mg "BadSlot" = some (.ref (He.ga K "BadSlot"))
  g8 : mg "BadNumber" = some (.ref (He.ga K "BadNumber"))
  g9 : mg "BadKind" = some (.ref (He.ga K "BadKind"))
  g10 : mg "BadPrice" = some (.ref (He.ga K "BadPrice"))
  g11 : mg "BadText" = some (.ref (He.ga K "BadText"))
  g12 : mg "BadHand" = some (.ref (He.ga K "BadHand"))
  g13 : mg "BadHands" = some (.ref (He.ga K "BadHands"))
  g14 : mg "NoKind" = some (.ref (He.ga K "NoKind"))
  g15 : mg "NoRest" = some (.ref (He.ga K "NoRest"))
  g16 : mg "BadChances" = some (.ref (He.ga K "BadChances"))
  g17 : mg "UnlikeLengths" = some (.ref (He.ga K "UnlikeLengths"))
  g18 : mg "_law_made_by_place" = some (.ref (He.ga K "_law_made_by_place"))
  g19 : mg "_law_held" = some (.ref (He.ga K "_law_held"))
  g20 : mg "BoughError" = some (.ref (He.ga K "BoughError"))
  g21 : mg "_law_classes" = some (.ref (He.ga K "_law_classes"))
  n0 : mg "list" = none
  n1 : mg "range" = none
  n2 : mg "int" = none
  n3 : mg "len" = none
  n4 : mg "any" = none
  n5 : mg "isinstance" = none
  n6 : mg "bool" = none
  n7 : mg "enumerate" = none
  n8 : mg "ValueError" = none
  d__law_start : ∃ fd, FunD K "_law_start" "_law_start" (defArgs s__law_start) (defBody s__law_start) (defScope s__law_start) [] [] (He.ga K "_law_start") fd
  d__law_draw : ∃ fd, FunD K "_law_draw" "_law_draw" (defArgs s__law_draw) (defBody s__law_draw) (defScope s__law_draw) [] [] (He.ga K "_law_draw") fd
  d__law_pick : ∃ fd, FunD K "_law_pick" "_law_pick" (defArgs s__law_pick) (defBody s__law_pick) (defScope s__law_pick) [] [] (He.ga K "_law_pick") fd
  d__law_made_by_name : ∃ fd, FunD K "_law_made_by_name" "_law_made_by_name" (defArgs s__law_made_by_name) (defBody s__law_made_by_name) (defScope s__law_made_by_name) [] [] (He.ga K "_law_made_by_name") fd
  d__law_made_by_place : ∃ fd, FunD K "_law_made_by_place" "_law_made_by_place" (defArgs s__law_made_by_place) (defBody s__law_made_by_place) (defScope s__law_made_by_place) [] [] (He.ga K "_law_made_by_place") fd
  d__law_held : ∃ fd, FunD K "_law_held" "_law_held" (defArgs s__law_held) (defBody s__law_held) (defScope s__law_held) [] [] (He.ga K "_law_held") fd
  d__law_classes : ∃ fd, FunD K "_law_classes" "_law_classes" (defArgs s__law_classes) (defBody s__law_classes) (defScope s__law_classes) [] [] (He.ga K "_law_classes") fd
  d_law : ∃ fd, FunD K "law" "law" (defArgs s_law) (defBody s_law) (defScope s_law) [] [] (He.ga K "law") fd
theorem xf_0 {w : World} {K : PySem.W.Frag} {mg : Str → Option Value} {base : Heap} (D : Facts K mg) : ∃ fd, FnOk PP w K mg base L2.CX0 1 (He.ma K (He.ga K "Misfit") "__init__") fd ["self", "why"] (sp1 (T.ca K 500) (T.fn 0)) ∧ L2.Binds K fd ["self", "why"] [] ∧ ∀ s a ws, ws.length = [("why" : Str)].length → BindsTo s fd ⟨[.ref a], [("why" : Str)].zip ws⟩ ([("self" : Str), "why"].zip (.ref a :: ws)) :=
  xc_fnK (N := ["self", "why", "__class__"]) (D.xc0) (NdefX.nscope_by (by decide +kernel)) rfl ⟨_, rfl, rfl⟩ rfl (by decide +kernel) (fun _ => rfl) (fun _ => rfl) (fun _ _ _ _ _ => rfl) (fun _ _ _ _ _ => rfl) rfl rfl (by decide) (by decide) (fun _ _ _ _ us _ _ _ hl => match us, hl with | [_, _], _ => rfl) (fun _ _ _ _ us ws _ _ _ hu hw => match us, hu, ws, hw with | [_], _, [_], _ => rfl)
theorem xf_1 {w : World} {K : PySem.W.Frag} {mg : Str → Option Value} {base : Heap} (D : Facts K mg) : ∃ fd, FnOk PP w K mg base L2.CX0 1 (He.ma K (He.ga K "NoBlock") "__init__") fd ["self", "block"] (sp1 (T.ca K 501) (T.fn 1)) ∧ L2.Binds K fd ["self", "block"] [] ∧ ∀ s a ws, ws.length = [("block" : Str)].length → BindsTo s fd ⟨[.ref a], [("block" : Str)].zip ws⟩ ([("self" : Str), "block"].zip (.ref a :: ws)) :=
  xc_fnK (N := ["self", "block", "__class__"]) (D.xc1) (NdefX.nscope_by (by decide +kernel)) rfl ⟨_, rfl, rfl⟩ rfl (by decide +kernel) (fun _ => rfl) (fun _ => rfl) (fun _ _ _ _ _ => rfl) (fun _ _ _ _ _ => rfl) rfl rfl (by decide) (by decide) (fun _ _ _ _ us _ _ _ hl => match us, hl with | [_, _], _ => rfl) (fun _ _ _ _ us ws _ _ _ hu hw => match us, hu, ws, hw with | [_], _, [_], _ => rfl)
theorem xf_2 {w : World} {K : PySem.W.Frag} {mg : Str → Option Value} {base : Heap} (D : Facts K mg) : ∃ fd, FnOk PP w K mg base L2.CX0 1 (He.ma K (He.ga K "BadBlock") "__init__") fd ["self", "block"] (sp1 (T.ca K 502) (T.fn 1)) ∧ L2.Binds K fd ["self", "block"] [] ∧ ∀ s a ws, ws.length = [("block" : Str)].length → BindsTo s fd ⟨[.ref a], [("block" : Str)].zip ws⟩ ([("self" : Str), "block"].zip (.ref a :: ws)) :=
  xc_fnK (N := ["self", "block", "__class__"]) (D.xc2) (NdefX.nscope_by (by decide +kernel)) rfl ⟨_, rfl, rfl⟩ rfl (by decide +kernel) (fun _ => rfl) (fun _ => rfl) (fun _ _ _ _ _ => rfl) (fun _ _ _ _ _ => rfl) rfl rfl (by decide) (by decide) (fun _ _ _ _ us _ _ _ hl => match us, hl with | [_, _], _ => rfl) (fun _ _ _ _ us ws _ _ _ hu hw => match us, hu, ws, hw with | [_], _, [_], _ => rfl)
theorem xf_3 {w : World} {K : PySem.W.Frag} {mg : Str → Option Value} {base : Heap} (D : Facts K mg) : ∃ fd, FnOk PP w K mg base L2.CX0 1 (He.ma K (He.ga K "BadSlot") "__init__") fd ["self", "slot"] (sp1 (T.ca K 503) (T.fn 2)) ∧ L2.Binds K fd ["self", "slot"] [] ∧ ∀ s a ws, ws.length = [("slot" : Str)].length → BindsTo s fd ⟨[.ref a], [("slot" : Str)].zip ws⟩ ([("self" : Str), "slot"].zip (.ref a :: ws)) :=
  xc_fnK (N := ["self", "slot", "__class__"]) (D.xc3) (NdefX.nscope_by (by decide +kernel)) rfl ⟨_, rfl, rfl⟩ rfl (by decide +kernel) (fun _ => rfl) (fun _ => rfl) (fun _ _ _ _ _ => rfl) (fun _ _ _ _ _ => rfl) rfl rfl (by decide) (by decide) (fun _ _ _ _ us _ _ _ hl => match us, hl with | [_, _], _ => rfl) (fun _ _ _ _ us ws _ _ _ hu hw => match us, hu, ws, hw with | [_], _, [_], _ => rfl)
theorem xf_4 {w : World} {K : PySem.W.Frag} {mg : Str → Option Value} {base : Heap} (D : Facts K mg) : ∃ fd, FnOk PP w K mg base L2.CX0 1 (He.ma K (He.ga K "BadNumber") "__init__") fd ["self", "number"] (sp1 (T.ca K 504) (T.fn 3)) ∧ L2.Binds K fd ["self", "number"] [] ∧ ∀ s a ws, ws.length = [("number" : Str)].length → BindsTo s fd ⟨[.ref a], [("number" : Str)].zip ws⟩ ([("self" : Str), "number"].zip (.ref a :: ws)) :=
  xc_fnK (N := ["self", "number", "__class__"]) (D.xc4) (NdefX.nscope_by (by decide +kernel)) rfl ⟨_, rfl, rfl⟩ rfl (by decide +kernel) (fun _ => rfl) (fun _ => rfl) (fun _ _ _ _ _ => rfl) (fun _ _ _ _ _ => rfl) rfl rfl (by decide) (by decide) (fun _ _ _ _ us _ _ _ hl => match us, hl with | [_, _], _ => rfl) (fun _ _ _ _ us ws _ _ _ hu hw => match us, hu, ws, hw with | [_], _, [_], _ => rfl)
theorem xf_5 {w : World} {K : PySem.W.Frag} {mg : Str → Option Value} {base : Heap} (D : Facts K mg) : ∃ fd, FnOk PP w K mg base L2.CX0 1 (He.ma K (He.ga K "BadKind") "__init__") fd ["self", "at"] (sp1 (T.ca K 505) (T.fn 4)) ∧ L2.Binds K fd ["self", "at"] [] ∧ ∀ s a ws, ws.length = [("at" : Str)].length → BindsTo s fd ⟨[.ref a], [("at" : Str)].zip ws⟩ ([("self" : Str), "at"].zip (.ref a :: ws)) :=
  xc_fnK (N := ["self", "at", "__class__"]) (D.xc5) (NdefX.nscope_by (by decide +kernel)) rfl ⟨_, rfl, rfl⟩ rfl (by decide +kernel) (fun _ => rfl) (fun _ => rfl) (fun _ _ _ _ _ => rfl) (fun _ _ _ _ _ => rfl) rfl rfl (by decide) (by decide) (fun _ _ _ _ us _ _ _ hl => match us, hl with | [_, _], _ => rfl) (fun _ _ _ _ us ws _ _ _ hu hw => match us, hu, ws, hw with | [_], _, [_], _ => rfl)
theorem xf_6 {w : World} {K : PySem.W.Frag} {mg : Str → Option Value} {base : Heap} (D : Facts K mg) : ∃ fd, FnOk PP w K mg base L2.CX0 1 (He.ma K (He.ga K "BadPrice") "__init__") fd ["self", "change"] (sp1 (T.ca K 506) (T.fn 5)) ∧ L2.Binds K fd ["self", "change"] [] ∧ ∀ s a ws, ws.length = [("change" : Str)].length → BindsTo s fd ⟨[.ref a], [("change" : Str)].zip ws⟩ ([("self" : Str), "change"].zip (.ref a :: ws)) :=
  xc_fnK (N := ["self", "change", "__class__"]) (D.xc6) (NdefX.nscope_by (by decide +kernel)) rfl ⟨_, rfl, rfl⟩ rfl (by decide +kernel) (fun _ => rfl) (fun _ => rfl) (fun _ _ _ _ _ => rfl) (fun _ _ _ _ _ => rfl) rfl rfl (by decide) (by decide) (fun _ _ _ _ us _ _ _ hl => match us, hl with | [_, _], _ => rfl) (fun _ _ _ _ us ws _ _ _ hu hw => match us, hu, ws, hw with | [_], _, [_], _ => rfl)
theorem xf_7 {w : World} {K : PySem.W.Frag} {mg : Str → Option Value} {base : Heap} (D : Facts K mg) : ∃ fd, FnOk PP w K mg base L2.CX0 1 (He.ma K (He.ga K "BadText") "__init__") fd ["self", "line"] (sp1 (T.ca K 507) (T.fn 6)) ∧ L2.Binds K fd ["self", "line"] [] ∧ ∀ s a ws, ws.length = [("line" : Str)].length → BindsTo s fd ⟨[.ref a], [("line" : Str)].zip ws⟩ ([("self" : Str), "line"].zip (.ref a :: ws)) :=
  xc_fnK (N := ["self", "line", "__class__"]) (D.xc7) (NdefX.nscope_by (by decide +kernel)) rfl ⟨_, rfl, rfl⟩ rfl (by decide +kernel) (fun _ => rfl) (fun _ => rfl) (fun _ _ _ _ _ => rfl) (fun _ _ _ _ _ => rfl) rfl rfl (by decide) (by decide) (fun _ _ _ _ us _ _ _ hl => match us, hl with | [_, _], _ => rfl) (fun _ _ _ _ us ws _ _ _ hu hw => match us, hu, ws, hw with | [_], _, [_], _ => rfl)
theorem xf_8 {w : World} {K : PySem.W.Frag} {mg : Str → Option Value} {base : Heap} (D : Facts K mg) : ∃ fd, FnOk PP w K mg base L2.CX0 1 (He.ma K (He.ga K "BadHand") "__init__") fd ["self", "hand"] (sp1 (T.ca K 508) (T.fn 7)) ∧ L2.Binds K fd ["self", "hand"] [] ∧ ∀ s a ws, ws.length = [("hand" : Str)].length → BindsTo s fd ⟨[.ref a], [("hand" : Str)].zip ws⟩ ([("self" : Str), "hand"].zip (.ref a :: ws)) :=
  xc_fnK (N := ["self", "hand", "__class__"]) (D.xc8) (NdefX.nscope_by (by decide +kernel)) rfl ⟨_, rfl, rfl⟩ rfl (by decide +kernel) (fun _ => rfl) (fun _ => rfl) (fun _ _ _ _ _ => rfl) (fun _ _ _ _ _ => rfl) rfl rfl (by decide) (by decide) (fun _ _ _ _ us _ _ _ hl => match us, hl with | [_, _], _ => rfl) (fun _ _ _ _ us ws _ _ _ hu hw => match us, hu, ws, hw with | [_], _, [_], _ => rfl)
theorem xf_9 {w : World} {K : PySem.W.Frag} {mg : Str → Option Value} {base : Heap} (D : Facts K mg) : ∃ fd, FnOk PP w K mg base L2.CX0 1 (He.ma K (He.ga K "BadHands") "__init__") fd ["self", "hands"] (sp1 (T.ca K 509) (T.fn 8)) ∧ L2.Binds K fd ["self", "hands"] [] ∧ ∀ s a ws, ws.length = [("hands" : Str)].length → BindsTo s fd ⟨[.ref a], [("hands" : Str)].zip ws⟩ ([("self" : Str), "hands"].zip (.ref a :: ws)) :=
  xc_fnK (N := ["self", "hands", "__class__"]) (D.xc9) (NdefX.nscope_by (by decide +kernel)) rfl ⟨_, rfl, rfl⟩ rfl (by decide +kernel) (fun _ => rfl) (fun _ => rfl) (fun _ _ _ _ _ => rfl) (fun _ _ _ _ _ => rfl) rfl rfl (by decide) (by decide) (fun _ _ _ _ us _ _ _ hl => match us, hl with | [_, _], _ => rfl) (fun _ _ _ _ us ws _ _ _ hu hw => match us, hu, ws, hw with | [_], _, [_], _ => rfl)
theorem xf_10 {w : World} {K : PySem.W.Frag} {mg : Str → Option Value} {base : Heap} (D : Facts K mg) : ∃ fd, FnOk PP w K mg base L2.CX0 1 (He.ma K (He.ga K "NoKind") "__init__") fd ["self", "kind"] (sp1 (T.ca K 510) (T.fn 9)) ∧ L2.Binds K fd ["self", "kind"] [] ∧ ∀ s a ws, ws.length = [("kind" : Str)].length → BindsTo s fd ⟨[.ref a], [("kind" : Str)].zip ws⟩ ([("self" : Str), "kind"].zip (.ref a :: ws)) :=
  xc_fnK (N := ["self", "kind", "__class__"]) (D.xc10) (NdefX.nscope_by (by decide +kernel)) rfl ⟨_, rfl, rfl⟩ rfl (by decide +kernel) (fun _ => rfl) (fun _ => rfl) (fun _ _ _ _ _ => rfl) (fun _ _ _ _ _ => rfl) rfl rfl (by decide) (by decide) (fun _ _ _ _ us _ _ _ hl => match us, hl with | [_, _], _ => rfl) (fun _ _ _ _ us ws _ _ _ hu hw => match us, hu, ws, hw with | [_], _, [_], _ => rfl)
theorem xf_11 {w : World} {K : PySem.W.Frag} {mg : Str → Option Value} {base : Heap} (D : Facts K mg) : ∃ fd, FnOk PP w K mg base L2.CX0 1 (He.ma K (He.ga K "NoRest") "__init__") fd ["self"] (sp0 (T.ca K 511)) ∧ L2.Binds K fd ["self"] [] :=
  xc_fn0 (N := ["self", "__class__"]) (D.xc11) (NdefX.nscope_by (by decide +kernel)) rfl ⟨_, rfl, rfl⟩ rfl (by decide +kernel) (fun _ => rfl) (fun _ _ _ _ _ => rfl) (fun _ _ _ _ _ => rfl) (fun _ _ _ _ us _ _ _ hl => match us, hl with | [_], _ => rfl)
theorem xf_12 {w : World} {K : PySem.W.Frag} {mg : Str → Option Value} {base : Heap} (D : Facts K mg) : ∃ fd, FnOk PP w K mg base L2.CX0 1 (He.ma K (He.ga K "BadChances") "__init__") fd ["self"] (sp0 (T.ca K 512)) ∧ L2.Binds K fd ["self"] [] :=
  xc_fn0 (N := ["self", "__class__"]) (D.xc12) (NdefX.nscope_by (by decide +kernel)) rfl ⟨_, rfl, rfl⟩ rfl (by decide +kernel) (fun _ => rfl) (fun _ _ _ _ _ => rfl) (fun _ _ _ _ _ => rfl) (fun _ _ _ _ us _ _ _ hl => match us, hl with | [_], _ => rfl)
theorem xf_13 {w : World} {K : PySem.W.Frag} {mg : Str → Option Value} {base : Heap} (D : Facts K mg) : ∃ fd, FnOk PP w K mg base L2.CX0 1 (He.ma K (He.ga K "UnlikeLengths") "__init__") fd ["self"] (sp0 (T.ca K 513)) ∧ L2.Binds K fd ["self"] [] :=
  xc_fn0 (N := ["self", "__class__"]) (D.xc13) (NdefX.nscope_by (by decide +kernel)) rfl ⟨_, rfl, rfl⟩ rfl (by decide +kernel) (fun _ => rfl) (fun _ _ _ _ _ => rfl) (fun _ _ _ _ _ => rfl) (fun _ _ _ _ us _ _ _ hl => match us, hl with | [_], _ => rfl)
/-! _law_start -/
theorem sc__law_start : FnScope ["_law_script"] ["_law_script"] (defScope s__law_start) := ⟨rfl, rfl, rfl, by decide +kernel, rfl, by decide +kernel, by decide +kernel⟩
def t__law_start : TSv :=
  (sRet (eLstM (aCons (eListM (aCons (eVar 0) aNil)) (aCons (eC (.int 0)) (aCons (eC (.int 0)) (aCons (eC (.int 11)) aNil))))))
def m__law_start : FnM := fnM 1 1 t__law_start
theorem fo__law_start {w : World} {K : PySem.W.Frag} {mg : Str → Option Value} {base : Heap} (D : Facts K mg) (TB : TbsOk K mg base T) {fd : FuncData} (F : FunD K "_law_start" "_law_start" (defArgs s__law_start) (defBody s__law_start) (defScope s__law_start) [] [] (He.ga K "_law_start") fd) : FnOk PP w K mg base CX0 1 (He.ga K "_law_start") fd ["_law_script"] (spM K T m__law_start) := fn_v0 F sc__law_start fun cdv A outer s H E E' hr =>
    (vb_one (vs_ret (ve_lstM (va_cons (ve_listM rfl (D.n0) (va_cons (ve_var (i := 0) rfl (Or.inl rfl)) va_nil)) (va_cons ve_int (va_cons ve_int (va_cons ve_int va_nil)))))))
theorem ok__law_start {w : World} {K : PySem.W.Frag} {mg : Str → Option Value} {base : Heap} (D : Facts K mg) (TB : TbsOk K mg base T) : Fn PP w K mg base T CX0 1 (He.ga K "_law_start") m__law_start := by
  obtain ⟨fd, F⟩ := D.d__law_start
  exact Fn.plain (fo__law_start D TB F) (F.bindsN fun _ _ _ _ _ _ us hl => match us, hl with | [_], _ => rfl) F.kp
/-! _law_draw -/
theorem sc__law_draw : FnScope ["_law_stream", "_law_many", "_law_cell", "_law_digit", "_law_mixed"] ["_law_stream", "_law_many"] (defScope s__law_draw) := ⟨rfl, rfl, rfl, by decide +kernel, rfl, by decide +kernel, by decide +kernel⟩
def t__law_draw : TSv :=
  (bCons (sSub (eVar 0) (eC (.int 2)) (eOp2 addF (eIx (eVar 0) (eC (.int 2))) (eC (.int 1))))
    (bCons (sIf (tAndV (tVal (eOp2 eqF (eIx (eVar 0) (eC (.int 1))) (eC (.int 0)))) (tVal (eOp2 neF (eIx (eVar 0) (eC (.int 0))) (eLst aNil)))) (bCons (sSet 2 (eMut false cPopAt (eIx (eVar 0) (eC (.int 0))) (aCons (eC (.int 0)) aNil)))
    (bCons (sSub (eVar 0) (eC (.int 3)) (eOp2 modF (eCB (g1 intF) (aCons (eOp2 addF (eOp2 addF (eOp2 mulF (eIx (eVar 0) (eC (.int 3))) (eC (.int 8191))) (eVar 2)) (eC (.int 3))) aNil)) (eC (.int 2147483647))))
    (sSub (eVar 0) (eC (.int 1)) (eIf (tVal (eOp2 geF (eVar 2) (eOp2 powF (eC (.int 10)) (eC (.int 18))))) (eVar 2) (eC (.int 0)))))) bNil)
    (bCons (sIf (tVal (eOp2 gtF (eIx (eVar 0) (eC (.int 1))) (eC (.int 0)))) (bCons (sSet 3 (eOp2 modF (eCB (g1 intF) (aCons (eIx (eVar 0) (eC (.int 1))) aNil)) (eVar 1)))
    (bCons (sSub (eVar 0) (eC (.int 1)) (eOp2 fdivF (eIx (eVar 0) (eC (.int 1))) (eVar 1)))
    (sRet (eVar 3)))) bNil)
    (bCons (sSet 4 (eOp2 modF (eCB (g1 intF) (aCons (eOp2 powF (eOp2 addF (eOp2 addF (eIx (eVar 0) (eC (.int 3))) (eOp2 mulF (eC (.int 7919)) (eIx (eVar 0) (eC (.int 2))))) (eC (.int 104729))) (eC (.int 5))) aNil)) (eC (.int 2147483629))))
    (sRet (eOp2 modF (eOp2 modF (eCB (g1 intF) (aCons (eOp2 powF (eOp2 addF (eOp2 addF (eOp2 mulF (eVar 4) (eC (.int 48271))) (eOp2 mulF (eC (.int 30011)) (eIx (eVar 0) (eC (.int 2))))) (eC (.int 29))) (eC (.int 3))) aNil)) (eC (.int 1000000007))) (eVar 1)))))))
def m__law_draw : FnM := fnM 2 5 t__law_draw
theorem fo__law_draw {w : World} {K : PySem.W.Frag} {mg : Str → Option Value} {base : Heap} (D : Facts K mg) (TB : TbsOk K mg base T) {fd : FuncData} (F : FunD K "_law_draw" "_law_draw" (defArgs s__law_draw) (defBody s__law_draw) (defScope s__law_draw) [] [] (He.ga K "_law_draw") fd) : FnOk PP w K mg base CX0 1 (He.ga K "_law_draw") fd ["_law_stream", "_law_many"] (spM K T m__law_draw) := fn_v0 F sc__law_draw fun cdv A outer s H E E' hr =>
    (vb_cons (vs_sub (ve_var (i := 0) rfl (Or.inl rfl)) ve_int (ve_op or_add o2_add (ve_ix (ve_var (i := 0) rfl (Or.inl rfl)) ve_int) ve_int))
    (vb_cons (vs_if (VW.vt (vw_and (vt_cmp (or_eq (hu64 hr)) o2_eq (ve_ix (ve_var (i := 0) rfl (Or.inl rfl)) ve_int) ve_int (nomark _)) (vw_and1 (vt_cmp (or_ne (hu64 hr)) o2_ne (ve_ix (ve_var (i := 0) rfl (Or.inl rfl)) ve_int) (ve_lst va_nil) (nomark _))))) (vb_cons (vs_set (i := 2) sc__law_draw.nd rfl (Or.inl rfl) (ve_popAt (ve_ix (ve_var (i := 0) rfl (Or.inl rfl)) ve_int) ve_int))
    (vb_cons (vs_sub (ve_var (i := 0) rfl (Or.inl rfl)) ve_int (ve_op op_mod o2_mod (ve_callTy call_int1 on_int rfl (D.n2) (by decide +kernel) (va_cons (ve_op or_add o2_add (ve_op or_add o2_add (ve_op or_mul o2_mul (ve_ix (ve_var (i := 0) rfl (Or.inl rfl)) ve_int) ve_int) (ve_var (i := 2) rfl (Or.inl rfl))) ve_int) va_nil)) ve_int))
    (vb_one (vs_sub (ve_var (i := 0) rfl (Or.inl rfl)) ve_int (ve_if (vt_cmp op_ge (o2_cmp (p := fun i j => decide (j ≤ i))) (ve_var (i := 2) rfl (Or.inl rfl)) (ve_op op_pow o2_pow ve_int ve_int) (nomark _)) (ve_var (i := 2) rfl (Or.inl rfl)) ve_int))))) vb_nil)
    (vb_cons (vs_if (vt_cmp op_gt (o2_cmp (p := fun i j => decide (j < i))) (ve_ix (ve_var (i := 0) rfl (Or.inl rfl)) ve_int) ve_int (nomark _)) (vb_cons (vs_set (i := 3) sc__law_draw.nd rfl (Or.inl rfl) (ve_op op_mod o2_mod (ve_callTy call_int1 on_int rfl (D.n2) (by decide +kernel) (va_cons (ve_ix (ve_var (i := 0) rfl (Or.inl rfl)) ve_int) va_nil)) (ve_var (i := 1) rfl (Or.inl rfl))))
    (vb_cons (vs_sub (ve_var (i := 0) rfl (Or.inl rfl)) ve_int (ve_op op_fdivW o2_fdiv (ve_ix (ve_var (i := 0) rfl (Or.inl rfl)) ve_int) (ve_var (i := 1) rfl (Or.inl rfl))))
    (vb_one (vs_ret (ve_var (i := 3) rfl (Or.inl rfl)))))) vb_nil)
    (vb_cons (vs_set (i := 4) sc__law_draw.nd rfl (Or.inl rfl) (ve_op op_mod o2_mod (ve_callTy call_int1 on_int rfl (D.n2) (by decide +kernel) (va_cons (ve_op op_pow o2_pow (ve_op or_add o2_add (ve_op or_add o2_add (ve_ix (ve_var (i := 0) rfl (Or.inl rfl)) ve_int) (ve_op or_mul o2_mul ve_int (ve_ix (ve_var (i := 0) rfl (Or.inl rfl)) ve_int))) ve_int) ve_int) va_nil)) ve_int))
    (vb_one (vs_ret (ve_op op_mod o2_mod (ve_op op_mod o2_mod (ve_callTy call_int1 on_int rfl (D.n2) (by decide +kernel) (va_cons (ve_op op_pow o2_pow (ve_op or_add o2_add (ve_op or_add o2_add (ve_op or_mul o2_mul (ve_var (i := 4) rfl (Or.inl rfl)) ve_int) (ve_op or_mul o2_mul ve_int (ve_ix (ve_var (i := 0) rfl (Or.inl rfl)) ve_int))) ve_int) ve_int) va_nil)) ve_int) (ve_var (i := 1) rfl (Or.inl rfl)))))))))
theorem ok__law_draw {w : World} {K : PySem.W.Frag} {mg : Str → Option Value} {base : Heap} (D : Facts K mg) (TB : TbsOk K mg base T) : Fn PP w K mg base T CX0 1 (He.ga K "_law_draw") m__law_draw := by
  obtain ⟨fd, F⟩ := D.d__law_draw
  exact Fn.plain (fo__law_draw D TB F) (F.bindsN fun _ _ _ _ _ _ us hl => match us, hl with | [_, _], _ => rfl) F.kp
/-! _law_pick -/
theorem sc__law_pick : FnScope ["_law_stream", "_law_some"] ["_law_stream", "_law_some"] (defScope s__law_pick) := ⟨rfl, rfl, rfl, by decide +kernel, rfl, by decide +kernel, by decide +kernel⟩
def t__law_pick : TSv :=
  (sRet (eIx (eVar 1) (eCall m__law_draw (aCons (eVar 0) (aCons (eCB (g1 lenF) (aCons (eVar 1) aNil)) aNil)))))
def m__law_pick : FnM := fnM 2 2 t__law_pick
theorem fo__law_pick {w : World} {K : PySem.W.Frag} {mg : Str → Option Value} {base : Heap} (D : Facts K mg) (TB : TbsOk K mg base T) {fd : FuncData} (F : FunD K "_law_pick" "_law_pick" (defArgs s__law_pick) (defBody s__law_pick) (defScope s__law_pick) [] [] (He.ga K "_law_pick") fd) : FnOk PP w K mg base CX0 2 (He.ga K "_law_pick") fd ["_law_stream", "_law_some"] (spM K T m__law_pick) := fn_v0 F sc__law_pick fun cdv A outer s H E E' hr =>
    (vb_one (vs_ret (ve_ix (ve_var (i := 1) rfl (Or.inl rfl)) (ve_call (ok__law_draw D TB) (hr.mono (by first | decide | omega)) rfl (D.g2) passV (va_cons (ve_var (i := 0) rfl (Or.inl rfl)) (va_cons (ve_callB cr_len on_len rfl (D.n3) (by decide +kernel) (va_cons (ve_var (i := 1) rfl (Or.inl rfl)) va_nil)) va_nil))))))
theorem ok__law_pick {w : World} {K : PySem.W.Frag} {mg : Str → Option Value} {base : Heap} (D : Facts K mg) (TB : TbsOk K mg base T) : Fn PP w K mg base T CX0 2 (He.ga K "_law_pick") m__law_pick := by
  obtain ⟨fd, F⟩ := D.d__law_pick
  exact Fn.plain (fo__law_pick D TB F) (F.bindsN fun _ _ _ _ _ _ us hl => match us, hl with | [_, _], _ => rfl) F.kp
/-! _law_made_by_name -/
theorem sc__law_made_by_name : FnScope ["_law_x", "_law_found"] ["_law_x"] (defScope s__law_made_by_name) := ⟨rfl, rfl, rfl, by decide +kernel, rfl, by decide +kernel, by decide +kernel⟩
def t__law_made_by_name : TSv :=
  (bCons (sSet 1 (eLstM (aCons (eMkX 505 4 (aCons (eVar 0) aNil)) (aCons (eMkX 504 3 (aCons (eVar 0) aNil)) (aCons (eMkX 503 2 (aCons (eVar 0) aNil)) (aCons (eMkX 502 1 (aCons (eVar 0) aNil)) (aCons (eMkX 501 1 (aCons (eVar 0) aNil)) (aCons (eMkX 500 0 (aCons (eVar 0) aNil)) aNil))))))))
    (bCons (sExpr (eMut false cExtend (eVar 1) (aCons (eLst (aCons (eMkX 510 9 (aCons (eVar 0) aNil)) (aCons (eMkX 509 8 (aCons (eVar 0) aNil)) (aCons (eMkX 508 7 (aCons (eVar 0) aNil)) (aCons (eMkX 507 6 (aCons (eVar 0) aNil)) (aCons (eMkX 506 5 (aCons (eVar 0) aNil)) aNil)))))) aNil)))
    (sRet (eOp2 addF (eVar 1) (eLst (aCons (eMkX0 513) (aCons (eMkX0 512) (aCons (eMkX0 511) aNil))))))))
def m__law_made_by_name : FnM := fnM 1 2 t__law_made_by_name
theorem fo__law_made_by_name {w : World} {K : PySem.W.Frag} {mg : Str → Option Value} {base : Heap} (D : Facts K mg) (TB : TbsOk K mg base T) {fd : FuncData} (F : FunD K "_law_made_by_name" "_law_made_by_name" (defArgs s__law_made_by_name) (defBody s__law_made_by_name) (defScope s__law_made_by_name) [] [] (He.ga K "_law_made_by_name") fd) : FnOk PP w K mg base CX0 3 (He.ga K "_law_made_by_name") fd ["_law_x"] (spM K T m__law_made_by_name) := fn_v0 F sc__law_made_by_name fun cdv A outer s H E E' hr =>
    (vb_cons (vs_set (i := 1) sc__law_made_by_name.nd rfl (Or.inl rfl) (ve_lstM (va_cons ((xf_5 (w := w) (base := base) D).elim fun _ F1 => ve_mkxK (c := 505) (i := 4) (by decide +kernel) (D.xc5).ox (D.xc5).ini (D.xc5).typ F1.1 (hr.mono (by first | decide | omega)) F1.2.2 rfl (D.g9) (vk_cons (ve_var (i := 0) rfl (Or.inl rfl)) vk_nil)) (va_cons ((xf_4 (w := w) (base := base) D).elim fun _ F1 => ve_mkxK (c := 504) (i := 3) (by decide +kernel) (D.xc4).ox (D.xc4).ini (D.xc4).typ F1.1 (hr.mono (by first | decide | omega)) F1.2.2 rfl (D.g8) (vk_cons (ve_var (i := 0) rfl (Or.inl rfl)) vk_nil)) (va_cons ((xf_3 (w := w) (base := base) D).elim fun _ F1 => ve_mkxK (c := 503) (i := 2) (by decide +kernel) (D.xc3).ox (D.xc3).ini (D.xc3).typ F1.1 (hr.mono (by first | decide | omega)) F1.2.2 rfl (D.g7) (vk_cons (ve_var (i := 0) rfl (Or.inl rfl)) vk_nil)) (va_cons ((xf_2 (w := w) (base := base) D).elim fun _ F1 => ve_mkxK (c := 502) (i := 1) (by decide +kernel) (D.xc2).ox (D.xc2).ini (D.xc2).typ F1.1 (hr.mono (by first | decide | omega)) F1.2.2 rfl (D.g6) (vk_cons (ve_var (i := 0) rfl (Or.inl rfl)) vk_nil)) (va_cons ((xf_1 (w := w) (base := base) D).elim fun _ F1 => ve_mkxK (c := 501) (i := 1) (by decide +kernel) (D.xc1).ox (D.xc1).ini (D.xc1).typ F1.1 (hr.mono (by first | decide | omega)) F1.2.2 rfl (D.g5) (vk_cons (ve_var (i := 0) rfl (Or.inl rfl)) vk_nil)) (va_cons ((xf_0 (w := w) (base := base) D).elim fun _ F1 => ve_mkxK (c := 500) (i := 0) (by decide +kernel) (D.xc0).ox (D.xc0).ini (D.xc0).typ F1.1 (hr.mono (by first | decide | omega)) F1.2.2 rfl (D.g4) (vk_cons (ve_var (i := 0) rfl (Or.inl rfl)) vk_nil)) va_nil))))))))
    (vb_cons (vs_expr (ve_extend (ve_var (i := 1) rfl (Or.inl rfl)) (ve_lst (va_cons ((xf_10 (w := w) (base := base) D).elim fun _ F1 => ve_mkxK (c := 510) (i := 9) (by decide +kernel) (D.xc10).ox (D.xc10).ini (D.xc10).typ F1.1 (hr.mono (by first | decide | omega)) F1.2.2 rfl (D.g14) (vk_cons (ve_var (i := 0) rfl (Or.inl rfl)) vk_nil)) (va_cons ((xf_9 (w := w) (base := base) D).elim fun _ F1 => ve_mkxK (c := 509) (i := 8) (by decide +kernel) (D.xc9).ox (D.xc9).ini (D.xc9).typ F1.1 (hr.mono (by first | decide | omega)) F1.2.2 rfl (D.g13) (vk_cons (ve_var (i := 0) rfl (Or.inl rfl)) vk_nil)) (va_cons ((xf_8 (w := w) (base := base) D).elim fun _ F1 => ve_mkxK (c := 508) (i := 7) (by decide +kernel) (D.xc8).ox (D.xc8).ini (D.xc8).typ F1.1 (hr.mono (by first | decide | omega)) F1.2.2 rfl (D.g12) (vk_cons (ve_var (i := 0) rfl (Or.inl rfl)) vk_nil)) (va_cons ((xf_7 (w := w) (base := base) D).elim fun _ F1 => ve_mkxK (c := 507) (i := 6) (by decide +kernel) (D.xc7).ox (D.xc7).ini (D.xc7).typ F1.1 (hr.mono (by first | decide | omega)) F1.2.2 rfl (D.g11) (vk_cons (ve_var (i := 0) rfl (Or.inl rfl)) vk_nil)) (va_cons ((xf_6 (w := w) (base := base) D).elim fun _ F1 => ve_mkxK (c := 506) (i := 5) (by decide +kernel) (D.xc6).ox (D.xc6).ini (D.xc6).typ F1.1 (hr.mono (by first | decide | omega)) F1.2.2 rfl (D.g10) (vk_cons (ve_var (i := 0) rfl (Or.inl rfl)) vk_nil)) va_nil))))))))
    (vb_one (vs_ret (ve_op or_add o2_add (ve_var (i := 1) rfl (Or.inl rfl)) (ve_lst (va_cons ((xf_13 (w := w) (base := base) D).elim fun _ F1 => ve_mkx0 (c := 513) (by decide +kernel) (D.xc13).ox (D.xc13).ini (D.xc13).typ F1.1 (hr.mono (by first | decide | omega)) F1.2 rfl (D.g17)) (va_cons ((xf_12 (w := w) (base := base) D).elim fun _ F1 => ve_mkx0 (c := 512) (by decide +kernel) (D.xc12).ox (D.xc12).ini (D.xc12).typ F1.1 (hr.mono (by first | decide | omega)) F1.2 rfl (D.g16)) (va_cons ((xf_11 (w := w) (base := base) D).elim fun _ F1 => ve_mkx0 (c := 511) (by decide +kernel) (D.xc11).ox (D.xc11).ini (D.xc11).typ F1.1 (hr.mono (by first | decide | omega)) F1.2 rfl (D.g15)) va_nil)))))))))
theorem ok__law_made_by_name {w : World} {K : PySem.W.Frag} {mg : Str → Option Value} {base : Heap} (D : Facts K mg) (TB : TbsOk K mg base T) : Fn PP w K mg base T CX0 3 (He.ga K "_law_made_by_name") m__law_made_by_name := by
  obtain ⟨fd, F⟩ := D.d__law_made_by_name
  exact Fn.plain (fo__law_made_by_name D TB F) (F.bindsN fun _ _ _ _ _ _ us hl => match us, hl with | [_], _ => rfl) F.kp
/-! _law_made_by_place -/
theorem sc__law_made_by_place : FnScope ["_law_x", "_law_found"] ["_law_x"] (defScope s__law_made_by_place) := ⟨rfl, rfl, rfl, by decide +kernel, rfl, by decide +kernel, by decide +kernel⟩
def t__law_made_by_place : TSv :=
  (bCons (sSet 1 (eLst (aCons (eMkX 505 4 (aCons (eVar 0) aNil)) (aCons (eMkX 504 3 (aCons (eVar 0) aNil)) (aCons (eMkX 503 2 (aCons (eVar 0) aNil)) (aCons (eMkX 502 1 (aCons (eVar 0) aNil)) (aCons (eMkX 501 1 (aCons (eVar 0) aNil)) (aCons (eMkX 500 0 (aCons (eVar 0) aNil)) (aCons (eMkX 510 9 (aCons (eVar 0) aNil)) (aCons (eMkX 509 8 (aCons (eVar 0) aNil)) aNil))))))))))
    (sRet (eOp2 addF (eVar 1) (eLst (aCons (eMkX 508 7 (aCons (eVar 0) aNil)) (aCons (eMkX 507 6 (aCons (eVar 0) aNil)) (aCons (eMkX 506 5 (aCons (eVar 0) aNil)) (aCons (eMkX0 513) (aCons (eMkX0 512) (aCons (eMkX0 511) aNil))))))))))
def m__law_made_by_place : FnM := fnM 1 2 t__law_made_by_place
theorem fo__law_made_by_place {w : World} {K : PySem.W.Frag} {mg : Str → Option Value} {base : Heap} (D : Facts K mg) (TB : TbsOk K mg base T) {fd : FuncData} (F : FunD K "_law_made_by_place" "_law_made_by_place" (defArgs s__law_made_by_place) (defBody s__law_made_by_place) (defScope s__law_made_by_place) [] [] (He.ga K "_law_made_by_place") fd) : FnOk PP w K mg base CX0 3 (He.ga K "_law_made_by_place") fd ["_law_x"] (spM K T m__law_made_by_place) := fn_v0 F sc__law_made_by_place fun cdv A outer s H E E' hr =>
    (vb_cons (vs_set (i := 1) sc__law_made_by_place.nd rfl (Or.inl rfl) (ve_lst (va_cons ((xf_5 (w := w) (base := base) D).elim fun _ F1 => ve_mkx (c := 505) (i := 4) (by decide +kernel) (D.xc5).ox (D.xc5).ini (D.xc5).typ F1.1 (hr.mono (by first | decide | omega)) F1.2.1 rfl (D.g9) (va_cons (ve_var (i := 0) rfl (Or.inl rfl)) va_nil)) (va_cons ((xf_4 (w := w) (base := base) D).elim fun _ F1 => ve_mkx (c := 504) (i := 3) (by decide +kernel) (D.xc4).ox (D.xc4).ini (D.xc4).typ F1.1 (hr.mono (by first | decide | omega)) F1.2.1 rfl (D.g8) (va_cons (ve_var (i := 0) rfl (Or.inl rfl)) va_nil)) (va_cons ((xf_3 (w := w) (base := base) D).elim fun _ F1 => ve_mkx (c := 503) (i := 2) (by decide +kernel) (D.xc3).ox (D.xc3).ini (D.xc3).typ F1.1 (hr.mono (by first | decide | omega)) F1.2.1 rfl (D.g7) (va_cons (ve_var (i := 0) rfl (Or.inl rfl)) va_nil)) (va_cons ((xf_2 (w := w) (base := base) D).elim fun _ F1 => ve_mkx (c := 502) (i := 1) (by decide +kernel) (D.xc2).ox (D.xc2).ini (D.xc2).typ F1.1 (hr.mono (by first | decide | omega)) F1.2.1 rfl (D.g6) (va_cons (ve_var (i := 0) rfl (Or.inl rfl)) va_nil)) (va_cons ((xf_1 (w := w) (base := base) D).elim fun _ F1 => ve_mkx (c := 501) (i := 1) (by decide +kernel) (D.xc1).ox (D.xc1).ini (D.xc1).typ F1.1 (hr.mono (by first | decide | omega)) F1.2.1 rfl (D.g5) (va_cons (ve_var (i := 0) rfl (Or.inl rfl)) va_nil)) (va_cons ((xf_0 (w := w) (base := base) D).elim fun _ F1 => ve_mkx (c := 500) (i := 0) (by decide +kernel) (D.xc0).ox (D.xc0).ini (D.xc0).typ F1.1 (hr.mono (by first | decide | omega)) F1.2.1 rfl (D.g4) (va_cons (ve_var (i := 0) rfl (Or.inl rfl)) va_nil)) (va_cons ((xf_10 (w := w) (base := base) D).elim fun _ F1 => ve_mkx (c := 510) (i := 9) (by decide +kernel) (D.xc10).ox (D.xc10).ini (D.xc10).typ F1.1 (hr.mono (by first | decide | omega)) F1.2.1 rfl (D.g14) (va_cons (ve_var (i := 0) rfl (Or.inl rfl)) va_nil)) (va_cons ((xf_9 (w := w) (base := base) D).elim fun _ F1 => ve_mkx (c := 509) (i := 8) (by decide +kernel) (D.xc9).ox (D.xc9).ini (D.xc9).typ F1.1 (hr.mono (by first | decide | omega)) F1.2.1 rfl (D.g13) (va_cons (ve_var (i := 0) rfl (Or.inl rfl)) va_nil)) va_nil))))))))))
    (vb_one (vs_ret (ve_op or_add o2_add (ve_var (i := 1) rfl (Or.inl rfl)) (ve_lst (va_cons ((xf_8 (w := w) (base := base) D).elim fun _ F1 => ve_mkx (c := 508) (i := 7) (by decide +kernel) (D.xc8).ox (D.xc8).ini (D.xc8).typ F1.1 (hr.mono (by first | decide | omega)) F1.2.1 rfl (D.g12) (va_cons (ve_var (i := 0) rfl (Or.inl rfl)) va_nil)) (va_cons ((xf_7 (w := w) (base := base) D).elim fun _ F1 => ve_mkx (c := 507) (i := 6) (by decide +kernel) (D.xc7).ox (D.xc7).ini (D.xc7).typ F1.1 (hr.mono (by first | decide | omega)) F1.2.1 rfl (D.g11) (va_cons (ve_var (i := 0) rfl (Or.inl rfl)) va_nil)) (va_cons ((xf_6 (w := w) (base := base) D).elim fun _ F1 => ve_mkx (c := 506) (i := 5) (by decide +kernel) (D.xc6).ox (D.xc6).ini (D.xc6).typ F1.1 (hr.mono (by first | decide | omega)) F1.2.1 rfl (D.g10) (va_cons (ve_var (i := 0) rfl (Or.inl rfl)) va_nil)) (va_cons ((xf_13 (w := w) (base := base) D).elim fun _ F1 => ve_mkx0 (c := 513) (by decide +kernel) (D.xc13).ox (D.xc13).ini (D.xc13).typ F1.1 (hr.mono (by first | decide | omega)) F1.2 rfl (D.g17)) (va_cons ((xf_12 (w := w) (base := base) D).elim fun _ F1 => ve_mkx0 (c := 512) (by decide +kernel) (D.xc12).ox (D.xc12).ini (D.xc12).typ F1.1 (hr.mono (by first | decide | omega)) F1.2 rfl (D.g16)) (va_cons ((xf_11 (w := w) (base := base) D).elim fun _ F1 => ve_mkx0 (c := 511) (by decide +kernel) (D.xc11).ox (D.xc11).ini (D.xc11).typ F1.1 (hr.mono (by first | decide | omega)) F1.2 rfl (D.g15)) va_nil)))))))))))
theorem ok__law_made_by_place {w : World} {K : PySem.W.Frag} {mg : Str → Option Value} {base : Heap} (D : Facts K mg) (TB : TbsOk K mg base T) : Fn PP w K mg base T CX0 3 (He.ga K "_law_made_by_place") m__law_made_by_place := by
  obtain ⟨fd, F⟩ := D.d__law_made_by_place
  exact Fn.plain (fo__law_made_by_place D TB F) (F.bindsN fun _ _ _ _ _ _ us hl => match us, hl with | [_], _ => rfl) F.kp
/-! _law_held -/
theorem sc__law_held : FnScope ["_law_errors", "_law_found"] ["_law_errors"] (defScope s__law_held) := ⟨rfl, rfl, rfl, by decide +kernel, rfl, by decide +kernel, by decide +kernel⟩
def t__law_held : TSv :=
  (bCons (sSet 1 (eLst (aCons (eXAt 505 4 (eIx (eVar 0) (eC (.int 0)))) (aCons (eXAt 504 3 (eIx (eVar 0) (eC (.int 1)))) (aCons (eXAt 503 2 (eIx (eVar 0) (eC (.int 2)))) (aCons (eXAt 502 1 (eIx (eVar 0) (eC (.int 3)))) (aCons (eXAt 501 1 (eIx (eVar 0) (eC (.int 4)))) (aCons (eXAt 500 0 (eIx (eVar 0) (eC (.int 5)))) aNil))))))))
    (sRet (eOp2 addF (eVar 1) (eLst (aCons (eXAt 510 9 (eIx (eVar 0) (eC (.int 6)))) (aCons (eXAt 509 8 (eIx (eVar 0) (eC (.int 7)))) (aCons (eXAt 508 7 (eIx (eVar 0) (eC (.int 8)))) (aCons (eXAt 507 6 (eIx (eVar 0) (eC (.int 9)))) (aCons (eXAt 506 5 (eIx (eVar 0) (eC (.int 10)))) aNil)))))))))
def m__law_held : FnM := fnM 1 2 t__law_held
theorem fo__law_held {w : World} {K : PySem.W.Frag} {mg : Str → Option Value} {base : Heap} (D : Facts K mg) (TB : TbsOk K mg base T) {fd : FuncData} (F : FunD K "_law_held" "_law_held" (defArgs s__law_held) (defBody s__law_held) (defScope s__law_held) [] [] (He.ga K "_law_held") fd) : FnOk PP w K mg base CX0 1 (He.ga K "_law_held") fd ["_law_errors"] (spM K T m__law_held) := fn_v0 F sc__law_held fun cdv A outer s H E E' hr =>
    (vb_cons (vs_set (i := 1) sc__law_held.nd rfl (Or.inl rfl) (ve_lst (va_cons (ve_xat (c := 505) (i := 4) (D.xc5).xf (D.xc5).nof rfl (ve_ix (ve_var (i := 0) rfl (Or.inl rfl)) ve_int)) (va_cons (ve_xat (c := 504) (i := 3) (D.xc4).xf (D.xc4).nof rfl (ve_ix (ve_var (i := 0) rfl (Or.inl rfl)) ve_int)) (va_cons (ve_xat (c := 503) (i := 2) (D.xc3).xf (D.xc3).nof rfl (ve_ix (ve_var (i := 0) rfl (Or.inl rfl)) ve_int)) (va_cons (ve_xat (c := 502) (i := 1) (D.xc2).xf (D.xc2).nof rfl (ve_ix (ve_var (i := 0) rfl (Or.inl rfl)) ve_int)) (va_cons (ve_xat (c := 501) (i := 1) (D.xc1).xf (D.xc1).nof rfl (ve_ix (ve_var (i := 0) rfl (Or.inl rfl)) ve_int)) (va_cons (ve_xat (c := 500) (i := 0) (D.xc0).xf (D.xc0).nof rfl (ve_ix (ve_var (i := 0) rfl (Or.inl rfl)) ve_int)) va_nil))))))))
    (vb_one (vs_ret (ve_op or_add o2_add (ve_var (i := 1) rfl (Or.inl rfl)) (ve_lst (va_cons (ve_xat (c := 510) (i := 9) (D.xc10).xf (D.xc10).nof rfl (ve_ix (ve_var (i := 0) rfl (Or.inl rfl)) ve_int)) (va_cons (ve_xat (c := 509) (i := 8) (D.xc9).xf (D.xc9).nof rfl (ve_ix (ve_var (i := 0) rfl (Or.inl rfl)) ve_int)) (va_cons (ve_xat (c := 508) (i := 7) (D.xc8).xf (D.xc8).nof rfl (ve_ix (ve_var (i := 0) rfl (Or.inl rfl)) ve_int)) (va_cons (ve_xat (c := 507) (i := 6) (D.xc7).xf (D.xc7).nof rfl (ve_ix (ve_var (i := 0) rfl (Or.inl rfl)) ve_int)) (va_cons (ve_xat (c := 506) (i := 5) (D.xc6).xf (D.xc6).nof rfl (ve_ix (ve_var (i := 0) rfl (Or.inl rfl)) ve_int)) va_nil))))))))))
theorem ok__law_held {w : World} {K : PySem.W.Frag} {mg : Str → Option Value} {base : Heap} (D : Facts K mg) (TB : TbsOk K mg base T) : Fn PP w K mg base T CX0 1 (He.ga K "_law_held") m__law_held := by
  obtain ⟨fd, F⟩ := D.d__law_held
  exact Fn.plain (fo__law_held D TB F) (F.bindsN fun _ _ _ _ _ _ us hl => match us, hl with | [_], _ => rfl) F.kp
/-! _law_classes -/
theorem sc__law_classes : FnScope ["_law_e", "_law_found"] ["_law_e"] (defScope s__law_classes) := ⟨rfl, rfl, rfl, by decide +kernel, rfl, by decide +kernel, by decide +kernel⟩
def t__law_classes : TSv :=
  (bCons (sSet 1 (eLstM (aCons (eIsi [(.own 505)] (eVar 0)) (aCons (eIsi [(.own 504)] (eVar 0)) (aCons (eIsi [(.own 503)] (eVar 0)) (aCons (eIsi [(.own 502)] (eVar 0)) aNil))))))
    (bCons (sExpr (eMut false cExtend (eVar 1) (aCons (eLst (aCons (eIsi [(.own 501)] (eVar 0)) (aCons (eIsi [(.own 500)] (eVar 0)) (aCons (eIsi [(.own 510)] (eVar 0)) (aCons (eIsi [(.own 509)] (eVar 0)) aNil))))) aNil)))
    (bCons (sExpr (eMut false cExtend (eVar 1) (aCons (eLst (aCons (eIsi [(.own 508)] (eVar 0)) (aCons (eIsi [(.own 507)] (eVar 0)) (aCons (eIsi [(.own 506)] (eVar 0)) aNil)))) aNil)))
    (sRet (eOp2 addF (eVar 1) (eLst (aCons (eIsi [(.own 513)] (eVar 0)) (aCons (eIsi [(.own 512)] (eVar 0)) (aCons (eIsi [(.own 511)] (eVar 0)) aNil)))))))))
def m__law_classes : FnM := fnM 1 2 t__law_classes
theorem fo__law_classes {w : World} {K : PySem.W.Frag} {mg : Str → Option Value} {base : Heap} (D : Facts K mg) (TB : TbsOk K mg base T) {fd : FuncData} (F : FunD K "_law_classes" "_law_classes" (defArgs s__law_classes) (defBody s__law_classes) (defScope s__law_classes) [] [] (He.ga K "_law_classes") fd) : FnOk PP w K mg base CX0 1 (He.ga K "_law_classes") fd ["_law_e"] (spM K T m__law_classes) := fn_v0 F sc__law_classes fun cdv A outer s H E E' hr =>
    (vb_cons (vs_set (i := 1) sc__law_classes.nd rfl (Or.inl rfl) (ve_lstM (va_cons (ve_isi D.tab D.isi rfl (D.n5) (ve_var (i := 0) rfl (Or.inl rfl)) (tg_exn (c := 505) (by decide +kernel) rfl (D.g9))) (va_cons (ve_isi D.tab D.isi rfl (D.n5) (ve_var (i := 0) rfl (Or.inl rfl)) (tg_exn (c := 504) (by decide +kernel) rfl (D.g8))) (va_cons (ve_isi D.tab D.isi rfl (D.n5) (ve_var (i := 0) rfl (Or.inl rfl)) (tg_exn (c := 503) (by decide +kernel) rfl (D.g7))) (va_cons (ve_isi D.tab D.isi rfl (D.n5) (ve_var (i := 0) rfl (Or.inl rfl)) (tg_exn (c := 502) (by decide +kernel) rfl (D.g6))) va_nil))))))
    (vb_cons (vs_expr (ve_extend (ve_var (i := 1) rfl (Or.inl rfl)) (ve_lst (va_cons (ve_isi D.tab D.isi rfl (D.n5) (ve_var (i := 0) rfl (Or.inl rfl)) (tg_exn (c := 501) (by decide +kernel) rfl (D.g5))) (va_cons (ve_isi D.tab D.isi rfl (D.n5) (ve_var (i := 0) rfl (Or.inl rfl)) (tg_exn (c := 500) (by decide +kernel) rfl (D.g4))) (va_cons (ve_isi D.tab D.isi rfl (D.n5) (ve_var (i := 0) rfl (Or.inl rfl)) (tg_exn (c := 510) (by decide +kernel) rfl (D.g14))) (va_cons (ve_isi D.tab D.isi rfl (D.n5) (ve_var (i := 0) rfl (Or.inl rfl)) (tg_exn (c := 509) (by decide +kernel) rfl (D.g13))) va_nil)))))))
    (vb_cons (vs_expr (ve_extend (ve_var (i := 1) rfl (Or.inl rfl)) (ve_lst (va_cons (ve_isi D.tab D.isi rfl (D.n5) (ve_var (i := 0) rfl (Or.inl rfl)) (tg_exn (c := 508) (by decide +kernel) rfl (D.g12))) (va_cons (ve_isi D.tab D.isi rfl (D.n5) (ve_var (i := 0) rfl (Or.inl rfl)) (tg_exn (c := 507) (by decide +kernel) rfl (D.g11))) (va_cons (ve_isi D.tab D.isi rfl (D.n5) (ve_var (i := 0) rfl (Or.inl rfl)) (tg_exn (c := 506) (by decide +kernel) rfl (D.g10))) va_nil))))))
    (vb_one (vs_ret (ve_op or_add o2_add (ve_var (i := 1) rfl (Or.inl rfl)) (ve_lst (va_cons (ve_isi D.tab D.isi rfl (D.n5) (ve_var (i := 0) rfl (Or.inl rfl)) (tg_exn (c := 513) (by decide +kernel) rfl (D.g17))) (va_cons (ve_isi D.tab D.isi rfl (D.n5) (ve_var (i := 0) rfl (Or.inl rfl)) (tg_exn (c := 512) (by decide +kernel) rfl (D.g16))) (va_cons (ve_isi D.tab D.isi rfl (D.n5) (ve_var (i := 0) rfl (Or.inl rfl)) (tg_exn (c := 511) (by decide +kernel) rfl (D.g15))) va_nil))))))))))
theorem ok__law_classes {w : World} {K : PySem.W.Frag} {mg : Str → Option Value} {base : Heap} (D : Facts K mg) (TB : TbsOk K mg base T) : Fn PP w K mg base T CX0 1 (He.ga K "_law_classes") m__law_classes := by
  obtain ⟨fd, F⟩ := D.d__law_classes
  exact Fn.plain (fo__law_classes D TB F) (F.bindsN fun _ _ _ _ _ _ us hl => match us, hl with | [_], _ => rfl) F.kp
/-! law -/
theorem sc_law : FnScope ["_law_script", "_law_stream", "_law_turn", "_law_x", "_law_errors", "_law_n", "_law_e", "_law_held_here", "_law_k"] ["_law_script"] (defScope s_law) := ⟨rfl, rfl, rfl, by decide +kernel, rfl, by decide +kernel, by decide +kernel⟩
def t_law : TSv :=
  (bCons (sSet 1 (eCall m__law_start (aCons (eVar 0) aNil)))
    (bCons (sFor (iRange1 (aCons (eC (.int 4)) aNil)) (gNm 2) (bCons (sSet 3 (eCall m__law_pick (aCons (eVar 1) (aCons (eLst (aCons (eC .non) (aCons (eC (.int 5)) (aCons (eOp1 negF (eC (.int 1))) (aCons (eC (.str [104])) (aCons (eLst (aCons (eVar 2) aNil)) (aCons (eTup (aCons (eC (.int 1)) (aCons (eLst (aCons (eC (.int 2)) aNil)) aNil))) (aCons (eFrz (eDisp [((eC (.str [104])), (eC (.int 1)))])) (aCons (eC (.bl true)) (aCons (eOp2 powF (eC (.int 10)) (eC (.int 30))) aNil)))))))))) aNil))))
    (sFor (iAny (eLst (aCons (eCall m__law_made_by_place (aCons (eVar 3) aNil)) (aCons (eCall m__law_made_by_name (aCons (eVar 3) aNil)) aNil)))) (gNm 4) (bCons (sIf (tVal (eCB (g1 anyF) (aCons (eFrz (eLc (iAny (eCall m__law_held (aCons (eVar 4) aNil))) (gNm 7) tYesV (eOr (eOp2 neX (eVar 7) (eVar 3)) (eOp2 neF (eIsi [.bl] (eVar 7)) (eIsi [.bl] (eVar 3)))) [7])) aNil))) (sRet (eC (.bl false))) bNil)
    (sFor (iEnum (aCons (eVar 4) aNil)) (gTp (gsCons (gNm 5) (gsCons (gNm 6) gsNil))) (bCons (sIf (tOrV (tNotV (tVal (eIsi [(.xb 514)] (eVar 6)))) (tNotV (tVal (eIsi [.ver] (eVar 6))))) (sRet (eC (.bl false))) bNil)
    (sIf (tVal (eOp2 neF (eCall m__law_classes (aCons (eVar 6) aNil)) (eFrz (eLc (iRange1 (aCons (eC (.int 14)) aNil)) (gNm 8) tYesV (eOp2 eqF (eVar 8) (eVar 5)) [8])))) (sRet (eC (.bl false))) bNil)))))))
    (sRet (eC (.bl true)))))
def m_law : FnM := fnM 1 9 t_law
theorem fo_law {w : World} {K : PySem.W.Frag} {mg : Str → Option Value} {base : Heap} (D : Facts K mg) (TB : TbsOk K mg base T) {fd : FuncData} (F : FunD K "law" "law" (defArgs s_law) (defBody s_law) (defScope s_law) [] [] (He.ga K "law") fd) : FnOk PP w K mg base CX0 4 (He.ga K "law") fd ["_law_script"] (spM K T m_law) := fn_v0 F sc_law fun cdv A outer s H E E' hr =>
    (vb_cons (vs_set (i := 1) sc_law.nd rfl (Or.inl rfl) (ve_call (ok__law_start D TB) (hr.mono (by first | decide | omega)) rfl (D.g0) passV (va_cons (ve_var (i := 0) rfl (Or.inl rfl)) va_nil)))
    (vb_cons (vs_for PassesOwn.never rfl (vi_range1 rfl (D.n1) (va_cons ve_int va_nil)) (vg_name (i := 2) sc_law.nd rfl (Or.inl rfl)) (vb_cons (vs_set (i := 3) sc_law.nd rfl (Or.inr rfl) (ve_call (ok__law_pick D TB) (hr.mono (by first | decide | omega)) rfl (D.g1) passV (va_cons (ve_var (i := 1) rfl (Or.inl rfl)) (va_cons (ve_lst (va_cons ve_non (va_cons ve_int (va_cons (ve_un un_neg o1_neg ve_int) (va_cons (ve_str (by decide +kernel)) (va_cons (ve_lst (va_cons (ve_var (i := 2) rfl (Or.inl rfl)) va_nil)) (va_cons (ve_tup (va_cons ve_int (va_cons (ve_lst (va_cons ve_int va_nil)) va_nil))) (va_cons (ve_frz (ve_disp (vps_cons (ve_str (by decide +kernel)) ve_int vps_nil))) (va_cons ve_bl (va_cons (ve_op op_pow o2_pow ve_int ve_int) va_nil)))))))))) va_nil))))
    (vb_one (vs_for PassesOwn.never rfl (vi_any (ve_lst (va_cons (ve_call (ok__law_made_by_place D TB) (hr.mono (by first | decide | omega)) rfl (D.g18) passV (va_cons (ve_var (i := 3) rfl (Or.inr (Or.inl rfl))) va_nil)) (va_cons (ve_call (ok__law_made_by_name D TB) (hr.mono (by first | decide | omega)) rfl (D.g3) passV (va_cons (ve_var (i := 3) rfl (Or.inr (Or.inl rfl))) va_nil)) va_nil)))) (vg_name (i := 4) sc_law.nd rfl (Or.inl rfl)) (vb_cons (vs_if (vt_val (ve_callB (cr_any rfl) on_any rfl (D.n4) (by decide +kernel) (va_cons (ve_frz (ve_lc (own := [("_law_held_here", 7)]) rfl sc_law.nd (vi_any (ve_call (ok__law_held D TB) (hr.mono (by first | decide | omega)) rfl (D.g19) passV (va_cons (ve_var (i := 4) rfl (Or.inl rfl)) va_nil))) (blkOk_by (by kernel_rfl)) (by decide) (fun _ _ _ _ _ => (vgw_name (i := 7) sc_law.nd rfl (Or.inl rfl))) (fun _ _ _ _ _ => vts_nil) (fun _ _ _ _ _ => (ve_or (ve_cmp (or_neX (hu64 hr)) o2_neX (ve_var (i := 7) rfl (Or.inl rfl)) (ve_var (i := 3) rfl (Or.inr (Or.inl rfl))) (nomark _)) (ve_one (ve_cmp (or_ne (hu64 hr)) o2_ne (ve_isi D.tab D.isi rfl (D.n5) (ve_var (i := 7) rfl (Or.inl rfl)) (tg_ty rfl (D.n6) (by decide +kernel))) (ve_isi D.tab D.isi rfl (D.n5) (ve_var (i := 3) rfl (Or.inr (Or.inl rfl))) (tg_ty rfl (D.n6) (by decide +kernel))) (nomark _))))))) va_nil))) (vb_one (vs_ret ve_bl)) vb_nil)
    (vb_one (vs_for PassesOwn.never rfl (vi_enum rfl (D.n7) (va_cons (ve_var (i := 4) rfl (Or.inl rfl)) va_nil)) (vg_tup rfl (vgs_cons (vg_name (i := 5) sc_law.nd rfl (Or.inr rfl)) (vgs_cons (vg_name (i := 6) sc_law.nd rfl (Or.inl rfl)) vgs_nil)) (gsCons_len (gsCons_len (fun _ _ _ h => gsNil_len h)))) (vb_cons (vs_if (VW.vt (vw_or (vt_not (vt_val (ve_isi D.tab D.isi rfl (D.n5) (ve_var (i := 6) rfl (Or.inl rfl)) (tg_xb (c := 514) (by decide +kernel) rfl (D.g20))))) (vw_or1 (vt_not (vt_val (ve_isi D.tab D.isi rfl (D.n5) (ve_var (i := 6) rfl (Or.inl rfl)) (tg_ver rfl (D.n8) (by decide +kernel) (by decide +kernel)))))))) (vb_one (vs_ret ve_bl)) vb_nil)
    (vb_one (vs_if (vt_cmp (or_ne (hu64 hr)) o2_ne (ve_call (ok__law_classes D TB) (hr.mono (by first | decide | omega)) rfl (D.g21) passV (va_cons (ve_var (i := 6) rfl (Or.inl rfl)) va_nil)) (ve_frz (ve_lc (own := [("_law_k", 8)]) rfl sc_law.nd (vi_range1 rfl (D.n1) (va_cons ve_int va_nil)) (blkOk_by (by kernel_rfl)) (by decide) (fun _ _ _ _ _ => (vgw_name (i := 8) sc_law.nd rfl (Or.inl rfl))) (fun _ _ _ _ _ => vts_nil) (fun _ _ _ _ _ => (ve_cmp (or_eq (hu64 hr)) o2_eq (ve_var (i := 8) rfl (Or.inl rfl)) (ve_var (i := 5) rfl (Or.inr (Or.inl rfl))) (nomark _))))) (nomark _)) (vb_one (vs_ret ve_bl)) vb_nil))))))))))
    (vb_one (vs_ret ve_bl))))
end LB

set_option Elab.async false
set_option linter.all false
set_option maxRecDepth 100000
set_option maxHeartbeats 4000000
set_option autoImplicit false
namespace LBE
open LB
open PySem PySem.Spec PyProof.Rows L2 VS LX LamX
def exL (K : PySem.W.Frag) : List Bool := [tabB K T, isiB K T, exmB K T [500, 501, 502, 503, 504, 505, 506, 507, 508, 509, 510, 511, 512, 513], xcB PP K xd_0, xcB PP K xd_1, xcB PP K xd_2, xcB PP K xd_3, xcB PP K xd_4, xcB PP K xd_5, xcB PP K xd_6, xcB PP K xd_7, xcB PP K xd_8, xcB PP K xd_9, xcB PP K xd_10, xcB PP K xd_11, xcB PP K xd_12, xcB PP K xd_13]
def exB (K : PySem.W.Frag) : Bool := (exL K).all id
theorem exB_at {K : PySem.W.Frag} (h : exB K = true) (i : Nat) {b : Bool} (e : (exL K)[i]? = some b) : b = true := List.all_eq_true.mp h b (List.mem_of_getElem? e)
def fa0 : List He.Fa := [.glo "_law_start", .glo "_law_pick", .glo "_law_draw", .glo "_law_made_by_name", .glo "Misfit", .glo "NoBlock", .glo "BadBlock", .glo "BadSlot", .glo "BadNumber", .glo "BadKind", .glo "BadPrice", .glo "BadText", .glo "BadHand", .glo "BadHands", .glo "NoKind", .glo "NoRest", .glo "BadChances", .glo "UnlikeLengths", .glo "_law_made_by_place", .glo "_law_held", .glo "BoughError", .glo "_law_classes", .free "list", .free "range", .free "int", .free "len", .free "any", .free "isinstance", .free "bool", .free "enumerate"]
def fa1 : List He.Fa := [.free "ValueError", .glo "law"]
def fa : List He.Fa := fa0 ++ fa1
def dd__law_start : He.DefD := ⟨("_law_start", none), "_law_start", "_law_start", defArgs s__law_start, defBody s__law_start, defScope s__law_start, [], []⟩
def dd__law_draw : He.DefD := ⟨("_law_draw", none), "_law_draw", "_law_draw", defArgs s__law_draw, defBody s__law_draw, defScope s__law_draw, [], []⟩
def dd__law_pick : He.DefD := ⟨("_law_pick", none), "_law_pick", "_law_pick", defArgs s__law_pick, defBody s__law_pick, defScope s__law_pick, [], []⟩
def dd__law_made_by_name : He.DefD := ⟨("_law_made_by_name", none), "_law_made_by_name", "_law_made_by_name", defArgs s__law_made_by_name, defBody s__law_made_by_name, defScope s__law_made_by_name, [], []⟩
def dd__law_made_by_place : He.DefD := ⟨("_law_made_by_place", none), "_law_made_by_place", "_law_made_by_place", defArgs s__law_made_by_place, defBody s__law_made_by_place, defScope s__law_made_by_place, [], []⟩
def dd__law_held : He.DefD := ⟨("_law_held", none), "_law_held", "_law_held", defArgs s__law_held, defBody s__law_held, defScope s__law_held, [], []⟩
def dd__law_classes : He.DefD := ⟨("_law_classes", none), "_law_classes", "_law_classes", defArgs s__law_classes, defBody s__law_classes, defScope s__law_classes, [], []⟩
def dd_law : He.DefD := ⟨("law", none), "law", "law", defArgs s_law, defBody s_law, defScope s_law, [], []⟩
def fn0 : List He.DefD := [dd__law_start, dd__law_draw, dd__law_pick, dd__law_made_by_name, dd__law_made_by_place, dd__law_held, dd__law_classes, dd_law]
def fn : List He.DefD := fn0
def xl : List XcD := [xd_0, xd_1, xd_2, xd_3, xd_4, xd_5, xd_6, xd_7, xd_8, xd_9, xd_10, xd_11, xd_12, xd_13]
def mkl : List Str := T.mks
theorem facts {K : PySem.W.Frag} {h : Heap} {mg : Str → Option Value} (X : K.In h) (G : h.Ns mainGlobals mg) (c : SaysX exB fa fn K) (xv0 : xl.map (fun d => d.got K) = xl.map XcD.val) : Facts K mg := by
  have xv : ∀ (i : Nat) {d : XcD}, xl[i]? = some d → d.got K = d.val := fun i _ e => xv_at xv0 e
  have x : ∀ (i : Nat) {b : Bool}, (exL K)[i]? = some b → b = true := fun i _ e => exB_at c.2 i e
  exact ⟨tabB_ok (by decide +kernel) (x 0 rfl),
    isiB_ok (x 1 rfl),
    exmB_ok (x 2 rfl),
    xcB_ok (x 3 rfl) (xv 0 rfl),
    xcB_ok (x 4 rfl) (xv 1 rfl),
    xcB_ok (x 5 rfl) (xv 2 rfl),
    xcB_ok (x 6 rfl) (xv 3 rfl),
    xcB_ok (x 7 rfl) (xv 4 rfl),
    xcB_ok (x 8 rfl) (xv 5 rfl),
    xcB_ok (x 9 rfl) (xv 6 rfl),
    xcB_ok (x 10 rfl) (xv 7 rfl),
    xcB_ok (x 11 rfl) (xv 8 rfl),
    xcB_ok (x 12 rfl) (xv 9 rfl),
    xcB_ok (x 13 rfl) (xv 10 rfl),
    xcB_ok (x 14 rfl) (xv 11 rfl),
    xcB_ok (x 15 rfl) (xv 12 rfl),
    xcB_ok (x 16 rfl) (xv 13 rfl),
    He.glo_ok X G (c.1.fact 0 rfl),
    He.glo_ok X G (c.1.fact 1 rfl),
    He.glo_ok X G (c.1.fact 2 rfl),
    He.glo_ok X G (c.1.fact 3 rfl),
    He.glo_ok X G (c.1.fact 4 rfl),
    He.glo_ok X G (c.1.fact 5 rfl),
    He.glo_ok X G (c.1.fact 6 rfl),
    He.glo_ok X G (c.1.fact 7 rfl),
    He.glo_ok X G (c.1.fact 8 rfl),
    He.glo_ok X G (c.1.fact 9 rfl),
    He.glo_ok X G (c.1.fact 10 rfl),
    He.glo_ok X G (c.1.fact 11 rfl),
    He.glo_ok X G (c.1.fact 12 rfl),
    He.glo_ok X G (c.1.fact 13 rfl),
    He.glo_ok X G (c.1.fact 14 rfl),
    He.glo_ok X G (c.1.fact 15 rfl),
    He.glo_ok X G (c.1.fact 16 rfl),
    He.glo_ok X G (c.1.fact 17 rfl),
    He.glo_ok X G (c.1.fact 18 rfl),
    He.glo_ok X G (c.1.fact 19 rfl),
    He.glo_ok X G (c.1.fact 20 rfl),
    He.glo_ok X G (c.1.fact 21 rfl),
    He.free_ok X G (c.1.fact 22 rfl),
    He.free_ok X G (c.1.fact 23 rfl),
    He.free_ok X G (c.1.fact 24 rfl),
    He.free_ok X G (c.1.fact 25 rfl),
    He.free_ok X G (c.1.fact 26 rfl),
    He.free_ok X G (c.1.fact 27 rfl),
    He.free_ok X G (c.1.fact 28 rfl),
    He.free_ok X G (c.1.fact 29 rfl),
    He.free_ok X G (c.1.fact 30 rfl),
    c.1.def_ 0 (d := dd__law_start) rfl,
    c.1.def_ 1 (d := dd__law_draw) rfl,
    c.1.def_ 2 (d := dd__law_pick) rfl,
    c.1.def_ 3 (d := dd__law_made_by_name) rfl,
    c.1.def_ 4 (d := dd__law_made_by_place) rfl,
    c.1.def_ 5 (d := dd__law_held) rfl,
    c.1.def_ 6 (d := dd__law_classes) rfl,
    c.1.def_ 7 (d := dd_law) rfl⟩
def lo0 : List Str := ["__name__", "BoughError", "BadKind", "NoKind", "BadNumber", "BadSlot", "UnlikeLengths", "BadChances", "NoRest", "BadBlock", "NoBlock", "Misfit", "BadHands", "BadHand", "BadText", "BadPrice", "_law_start", "_law_draw", "_law_pick", "_law_made_by_place", "_law_made_by_name", "_law_held", "_law_classes"]
def loose : List Str := lo0
abbrev R : PySem.W.OpenRow := PySem.W.OpenLaw.row PySem.Challenge.rw_longbough_k25_errors_made
abbrev hk : PySem.W.Hook := hookT 5 exB fa fn xl mkl
def ob (s : PySem.W.SharedT) : AlT := obsT 5 exB fa fn xl mkl (HandSHeadRun.getT s)
theorem ob_eq (s : PySem.W.SharedT) : ob s = hk.obs s.abs := obsT_eq (HandSHeadRun.getT_eq s)
theorem run (w : World) : HandSHeadRun.RunEq R (PySem.W.view R.prog [24]) hk ob 8000 loose w := by
  intro os
  kernel_rfl
theorem main (hm : ∀ ns : List Int, ns.length ≤ 63 → ∃ st, m_law [.f (.scr ns)] [] = .ok (.f (.bl true)) st) : PySem.Challenge.rw_longbough_k25_errors_made.Holds := by
  w_on; o_law
  refine HandSHeadRun.head_any (r := PySem.W.OpenLaw.row PySem.Challenge.rw_longbough_k25_errors_made) (q := PySem.W.view (PySem.W.OpenLaw.row PySem.Challenge.rw_longbough_k25_errors_made).prog [24]) (H := hk) (ob := ob) (M := 8000) (loose := loose) (d := HandSHeadRun.topDef (PySem.W.OpenLaw.row PySem.Challenge.rw_longbough_k25_errors_made).prog 24) (kwd := []) ob_eq
    (by kernel_rfl) (fun s => by kernel_rfl) run (by kernel_rfl) (by kernel_rfl) (by kernel_rfl) (by rfl) (by first | assumption | decide +kernel) (by decide +kernel) ⟨rfl, rfl, rfl, rfl, rfl, by decide +kernel⟩ ?hw ?hc
  case hw => w_witness2
  case hc =>
    refine LamX.walk_ofTsE (l := PySem.Challenge.rw_longbough_k25_errors_made) (n := 63) (k := 4) (x := "_law_script") (CX := fun _ => L2.CX0) rfl (by decide) (by kernel_rfl) ⟨rfl, by decide, by decide⟩ ?F (fun _ _ _ _ _ z => z)
    intro w mg fl h Y G hmg0
    obtain ⟨K, KX, c, xv, tt⟩ := Y
    have hmg : mg ("law" : PySem.Str) = some (.ref fl) := by
      have e : (HandSHeadRun.topDef (PySem.W.OpenLaw.row PySem.Challenge.rw_longbough_k25_errors_made).prog 24).name = ("law" : PySem.Str) := by kernel_rfl
      rw [← e]
      exact hmg0
    have D := facts KX G c xv
    have e := hmg.symm.trans (He.glo_ok KX G (c.1.fact 31 (f := .glo "law") rfl))
    cases e
    obtain ⟨fd, F⟩ := D.d_law
    have b := FunD.bindsA (ps := ["_law_script"]) F fun _ _ _ _ _ _ us hl => match us, hl with | [_], _ => rfl
    exact ⟨K, KX, law_atT (T := T) (m := m_law) tt rfl (fun s v => b s [v] rfl) hm fun base TB => fo_law D TB F⟩
end LBE

set_option Elab.async false
set_option linter.all false
set_option maxRecDepth 100000
set_option maxHeartbeats 4000000
set_option autoImplicit false
/-! M0: equality of data; loops and comprehensions over plain data; calls and the store. -/
namespace VS
open PySem PySem.Spec PyProof.Rows L2
/-! ### == of data without bools -/
mutual
def okE : Nat → F → Bool
  | _, .non => true
  | _, .int _ => true
  | _, .str s => s.all (· < 0x110000)
  | n + 1, .lst xs => okEs n xs
  | n + 1, .tup xs => okEs n xs
  | _, _ => false
def okEs : Nat → List F → Bool
  | _, [] => true
  | n, x :: xs => okE n x && okEs n xs
end
mutual
theorem okE_toD : ∀ (n : Nat) (x : F), okE n x = true → ∃ d, toD x = some d ∧ d.canLay0 = true ∧ d.depth ≤ n
  | _, .non, _ => ⟨.none, rfl, by simp [PyData.canLay0], by simp [PyData.depth]⟩
  | _, .int i, _ => ⟨.int i, rfl, by simp [PyData.canLay0], by simp [PyData.depth]⟩
  | _, .str s, h => ⟨.str (S s), rfl, by
      have h : s.all (· < 0x110000) = true := by simpa [okE] using h
      simp only [PyData.canLay0, PyData.strOk, S]
      simpa using h, by simp [PyData.depth]⟩
  | n + 1, .lst xs, h => by
    obtain ⟨ds, e, c, dp⟩ := okEs_toD n xs (by simpa [okE] using h)
    exact ⟨.list ds, by simp [toD, e], by simpa [PyData.canLay0] using c, by simp only [PyData.depth]; omega⟩
  | n + 1, .tup xs, h => by
    obtain ⟨ds, e, c, dp⟩ := okEs_toD n xs (by simpa [okE] using h)
    exact ⟨.tuple ds, by simp [toD, e], by simpa [PyData.canLay0] using c, by simp only [PyData.depth]; omega⟩
  | 0, .lst xs, h => by simp [okE] at h
  | 0, .tup xs, h => by simp [okE] at h
  | 0, .bl _, h => by simp [okE] at h
  | 0, .dct _, h => by simp [okE] at h
  | 0, .dlk _ _, h => by simp [okE] at h
  | 0, .ktp _, h => by simp [okE] at h
  | 0, .obj _ _, h => by simp [okE] at h
  | 0, .scr _, h => by simp [okE] at h
  | _ + 1, .bl _, h => by simp [okE] at h
  | _ + 1, .dct _, h => by simp [okE] at h
  | _ + 1, .dlk _ _, h => by simp [okE] at h
  | _ + 1, .ktp _, h => by simp [okE] at h
  | _ + 1, .obj _ _, h => by simp [okE] at h
  | _ + 1, .scr _, h => by simp [okE] at h
theorem okEs_toD : ∀ (n : Nat) (xs : List F), okEs n xs = true → ∃ ds, toDs xs = some ds ∧ PyData.canLayAll0 ds = true ∧ PyData.depthAll ds ≤ n
  | _, [], _ => ⟨[], rfl, by simp [PyData.canLayAll0], by simp [PyData.depthAll]⟩
  | n, x :: xs, h => by
    have h : okE n x = true ∧ okEs n xs = true := by simpa [okEs] using h
    obtain ⟨d, e, c, dp⟩ := okE_toD n x h.1
    obtain ⟨ds, e', c', dp'⟩ := okEs_toD n xs h.2
    exact ⟨d :: ds, by simp [toDs, e, e'], by simp [PyData.canLayAll0, c, c'], by simp only [PyData.depthAll]; omega⟩
end
mutual
theorem eqv_iff : ∀ (n m : Nat) (x y : F) (a b : PyData), okE n x = true → okE m y = true → toD x = some a → toD y = some b → (PyData.eqv a b = true ↔ x = y)
  | n, m, .non, y, a, b, hx, hy, ha, hb => by
    cases ha
    cases y with
    | non => cases hb; simp [PyData.eqv]
    | int i => cases hb; simp [PyData.eqv]
    | str s => cases hb; simp [PyData.eqv]
    | lst ys => simp only [toD] at hb; obtain ⟨ds, e, rfl⟩ := opt_map_some hb; simp [PyData.eqv]
    | tup ys => simp only [toD] at hb; obtain ⟨ds, e, rfl⟩ := opt_map_some hb; simp [PyData.eqv]
    | _ => cases m <;> simp [okE] at hy
  | n, m, .int i, y, a, b, hx, hy, ha, hb => by
    cases ha
    cases y with
    | non => cases hb; simp [PyData.eqv]
    | int i => cases hb; simp [PyData.eqv]
    | str s => cases hb; simp [PyData.eqv]
    | lst ys => simp only [toD] at hb; obtain ⟨ds, e, rfl⟩ := opt_map_some hb; simp [PyData.eqv]
    | tup ys => simp only [toD] at hb; obtain ⟨ds, e, rfl⟩ := opt_map_some hb; simp [PyData.eqv]
    | _ => cases m <;> simp [okE] at hy
  | n, m, .str s, y, a, b, hx, hy, ha, hb => by
    cases ha
    cases y with
    | non => cases hb; simp [PyData.eqv]
    | int i => cases hb; simp [PyData.eqv]
    | str t => cases hb; simp [PyData.eqv, S]
    | lst ys => simp only [toD] at hb; obtain ⟨ds, e, rfl⟩ := opt_map_some hb; simp [PyData.eqv]
    | tup ys => simp only [toD] at hb; obtain ⟨ds, e, rfl⟩ := opt_map_some hb; simp [PyData.eqv]
    | _ => cases m <;> simp [okE] at hy
  | n + 1, m, .lst xs, y, a, b, hx, hy, ha, hb => by
    simp only [toD] at ha
    obtain ⟨ds, e, rfl⟩ := opt_map_some ha
    cases y with
    | non => cases hb; simp [PyData.eqv]
    | int i => cases hb; simp [PyData.eqv]
    | str t => cases hb; simp [PyData.eqv]
    | lst ys =>
      simp only [toD] at hb
      obtain ⟨es, e', rfl⟩ := opt_map_some hb
      cases m with
      | zero => simp [okE] at hy
      | succ m =>
        have := eqvs_iff n m xs ys ds es (by simpa [okE] using hx) (by simpa [okE] using hy) e e'
        simpa [PyData.eqv] using this
    | tup ys => simp only [toD] at hb; obtain ⟨ds, e, rfl⟩ := opt_map_some hb; simp [PyData.eqv]
    | _ => cases m <;> simp [okE] at hy
  | n + 1, m, .tup xs, y, a, b, hx, hy, ha, hb => by
    simp only [toD] at ha
    obtain ⟨ds, e, rfl⟩ := opt_map_some ha
    cases y with
    | non => cases hb; simp [PyData.eqv]
    | int i => cases hb; simp [PyData.eqv]
    | str t => cases hb; simp [PyData.eqv]
    | tup ys =>
      simp only [toD] at hb
      obtain ⟨es, e', rfl⟩ := opt_map_some hb
      cases m with
      | zero => simp [okE] at hy
      | succ m =>
        have := eqvs_iff n m xs ys ds es (by simpa [okE] using hx) (by simpa [okE] using hy) e e'
        simpa [PyData.eqv] using this
    | lst ys => simp only [toD] at hb; obtain ⟨ds, e, rfl⟩ := opt_map_some hb; simp [PyData.eqv]
    | _ => cases m <;> simp [okE] at hy
  | 0, m, .lst xs, y, a, b, hx, hy, ha, hb => by simp [okE] at hx
  | 0, m, .tup xs, y, a, b, hx, hy, ha, hb => by simp [okE] at hx
  | 0, _, .bl _, _, _, _, h, _, _, _ => by simp [okE] at h
  | 0, _, .dct _, _, _, _, h, _, _, _ => by simp [okE] at h
  | 0, _, .dlk _ _, _, _, _, h, _, _, _ => by simp [okE] at h
  | 0, _, .ktp _, _, _, _, h, _, _, _ => by simp [okE] at h
  | 0, _, .obj _ _, _, _, _, h, _, _, _ => by simp [okE] at h
  | 0, _, .scr _, _, _, _, h, _, _, _ => by simp [okE] at h
  | _ + 1, _, .bl _, _, _, _, h, _, _, _ => by simp [okE] at h
  | _ + 1, _, .dct _, _, _, _, h, _, _, _ => by simp [okE] at h
  | _ + 1, _, .dlk _ _, _, _, _, h, _, _, _ => by simp [okE] at h
  | _ + 1, _, .ktp _, _, _, _, h, _, _, _ => by simp [okE] at h
  | _ + 1, _, .obj _ _, _, _, _, h, _, _, _ => by simp [okE] at h
  | _ + 1, _, .scr _, _, _, _, h, _, _, _ => by simp [okE] at h
theorem eqvs_iff : ∀ (n m : Nat) (xs ys : List F) (as bs : List PyData), okEs n xs = true → okEs m ys = true → toDs xs = some as → toDs ys = some bs → (PyData.eqvAll as bs = true ↔ xs = ys)
  | n, m, [], [], as, bs, hx, hy, ha, hb => by cases ha; cases hb; simp [PyData.eqvAll]
  | n, m, [], y :: ys, as, bs, hx, hy, ha, hb => by
    cases ha
    obtain ⟨d, e1, e2⟩ := opt_bind_some hb
    obtain ⟨ds, e3, rfl⟩ := opt_map_some e2
    simp [PyData.eqvAll]
  | n, m, x :: xs, [], as, bs, hx, hy, ha, hb => by
    cases hb
    obtain ⟨d, e1, e2⟩ := opt_bind_some ha
    obtain ⟨ds, e3, rfl⟩ := opt_map_some e2
    simp [PyData.eqvAll]
  | n, m, x :: xs, y :: ys, as, bs, hx, hy, ha, hb => by
    have hx : okE n x = true ∧ okEs n xs = true := by simpa [okEs] using hx
    have hy : okE m y = true ∧ okEs m ys = true := by simpa [okEs] using hy
    obtain ⟨d, e1, e2⟩ := opt_bind_some ha
    obtain ⟨ds, e3, rfl⟩ := opt_map_some e2
    obtain ⟨d', e1', e2'⟩ := opt_bind_some hb
    obtain ⟨ds', e3', rfl⟩ := opt_map_some e2'
    have h1 := eqv_iff n m x y d d' hx.1 hy.1 e1 e1'
    have h2 := eqvs_iff n m xs ys ds ds' hx.2 hy.2 e3 e3'
    simp [PyData.eqvAll, h1, h2]
end
theorem okE_shaped {n : Nat} (hn : n ≤ 64) {x : F} (h : okE n x = true) : ∃ d, toD x = some d ∧ SeqAt.shaped d = true := by
  obtain ⟨d, e, c, dp⟩ := okE_toD n x h
  exact ⟨d, e, by unfold SeqAt.shaped; rw [c]; simp; omega⟩
/-- == of such data is equality -/
theorem eqD_iff {n m : Nat} (hn : n ≤ 64) (hm : m ≤ 64) {x y : F} (hx : okE n x = true) (hy : okE m y = true) : ∃ b, eqD x y = some b ∧ (b = true ↔ x = y) := by
  obtain ⟨d, e, s⟩ := okE_shaped hn hx
  obtain ⟨d', e', s'⟩ := okE_shaped hm hy
  refine ⟨PyData.eqv d d', ?_, eqv_iff n m x y d d' hx hy e e'⟩
  unfold eqD
  simp [e, e', s, s']
theorem eqB_iff {n m : Nat} (hn : n ≤ 64) (hm : m ≤ 64) {x y : F} (hx : okE n x = true) (hy : okE m y = true) : ∃ b, eqB x y = some b ∧ (b = true ↔ x = y) := by
  unfold eqB
  split
  · exact ⟨_, rfl, by simp⟩
  · exact ⟨_, rfl, by simp⟩
  · exact ⟨_, rfl, by simp⟩
  · exact eqD_iff hn hm hx hy
open Classical in
theorem eqB_ok {n m : Nat} (hn : n ≤ 64) (hm : m ≤ 64) {x y : F} (hx : okE n x = true) (hy : okE m y = true) : eqB x y = some (decide (x = y)) := by
  obtain ⟨b, e, h⟩ := eqB_iff hn hm hx hy
  rw [e]
  congr 1
  rw [Bool.eq_iff_iff]
  simpa using h
theorem eqB_no {n m : Nat} (hn : n ≤ 64) (hm : m ≤ 64) {x y : F} (hx : okE n x = true) (hy : okE m y = true) (h : x ≠ y) : eqB x y = some false := by
  obtain ⟨b, e, h'⟩ := eqB_iff hn hm hx hy
  cases b with
  | false => exact e
  | true => exact absurd (h'.mp rfl) h
theorem eqB_yes {n : Nat} (hn : n ≤ 64) {x : F} (hx : okE n x = true) : eqB x x = some true := by
  obtain ⟨b, e, h'⟩ := eqB_iff hn hn hx hx
  rw [e, h'.mpr rfl]
/-! ### the store and calls -/
abbrev Cl (st : Store) : Prop := clean st.length st = true
theorem below_mono {b c : Nat} (h : b ≤ c) : ∀ {x : W}, x.below b = true → x.below c = true
  | .f _, _ => rfl
  | .loc n, q => by
    have : n < b := of_decide_eq_true q
    exact decide_eq_true (by omega)
theorem cell_below_mono {b c : Nat} (h : b ≤ c) {x : Cell} (q : x.below b = true) : x.below c = true := by
  cases x with
  | lstW xs => exact List.all_eq_true.mpr fun w hw => below_mono h (List.all_eq_true.mp q w hw)
  | ins _ fs => exact List.all_eq_true.mpr fun w hw => below_mono h (List.all_eq_true.mp q w hw)
  | _ => rfl
theorem Cl.push {st : Store} (h : Cl st) (xs : List F) : Cl (st ++ [.lstF xs]) := by
  unfold Cl clean at h ⊢
  rw [List.all_append, Bool.and_eq_true]
  refine ⟨List.all_eq_true.mpr fun c hc => cell_below_mono (by simp) (List.all_eq_true.mp h c hc), by simp [Cell.below]⟩
theorem retW_tmp {st : Store} (h : Cl st) (x : F) (t : Store) : retW st.length (.f x) (st ++ t) = .ok (.f x) st := by
  unfold retW
  rw [List.take_left]
  rw [show clean st.length st = true from h]
/-! ### comprehensions -/
end VS

set_option Elab.async false
set_option linter.all false
set_option maxRecDepth 100000
set_option maxHeartbeats 4000000
set_option autoImplicit false
/-! T1: typed programs, and how mirrors refine to them: data, stores, expressions. -/
namespace TL
open VS
open L2 (atI ixN)

/-! ### data -/
class En (α : Type) where
  e : α → F
/-- one sign -/
structure Ch where
  c : Nat
deriving DecidableEq
structure T3 (α β γ : Type) where
  a : α
  b : β
  c : γ
deriving DecidableEq
structure T4 (α β γ δ : Type) where
  a : α
  b : β
  c : γ
  d : δ
deriving DecidableEq
structure T5 (α β γ δ ε : Type) where
  a : α
  b : β
  c : γ
  d : δ
  e : ε
deriving DecidableEq
/-- a tuple of any length -/
structure Tu (α : Type) where
  l : List α
deriving DecidableEq
structure Dc (κ ν : Type) where
  l : List (κ × ν)
deriving DecidableEq
/-- the script -/
structure Sc where
  l : List Int
instance : En Int := ⟨F.int⟩
instance : En Bool := ⟨F.bl⟩
instance : En Unit := ⟨fun _ => F.non⟩
instance : En F := ⟨id⟩
instance : En Ch := ⟨fun c => F.str [c.c]⟩
instance : En Sc := ⟨fun s => F.scr s.l⟩
instance {α : Type} [En α] : En (List α) := ⟨fun l => F.lst (l.map En.e)⟩
instance : En (List Nat) := ⟨F.str⟩
instance {α : Type} [En α] : En (Option α) := ⟨fun o => match o with
  | none => F.non
  | some a => En.e a⟩
instance {α β : Type} [En α] [En β] : En (α × β) := ⟨fun p => F.tup [En.e p.1, En.e p.2]⟩
instance {α β γ : Type} [En α] [En β] [En γ] : En (T3 α β γ) := ⟨fun p => F.tup [En.e p.a, En.e p.b, En.e p.c]⟩
instance {α β γ δ : Type} [En α] [En β] [En γ] [En δ] : En (T4 α β γ δ) := ⟨fun p => F.tup [En.e p.a, En.e p.b, En.e p.c, En.e p.d]⟩
instance {α β γ δ ε : Type} [En α] [En β] [En γ] [En δ] [En ε] : En (T5 α β γ δ ε) := ⟨fun p => F.tup [En.e p.a, En.e p.b, En.e p.c, En.e p.d, En.e p.e]⟩
instance {α : Type} [En α] : En (Tu α) := ⟨fun t => F.tup (t.l.map En.e)⟩
instance {κ ν : Type} [En κ] [En ν] : En (Dc κ ν) := ⟨fun d => F.dct (d.l.map fun p => (En.e p.1, En.e p.2))⟩
abbrev w_ {α : Type} [En α] (a : α) : W := W.f (En.e a)
/-! ### programs -/
inductive O (σ α : Type) where
  | ok (a : α) (s : σ) | ex (c : Nat) (fs : List (Nat × F)) (s : σ) | no
abbrev P (α : Type) := O Unit α
def O.bind {σ α β : Type} (o : O σ α) (k : α → σ → O σ β) : O σ β := match o with
  | .ok a s => k a s
  | .ex c fs s => .ex c fs s
  | .no => .no
def O.up {σ α : Type} (p : P α) (s : σ) : O σ α := match p with
  | .ok a _ => .ok a s
  | .ex c fs _ => .ex c fs s
  | .no => .no
def ofO {σ α : Type} (o : Option α) (s : σ) : O σ α := match o with
  | some a => .ok a s
  | none => .no
theorem bind_ok {σ α β : Type} (a : α) (s : σ) (k : α → σ → O σ β) : O.bind (.ok a s) k = k a s := rfl
theorem ofO_some {σ α : Type} (a : α) (s : σ) : ofO (some a) s = .ok a s := rfl
theorem bind_assoc {σ α β γ : Type} (o : O σ α) (k : α → σ → O σ β) (j : β → σ → O σ γ) : (o.bind k).bind j = o.bind fun a s => (k a s).bind j := by cases o <;> rfl
theorem bind_pure {σ α : Type} (o : O σ α) : (o.bind fun a s => .ok a s) = o := by cases o <;> rfl

/-! ### frames -/
/-- how a state stands in a store -/
structure Wr (σ : Type) where
  put : σ → Store → Store
  len : ∀ s s' r, (put s r).length = (put s' r).length
  cl : ∀ s s' r, Cl (put s r) → Cl (put s' r)
  app : ∀ s r t, put s (r ++ t) = put s r ++ t
structure Bs {σ : Type} (wr : Wr σ) where
  rest : Store
  cl : ∀ s, Cl (wr.put s rest)
  b : Nat
  len : ∀ s, (wr.put s rest).length = b
abbrev Bs.st {σ : Type} {wr : Wr σ} (B : Bs wr) (s : σ) : Store := wr.put s B.rest
def lk : List (Nat × W) → Nat → Option W
  | [], _ => none
  | (j, w) :: G, i => match Nat.beq j i with
    | true => some w
    | false => lk G i
structure Ok (b n : Nat) (G : List (Nat × W)) (cs : List (Nat × Cell)) (env : Env) (r : Store) : Prop where
  len : env.length = n
  cl : clean (b + r.length) r = true
  nd : (cs.map Prod.fst).Nodup
  cell : ∀ k c, (k, c) ∈ cs → r[k]? = some c
  var : ∀ i w, lk G i = some w → env[i]? = some (some w)
section
variable {σ : Type} {wr : Wr σ} {b n : Nat} {G G' : List (Nat × W)} {cs cs' : List (Nat × Cell)} {env : Env} {r : Store} {B : Bs wr} {s s' : σ}
theorem below_all {b c : Nat} (h : b ≤ c) {st : Store} (q : clean b st = true) : clean c st = true :=
  List.all_eq_true.mpr fun x hx => cell_below_mono h (List.all_eq_true.mp q x hx)
theorem Bs.clean (B : Bs wr) (s : σ) : clean B.b (B.st s) = true := by
  have := B.cl s
  unfold Cl at this
  rw [B.len s] at this
  exact this
theorem Ok.Cl (h : Ok B.b n G cs env r) (s : σ) : Cl (B.st s ++ r) := by
  unfold VS.Cl VS.clean
  rw [List.all_append, List.length_append, B.len s, Bool.and_eq_true]
  exact ⟨below_all (Nat.le_add_right _ _) (B.clean s), h.cl⟩
def Sub (G' G : List (Nat × W)) : Prop := ∀ i w, lk G' i = some w → lk G i = some w
theorem sub_nil : Sub [] G := fun _ _ h => by cases h
theorem sub_cons {i : Nat} {w : W} (h : lk G i = some w) (t : Sub G' G) : Sub ((i, w) :: G') G := fun j u q => by
  unfold lk at q
  cases e : Nat.beq i j with
  | true =>
    rw [e] at q
    cases q
    cases Nat.eq_of_beq_eq_true e
    exact h
  | false => rw [e] at q; exact t j u q
theorem Ok.sub (h : Ok b n G cs env r) (hg : Sub G' G) (hc : cs'.Sublist cs) : Ok b n G' cs' env r :=
  ⟨h.len, h.cl, h.nd.sublist (hc.map _), fun k c q => h.cell k c (hc.subset q), fun i w q => h.var i w (hg i w q)⟩
theorem Ok.set (h : Ok b n G cs env r) {i : Nat} (hi : i < n) (w : W) : Ok b n ((i, w) :: G) cs (env.set i (some w)) r := by
  refine ⟨by simp [h.len], h.cl, h.nd, h.cell, fun j u q => ?_⟩
  unfold lk at q
  cases e : Nat.beq i j with
  | true =>
    rw [e] at q
    cases q
    cases Nat.eq_of_beq_eq_true e
    exact List.getElem?_set_self (by rw [h.len]; exact hi)
  | false =>
    rw [e] at q
    have hij : i ≠ j := fun z => by subst z; rw [Nat.beq_refl] at e; cases e
    rw [List.getElem?_set_ne hij]
    exact h.var j u q
/-- a cell more, behind all -/
theorem Ok.push (h : Ok b n G cs env r) {c : Cell} (hc : c.below (b + r.length) = true) : Ok b n G cs env (r ++ [c]) := by
  refine ⟨h.len, ?_, h.nd, fun k d q => ?_, h.var⟩
  · unfold clean
    rw [List.all_append, Bool.and_eq_true]
    refine ⟨below_all (by simp) h.cl, ?_⟩
    simp only [List.all_cons, List.all_nil, Bool.and_true]
    exact cell_below_mono (by simp) hc
  · exact get_app (h.cell k d q)
theorem Ok.cell_lt (h : Ok b n G cs env r) {k : Nat} {c : Cell} (q : (k, c) ∈ cs) : k < r.length := (List.getElem?_eq_some_iff.mp (h.cell k c q)).1
theorem Ok.pop (h : Ok b n G cs env (r ++ [.dead])) : True := trivial
theorem Ok.new (h : Ok b n G cs env r) {c : Cell} (hc : c.below (b + r.length) = true) : Ok b n G ((r.length, c) :: cs) env (r ++ [c]) := by
  have p := h.push hc
  refine ⟨p.len, p.cl, ?_, fun k d q => ?_, p.var⟩
  · rw [List.map_cons, List.nodup_cons]
    refine ⟨fun hm => ?_, h.nd⟩
    obtain ⟨⟨k, d⟩, hkd, e⟩ := List.mem_map.mp hm
    have := h.cell_lt hkd
    have e : k = r.length := e
    omega
  · rcases List.mem_cons.mp q with q | q
    · cases q
      exact last_get _ _
    · exact p.cell k d q
theorem nodup_set_fst {cs : List (Nat × Cell)} {p k : Nat} {c c' : Cell} (hp : cs[p]? = some (k, c)) : (cs.set p (k, c')).map Prod.fst = cs.map Prod.fst := by
  apply List.ext_getElem?
  intro j
  rw [List.getElem?_map, List.getElem?_map, List.getElem?_set]
  by_cases hj : p = j
  · subst hj
    obtain ⟨hl, e⟩ := List.getElem?_eq_some_iff.mp hp
    simp [hl, hp, e]
  · simp [hj]
/-- the cell at place p of cs is changed -/
theorem Ok.write (h : Ok b n G cs env r) {p k : Nat} {c c' : Cell} (hp : cs[p]? = some (k, c)) (hc : c'.below (b + r.length) = true) : Ok b n G (cs.set p (k, c')) env (r.set k c') := by
  have hm : (k, c) ∈ cs := List.mem_of_getElem? hp
  have hk := h.cell_lt hm
  refine ⟨h.len, ?_, by rw [nodup_set_fst hp]; exact h.nd, fun j d q => ?_, h.var⟩
  · rw [List.length_set]
    refine List.all_eq_true.mpr fun x hx => ?_
    rcases List.mem_or_eq_of_mem_set hx with hx | hx
    · exact List.all_eq_true.mp h.cl x hx
    · subst hx; exact hc
  · obtain ⟨i, hi, e⟩ := List.getElem_of_mem q
    rw [List.length_set] at hi
    rw [List.getElem_set] at e
    by_cases hpi : p = i
    · rw [if_pos hpi] at e
      cases e
      rw [List.getElem?_set_self hk]
    · rw [if_neg hpi] at e
      have hjk : k ≠ j := fun z => by
        subst z
        have hpl := (List.getElem?_eq_some_iff.mp hp).1
        have e1 : (cs.map Prod.fst)[p]? = some k := by rw [List.getElem?_map, hp]; rfl
        have e2 : (cs.map Prod.fst)[i]? = some k := by rw [List.getElem?_map, List.getElem?_eq_getElem hi, e]; rfl
        obtain ⟨l1, e1⟩ := List.getElem?_eq_some_iff.mp e1
        obtain ⟨l2, e2⟩ := List.getElem?_eq_some_iff.mp e2
        exact hpi ((List.getElem_inj h.nd).mp (e1.trans e2.symm))
      rw [List.getElem?_set_ne hjk]
      exact h.cell j d (e ▸ List.getElem_mem hi)
end

/-! ### the judgements of expressions -/
section
variable {σ α β γ : Type} {wr : Wr σ}
/-- of a store's upper part: as long, and as clean -/
structure Pr (r r' : Store) : Prop where
  len : r'.length = r.length
  cl : ∀ b, clean b r = true → clean b r' = true
theorem Pr.refl {r : Store} : Pr r r := ⟨rfl, fun _ h => h⟩
theorem Pr.trans {r r1 r2 : Store} (a : Pr r r1) (b : Pr r1 r2) : Pr r r2 := ⟨b.len.trans a.len, fun c h => b.cl c (a.cl c h)⟩
theorem Pr.set {r : Store} {k : Nat} {c : Cell} (h : ∀ b, c.below b = true) : Pr r (r.set k c) := ⟨by simp, fun b q => List.all_eq_true.mpr fun x hx => by
  rcases List.mem_or_eq_of_mem_set hx with hx | hx
  · exact List.all_eq_true.mp q x hx
  · subst hx; exact h b⟩
def Rl (B : Bs wr) (n : Nat) (G : List (Nat × W)) (cs : List (Nat × Cell)) (env : Env) (r0 : Store) (f : α → β) (x : Res β) (o : O σ α) : Prop := match o with
  | .ok a s' => ∃ r', x = .ok (f a) (B.st s' ++ r') ∧ Ok B.b n G cs env r' ∧ Pr r0 r'
  | .ex c fs s' => ∃ r', x = .exc c fs (B.st s' ++ r') ∧ Ok B.b n G [] env r'
  | .no => True
def E [En α] (B : Bs wr) (n : Nat) (G : List (Nat × W)) (cs cs' : List (Nat × Cell)) (t : TEv) (s : σ) (o : O σ α) : Prop :=
  ∀ env r, Ok B.b n G cs env r → Rl B n G cs' env r (fun a => w_ a) (t env (B.st s ++ r)) o
def ET (B : Bs wr) (n : Nat) (G : List (Nat × W)) (cs cs' : List (Nat × Cell)) (t : TTv) (s : σ) (o : O σ Bool) : Prop :=
  ∀ env r, Ok B.b n G cs env r → Rl B n G cs' env r (fun a => a) (t env (B.st s ++ r)) o
/-- what is looked at: data, or a list's cell -/
def EL [En α] (B : Bs wr) (n : Nat) (G : List (Nat × W)) (cs cs' : List (Nat × Cell)) (t : TEv) (s : σ) (o : O σ α) : Prop :=
  ∀ env r, Ok B.b n G cs env r → match o with
    | .ok a s' => ∃ w r', t env (B.st s ++ r) = .ok w (B.st s' ++ r') ∧ Ok B.b n G cs' env r' ∧ Pr r r' ∧ ∀ s'' r'' env'', Ok B.b n G cs' env'' r'' → look (B.st s'' ++ r'') w = some (En.e a)
    | .ex c fs s' => ∃ r', t env (B.st s ++ r) = .exc c fs (B.st s' ++ r') ∧ Ok B.b n G [] env r'
    | .no => True
class Ar (A : Type) where
  ws : A → List W
instance : Ar Unit := ⟨fun _ => []⟩
instance {α A : Type} [En α] [Ar A] : Ar (α × A) := ⟨fun p => w_ p.1 :: Ar.ws p.2⟩
/-- a place in the store -/
structure Rf where
  k : Nat
instance {A : Type} [Ar A] : Ar (Rf × A) := ⟨fun p => W.loc p.1.k :: Ar.ws p.2⟩
/-- the members of a list display -/
instance {α : Type} [En α] : Ar (List α) := ⟨fun l => l.map fun a => w_ a⟩
end
section
variable {σ α β γ δ : Type} {wr : Wr σ} {B : Bs wr} {n : Nat} {G : List (Nat × W)} {cs cs1 cs2 cs3 : List (Nat × Cell)} {env : Env} {r0 : Store} {s : σ}
theorem Rl.bind {f : α → β} {g : γ → δ} {x : Res β} {o : O σ α} {k : β → Store → Res δ} {k' : α → σ → O σ γ} (h : Rl B n G cs1 env r0 f x o)
    (hk : ∀ a s' r', o = .ok a s' → Ok B.b n G cs1 env r' → Pr r0 r' → Rl B n G cs2 env r0 g (k (f a) (B.st s' ++ r')) (k' a s')) : Rl B n G cs2 env r0 g (x.bind k) (o.bind k') := by
  cases o with
  | ok a s' =>
    obtain ⟨r', rfl, ok, hl⟩ := h
    exact hk a s' r' rfl ok hl
  | ex c fs s' => obtain ⟨r', rfl, ok⟩ := h; exact ⟨r', rfl, ok⟩
  | no => trivial
theorem Rl.up {f : α → β} {x : Res β} {o : O σ α} {r1 : Store} (p : Pr r0 r1) (h : Rl B n G cs env r1 f x o) : Rl B n G cs env r0 f x o := by
  cases o with
  | ok a s' => obtain ⟨r', e, k, q⟩ := h; exact ⟨r', e, k, p.trans q⟩
  | ex c fs s' => exact h
  | no => trivial
theorem Rl.mk {f : α → β} {x : Res β} {a : α} {r : Store} (e : x = .ok (f a) (B.st s ++ r)) (ok : Ok B.b n G cs env r) (hl : Pr r0 r) : Rl B n G cs env r0 f x (.ok a s) := ⟨r, e, ok, hl⟩
theorem Rl.opt {f : α → β} {x : Res β} {o : Option α} {r : Store} (e : ∀ a, o = some a → x = .ok (f a) (B.st s ++ r)) (ok : Ok B.b n G cs env r) (hl : Pr r0 r) : Rl B n G cs env r0 f x (ofO o s) := by
  cases o with
  | none => trivial
  | some a => exact ⟨r, e a rfl, ok, hl⟩
variable [En α] [En β] [En γ] [En δ] {ta tb tc te : TEv} {o : O σ α} {o1 : O σ α} {o2 : σ → O σ β} {o3 : σ → O σ γ}
theorem E.el (h : E B n G cs cs1 te s o) : EL B n G cs cs1 te s o := fun env r k => by
  have q := h env r k
  cases o with
  | ok a s' => obtain ⟨r', e, ok, hl⟩ := q; exact ⟨_, r', e, ok, hl, fun _ _ _ _ => rfl⟩
  | ex c fs s' => exact q
  | no => trivial
theorem EL.bind {γ' δ' : Type} {g : γ' → δ'} {k : W → Store → Res δ'} {k' : α → σ → O σ γ'} {env : Env} {r : Store} (h : EL B n G cs cs1 te s o) (ok : Ok B.b n G cs env r)
    (hk : ∀ a s' w r', Ok B.b n G cs1 env r' → Pr r r' → (∀ s'' r'' env'', Ok B.b n G cs1 env'' r'' → look (B.st s'' ++ r'') w = some (En.e a)) → Rl B n G cs2 env r g (k w (B.st s' ++ r')) (k' a s')) :
    Rl B n G cs2 env r g ((te env (B.st s ++ r)).bind k) (o.bind k') := by
  have q := h env r ok
  cases o with
  | ok a s' =>
    obtain ⟨w, r', e, ok', hl, hw⟩ := q
    rw [e]
    exact hk a s' w r' ok' hl hw
  | ex c fs s' => obtain ⟨r', e, ok'⟩ := q; rw [e]; exact ⟨r', rfl, ok'⟩
  | no => trivial
/-! names and constants -/
theorem e_var {i : Nat} {a : α} (h : lk G i = some (w_ a)) : E B n G cs cs (eVar i) s (.ok a s) := fun env r k => by
  refine Rl.mk ?_ k .refl
  unfold eVar
  rw [k.var i _ h]
theorem e_c {x : F} {a : α} (h : x = En.e a) : E B n G cs cs (eC x) s (.ok a s) := fun env r k => by
  subst h
  exact Rl.mk rfl k .refl
theorem e_int {i : Int} : E B n G cs cs (eC (.int i)) s (.ok i s) := e_c rfl
/-! operators -/
def Op2T (g : F → F → Option F) (op : α → β → Option γ) : Prop := ∀ a b c, op a b = some c → g (En.e a) (En.e b) = some (En.e c)
def Op1T (g : F → Option F) (op : α → Option γ) : Prop := ∀ a c, op a = some c → g (En.e a) = some (En.e c)
theorem e_op2 {g : F → F → Option F} {op : α → β → Option γ} (hg : Op2T g op) (h1 : EL B n G cs cs1 ta s o1) (h2 : ∀ s1, EL B n G cs1 cs1 tb s1 (o2 s1)) :
    E B n G cs cs1 (eOp2 g ta tb) s (o1.bind fun a s1 => (o2 s1).bind fun b s2 => ofO (op a b) s2) := fun env r k => by
  refine h1.bind k fun a s1 w r1 k1 hl1 hw => ?_
  refine Rl.up hl1 ?_
  refine (h2 s1).bind k1 fun b s2 u r2 k2 hl2 hu => ?_
  refine Rl.opt (fun c hc => ?_) k2 hl2
  show lk2 g w u _ = _
  unfold lk2
  rw [hw s2 r2 env k2, hu s2 r2 env k2]
  show ofOpt (g (En.e a) (En.e b)) _ = _
  rw [hg a b c hc]
  rfl
/-! tests -/
variable {wa wb : TTv} {p1 : O σ Bool} {p2 : σ → O σ Bool}
theorem t_val {o : O σ Bool} (h : E B n G cs cs1 te s o) : ET B n G cs cs1 (tVal te) s o := fun env r k => by
  have q := h env r k
  show Rl _ _ _ _ _ _ _ ((te env (B.st s ++ r)).bind fun w st1 => asB w st1) o
  cases o with
  | ok a s' => obtain ⟨r', e, ok, hl⟩ := q; rw [e]; exact ⟨r', rfl, ok, hl⟩
  | ex c fs s' => obtain ⟨r', e, ok⟩ := q; rw [e]; exact ⟨r', rfl, ok⟩
  | no => trivial
theorem t_and (h1 : ET B n G cs cs1 wa s p1) (h2 : ∀ s1, ET B n G cs1 cs1 wb s1 (p2 s1)) : ET B n G cs cs1 (tAndV wa wb) s (p1.bind fun b s1 => if b = true then p2 s1 else .ok false s1) := fun env r k => by
  refine (h1 env r k).bind fun b s1 r1 _ k1 hl => ?_
  refine Rl.up hl ?_
  cases b with
  | true => exact h2 s1 env r1 k1
  | false => exact Rl.mk rfl k1 .refl
theorem e_if {o1 o2 : σ → O σ α} (h : ET B n G cs cs1 wa s p1) (h1 : ∀ s1, E B n G cs1 cs2 ta s1 (o1 s1)) (h2 : ∀ s1, E B n G cs1 cs2 tb s1 (o2 s1)) : E B n G cs cs2 (eIf wa ta tb) s (p1.bind fun b s1 => if b = true then o1 s1 else o2 s1) := fun env r k => by
  refine (h env r k).bind fun b s1 r1 _ k1 hl => ?_
  refine Rl.up hl ?_
  cases b with
  | true => exact h1 s1 env r1 k1
  | false => exact h2 s1 env r1 k1
/-! arguments -/
variable {A : Type} [Ar A] {tr : TAv}
/-! attributes, members -/
@[irreducible] def ixS (l : List Nat) (i : Int) : Option Ch := if l.length ≤ 1000000 then (atI l i).map Ch.mk else none
end
end TL

set_option Elab.async false
set_option linter.all false
set_option maxRecDepth 100000
set_option maxHeartbeats 4000000
set_option autoImplicit false
/-! T2: calls, what is walked, comprehensions, statements, defs. -/
namespace TL
open VS
open L2 (atI ixN)

/-! ### defs -/
section
variable {σ R A : Type}
def FnG [Ar A] [En R] (wr : Wr σ) (m : FnM) (d : A → σ → O σ R) : Prop := ∀ rest s a, Cl (wr.put s rest) → match d a s with
  | .ok x s' => m (Ar.ws a) (wr.put s rest) = .ok (w_ x) (wr.put s' rest)
  | .ex c fs s' => ∃ j, m (Ar.ws a) (wr.put s rest) = .exc c fs (wr.put s' rest ++ j) ∧ Cl (wr.put s' rest ++ j)
  | .no => True
end
section
variable {σ α β γ δ R A : Type} {wr : Wr σ} {B : Bs wr} {n : Nat} {G : List (Nat × W)} {cs cs1 cs2 cs3 : List (Nat × Cell)} {env : Env} {s : σ}
variable [En α] [En β] [En γ] [En δ] [En R] [Ar A] {ta tb tc te to : TEv} {tr : TAv} {m : FnM} {o1 : O σ α} {o2 : σ → O σ β}
/-! methods of data -/
/-- bounds by Nat.ble: they get stuck at once where nothing is known -/
def inRg (k : Nat) (i : Int) : Bool := Nat.ble i.natAbs k
def posB (i : Int) : Bool := match i with
  | .ofNat _ => true
  | .negSucc _ => false
theorem inRg_iff {k : Nat} {i : Int} : inRg k i = true ↔ i.natAbs ≤ k := by unfold inRg; rw [Nat.ble_eq]
theorem posB_iff {i : Int} : posB i = true ↔ 0 ≤ i := by cases i <;> simp [posB] <;> omega
@[irreducible] def lenI (i : Int) (s : σ) : O σ Int := ofO (if (posB i && inRg 9223372036854775807 i) = true then some i else none) s
/-! built-in functions -/
theorem looks1 {st : Store} {w : W} {x : F} (h : look st w = some x) : looks st [w] = some [x] := by
  unfold looks looks
  rw [h]; rfl
theorem e_cb1 {g : F → Option F} {op : α → Option γ} (hg : Op1T g op) (h1 : EL B n G cs cs1 ta s o1) : E B n G cs cs1 (eCB (g1 g) (aCons ta aNil)) s (o1.bind fun a s1 => ofO (op a) s1) := fun env r k => by
  have e : eCB (g1 g) (aCons ta aNil) env (B.st s ++ r) = (ta env (B.st s ++ r)).bind fun w st1 => lkN (g1 g) [w] st1 := by
    unfold eCB aCons aNil
    cases ta env (B.st s ++ r) <;> rfl
  rw [e]
  refine h1.bind k fun a s1 w r1 k1 hl1 hw => ?_
  refine Rl.opt (fun c hc => ?_) k1 hl1
  unfold lkN
  rw [looks1 (hw s1 r1 env k1)]
  show ofOpt (g (En.e a)) _ = _
  rw [hg a c hc]; rfl
/-! a cell becomes data -/
/-! ### what is walked -/
def rgI (lo : Int) (n : Nat) : List Int := (List.range n).map fun i => lo + (i : Nat)
def smI (i : Int) : Bool := inRg 4611686018427387903 i
@[irreducible] def rg1 (j : Int) (s : σ) : O σ (List Int) := ofO (if smI j = true then some (rgI 0 j.toNat) else none) s
@[irreducible] def rg2 (i j : Int) (s : σ) : O σ (List Int) := ofO (if smI i = true ∧ smI j = true then some (rgI i (j - i).toNat) else none) s
end
end TL

set_option Elab.async false
set_option linter.all false
set_option maxRecDepth 100000
set_option maxHeartbeats 4000000
set_option autoImplicit false
/-! T3: targets, comprehensions, statements, defs. -/
namespace TL
open VS
open L2 (atI ixN)
section
variable {σ α β γ δ ε R X S : Type} {wr : Wr σ} {B : Bs wr} {n : Nat} {G G' : List (Nat × W)} {cs cs1 cs2 cs3 : List (Nat × Cell)} {env : Env} {s : σ}
/-! ### targets -/
def Holds (G : List (Nat × W)) (env : Env) : Prop := ∀ i w, lk G i = some w → env[i]? = some (some w)
theorem lk_cons (j : Nat) (w : W) (A : List (Nat × W)) (i : Nat) : lk ((j, w) :: A) i = match Nat.beq j i with
    | true => some w
    | false => lk A i := rfl
theorem Ok.holds {b : Nat} {r : Store} (h : Ok b n G cs env r) : Holds G env := h.var
/-! ### comprehensions -/
@[irreducible] def smL (xs : List β) (s : σ) : O σ (List β) := ofO (if xs.length ≤ 1000000 then some xs else none) s
theorem Ok.split {b : Nat} {G : List (Nat × W)} {env : Env} {r : Store} {k : Nat} {c : Cell} (h : Ok b n G ((k, c) :: cs) env r) (hl : r.length = k + 1) : ∃ r0, r = r0 ++ [c] ∧ r0.length = k ∧ (clean (b + k) r0 = true → Ok b n G cs env r0) := by
  have e := h.cell k c (by simp)
  obtain ⟨hk, e⟩ := List.getElem?_eq_some_iff.mp e
  refine ⟨r.take k, ?_, by simp; omega, fun hcl => ?_⟩
  · apply List.ext_getElem?
    intro j
    by_cases hj : j < k
    · rw [List.getElem?_append_left (by simp; omega), List.getElem?_take_of_lt hj]
    · by_cases hj2 : j = k
      · subst hj2
        rw [List.getElem?_append_right (by simp; omega)]
        simp [hk, e, Nat.min_eq_left (Nat.le_of_lt hk)]
      · rw [List.getElem?_eq_none (by omega), List.getElem?_eq_none (by simp; omega)]
  · have hnd := h.nd
    rw [List.map_cons, List.nodup_cons] at hnd
    refine ⟨h.len, by rw [List.length_take, Nat.min_eq_left (by omega)]; exact hcl, hnd.2, fun j d q => ?_, h.var⟩
    have hj : j ≠ k := fun z => hnd.1 (List.mem_map.mpr ⟨(j, d), q, z⟩)
    have hd := h.cell j d (by simp [q])
    have hjl := (List.getElem?_eq_some_iff.mp hd).1
    rw [List.getElem?_take_of_lt (by omega)]
    exact hd
/-- a change above keeps the part below -/
theorem Ok.below {b : Nat} {G G' : List (Nat × W)} {env env' : Env} {r : Store} {k : Nat} {acc acc' : List F} {q : Store} (h : Ok b n G cs env r) (hk : k = r.length) (h2 : Ok b n G' ((k, .lstF acc') :: cs) env' q) (p : Pr (r ++ [.lstF acc]) q) :
    ∃ r1, q = r1 ++ [.lstF acc'] ∧ Pr r r1 ∧ Ok b n G' cs env' r1 := by
  subst hk
  obtain ⟨r1, e, l1, k1⟩ := h2.split (by rw [p.len]; simp)
  subst e
  have pc : ∀ c, clean c r = true → clean c r1 = true := fun c hc => by
    have z := p.cl c (by unfold clean; rw [List.all_append, Bool.and_eq_true]; exact ⟨hc, rfl⟩)
    unfold clean at z
    rw [List.all_append, Bool.and_eq_true] at z
    exact z.1
  exact ⟨r1, rfl, ⟨l1, pc⟩, k1 (pc _ h.cl)⟩
theorem Ok.exc {b : Nat} {G : List (Nat × W)} {cs : List (Nat × Cell)} {env : Env} {r r' : Store} (h : Ok b n G cs env r) (hc : clean (b + r'.length) r' = true) : Ok b n G [] env r' := ⟨h.len, hc, List.nodup_nil, (fun _ _ q => nomatch q), h.var⟩
variable {α' : Type}
end
end TL

set_option Elab.async false
set_option linter.all false
set_option maxRecDepth 100000
set_option maxHeartbeats 4000000
set_option autoImplicit false
/-! T4: statements and defs. -/
namespace TL
open VS
open L2 (atI ixN)
inductive Fl (S R : Type) where
  | nx (s : S) | bk (s : S) | rt (r : R)
section
variable {σ α β γ δ R X S A : Type} {wr : Wr σ}
/-- a block: what it comes to -/
def J (B : Bs wr) (n : Nat) (K : X → σ → SR → Prop) (G : List (Nat × W)) (cs : List (Nat × Cell)) (t : TSv) (s : σ) (o : O σ X) : Prop := ∀ env r, Ok B.b n G cs env r → match o with
  | .ok x s' => K x s' (t env (B.st s ++ r))
  | .ex c fs s' => ∃ r', t env (B.st s ++ r) = .exc c fs (B.st s' ++ r') ∧ clean (B.b + r'.length) r' = true
  | .no => True
/-- a def's body -/
def Kfn [En R] (B : Bs wr) : R → σ → SR → Prop := fun x s sr => (∃ r', sr = .rt (w_ x) (B.st s ++ r')) ∨ ((En.e x : F) = .non ∧ ∃ env' r', sr = .nx env' (B.st s ++ r'))
/-- a join: the names and cells that go on -/
def Kj (B : Bs wr) (n : Nat) (oG : S → List (Nat × W)) (oC : S → List (Nat × Cell)) : S → σ → SR → Prop := fun v s sr => ∃ env' r', sr = .nx env' (B.st s ++ r') ∧ Ok B.b n (oG v) (oC v) env' r'
/-- a loop's body without break and return -/
def Ks (B : Bs wr) (n : Nat) (oG : S → List (Nat × W)) (oC : S → List (Nat × Cell)) : S → σ → SR → Prop := fun v s sr => ∃ env' r', (sr = .nx env' (B.st s ++ r') ∨ sr = .ct env' (B.st s ++ r')) ∧ Ok B.b n (oG v) (oC v) env' r'
def KT (K : X → σ → SR → Prop) : X → σ → SR → Prop := fun x s sr => K x s sr ∧ ∀ env st, sr ≠ .nx env st
/-- what K takes for a return -/
def RetK [En α] (B : Bs wr) (K : X → σ → SR → Prop) (f : α → X) : Prop := ∀ a s r, K (f a) s (.rt (w_ a) (B.st s ++ r))
theorem ret_fn [En R] {B : Bs wr} : RetK B (Kfn (R := R) B) (fun a : R => a) := fun a s r => .inl ⟨r, rfl⟩
theorem ret_t [En α] {B : Bs wr} {K : X → σ → SR → Prop} {f : α → X} (h : RetK B K f) : RetK B (KT K) f := fun a s r => ⟨h a s r, fun _ _ => nofun⟩
/-- what K takes for an end -/
def EndK (B : Bs wr) (n : Nat) (K : X → σ → SR → Prop) (G : List (Nat × W)) (cs : List (Nat × Cell)) (x : X) : Prop := ∀ env r s, Ok B.b n G cs env r → K x s (.nx env (B.st s ++ r))
variable {B : Bs wr} {n : Nat} {G G' : List (Nat × W)} {cs cs1 cs2 cs3 : List (Nat × Cell)} {s : σ} {K : X → σ → SR → Prop} {oG : S → List (Nat × W)} {oC : S → List (Nat × Cell)} {rest t t1 t2 : TSv} {ta tb te : TEv} {wa : TTv} {tr : TAv}
theorem end_j {v : S} (h : Sub (oG v) G) (hc : (oC v).Sublist cs) : EndK B n (Kj B n oG oC) G cs v := fun env r s k => ⟨env, r, rfl, k.sub h hc⟩
/-! a statement whose value is had goes on -/
def RlS (B : Bs wr) (K : X → σ → SR → Prop) (sr : SR) (o : O σ X) : Prop := match o with
  | .ok x s' => K x s' sr
  | .ex c fs s' => ∃ r', sr = .exc c fs (B.st s' ++ r') ∧ clean (B.b + r'.length) r' = true
  | .no => True
theorem Rl.thenS {α β : Type} {env : Env} {r0 : Store} {f : α → β} {x : Res β} {o : O σ α} {k : β → Store → SR} {k' : α → σ → O σ X} (h : Rl B n G cs1 env r0 f x o)
    (hk : ∀ a s' r', o = .ok a s' → Ok B.b n G cs1 env r' → Pr r0 r' → RlS B K (k (f a) (B.st s' ++ r')) (k' a s')) : RlS B K (x.thenS k) (o.bind k') := by
  cases o with
  | ok a s' =>
    obtain ⟨r', rfl, ok, hl⟩ := h
    exact hk a s' r' rfl ok hl
  | ex c fs s' => obtain ⟨r', rfl, ok⟩ := h; exact ⟨r', rfl, ok.cl⟩
  | no => trivial
theorem J.at_ {o : O σ X} (h : J B n K G cs t s o) {env : Env} {r : Store} (k : Ok B.b n G cs env r) : RlS B K (t env (B.st s ++ r)) o := h env r k
theorem J.of {o : O σ X} (h : ∀ env r, Ok B.b n G cs env r → RlS B K (t env (B.st s ++ r)) o) : J B n K G cs t s o := h
theorem j_last {o : O σ X} (h : J B n K G cs (bCons t bNil) s o) : J B n K G cs t s o := fun env r k => by
  have q := h env r k
  have e : bCons t bNil env (B.st s ++ r) = t env (B.st s ++ r) := by
    unfold bCons bNil
    cases t env (B.st s ++ r) <;> rfl
  rw [e] at q
  exact q
theorem j_end {x : X} (h : EndK B n K G cs x) : J B n K G cs bNil s (.ok x s) := fun env r k => h env r s k
/-- a block that never ends normally, and what stands behind it -/
theorem j_term {o : O σ X} (h : J B n (KT K) G cs t s o) : J B n K G cs (bCons t rest) s o := fun env r k => by
  have q := h env r k
  unfold bCons
  cases o with
  | no => trivial
  | ex c fs s' => obtain ⟨r', e, c⟩ := q; rw [e]; exact ⟨r', rfl, c⟩
  | ok x s' =>
    obtain ⟨q1, q2⟩ := q
    cases e : t env (B.st s ++ r) with
    | nx e1 s1 => exact absurd e (q2 e1 s1)
    | _ => rw [e] at q1; exact q1
theorem j_nil {o : O σ X} (h : J B n K G cs rest s o) : J B n K G cs (bCons bNil rest) s o := h
theorem j_ret [En α] {o : O σ α} {f : α → X} (hK : RetK B K f) (h : E B n G cs cs1 te s o) : J B n K G cs (bCons (sRet te) rest) s (o.bind fun a s1 => .ok (f a) s1) := fun env r k => by
  have q : RlS B K (sRet te env (B.st s ++ r)) (o.bind fun a s1 => .ok (f a) s1) := (h env r k).thenS fun a s1 r1 _ k1 p1 => hK a s1 r1
  unfold bCons
  cases o with
  | no => trivial
  | ex c fs s' => obtain ⟨r', e, c⟩ := q; rw [e]; exact ⟨r', rfl, c⟩
  | ok x s' =>
    obtain ⟨r', e, k', p⟩ := h env r k
    have e2 : sRet te env (B.st s ++ r) = .rt (w_ x) (B.st s' ++ r') := by unfold sRet; rw [e]; rfl
    rw [e2]
    exact hK x s' r'
/-! assignments -/
theorem j_set [En α] {i : Nat} {o : O σ α} {k : α → σ → O σ X} (hi : i < n) (h : E B n G cs cs1 te s o) (hr : ∀ a s1, J B n K ((i, w_ a) :: G) cs1 rest s1 (k a s1)) : J B n K G cs (bCons (sSet i te) rest) s (o.bind k) := fun env r q => by
  have e : bCons (sSet i te) rest env (B.st s ++ r) = (te env (B.st s ++ r)).thenS fun w st1 => rest (env.set i (some w)) st1 := by
    unfold bCons sSet
    cases te env (B.st s ++ r) <;> rfl
  rw [e]
  exact (h env r q).thenS fun a s1 r1 _ k1 p1 => hr a s1 _ _ (k1.set hi _)
/-! lists that change -/
@[irreducible] def appO [En α] (l : List α) (a : α) (s : σ) : O σ (List α) := ofO (if small (l.length + 1) = true then some (l ++ [a]) else none) s
@[irreducible] def extO [En α] (l : List α) (a : List α) (s : σ) : O σ (List α) := ofO (if small (l.length + a.length) = true then some (l ++ a) else none) s
@[irreducible] def setO [En α] (l : List α) (i : Int) (a : α) (s : σ) : O σ (List α) := ofO ((ixN l.length i).map fun j => l.set j a) s
/-! if -/
theorem ifD {env : Env} {st : Store} : bCons (sIf wa t1 t2) rest env st = (wa env st).thenS fun b st1 => if b = true then bCons t1 rest env st1 else bCons t2 rest env st1 := by
  unfold bCons sIf
  cases wa env st with
  | ok b st1 => cases b <;> rfl
  | _ => rfl
theorem j_if {o : O σ Bool} {o1 o2 : σ → O σ X} (hc : ET B n G cs cs1 wa s o) (h1 : ∀ s1, J B n K G cs1 (bCons t1 rest) s1 (o1 s1)) (h2 : ∀ s1, J B n K G cs1 (bCons t2 rest) s1 (o2 s1)) : J B n K G cs (bCons (sIf wa t1 t2) rest) s (o.bind fun b s1 => if b = true then o1 s1 else o2 s1) := fun env r q => by
  rw [ifD]
  refine (hc env r q).thenS fun b s1 r1 _ k1 p1 => ?_
  cases b with
  | true => exact h1 s1 env r1 k1
  | false => exact h2 s1 env r1 k1
/-- a block, then the rest of what goes on -/
theorem j_seq {o : O σ S} {k : S → σ → O σ X} (h : J B n (Kj B n oG oC) G cs t s o) (hr : ∀ v s1, J B n K (oG v) (oC v) rest s1 (k v s1)) : J B n K G cs (bCons t rest) s (o.bind k) := fun env r q => by
  have z := h env r q
  unfold bCons
  cases o with
  | no => trivial
  | ex c fs s' => obtain ⟨r', e, k'⟩ := z; rw [e]; exact ⟨r', rfl, k'⟩
  | ok v s1 =>
    obtain ⟨env', r', e, k'⟩ := z
    rw [e]
    exact hr v s1 env' r' k'
/-- both ways go on -/
theorem j_ifJ {o : O σ Bool} {o1 o2 : σ → O σ S} {k : S → σ → O σ X} (hc : ET B n G cs cs1 wa s o) (h1 : ∀ s1, J B n (Kj B n oG oC) G cs1 t1 s1 (o1 s1)) (h2 : ∀ s1, J B n (Kj B n oG oC) G cs1 t2 s1 (o2 s1)) (hr : ∀ v s1, J B n K (oG v) (oC v) rest s1 (k v s1)) :
    J B n K G cs (bCons (sIf wa t1 t2) rest) s (o.bind fun b s1 => (if b = true then o1 s1 else o2 s1).bind k) := fun env r q => by
  rw [ifD]
  refine (hc env r q).thenS fun b s1 r1 _ k1 p1 => ?_
  cases b with
  | true => exact j_seq (h1 s1) hr env r1 k1
  | false => exact j_seq (h2 s1) hr env r1 k1
/-! loops -/
/-! defs -/
def argG : Nat → List W → List (Nat × W)
  | _, [] => []
  | i, w :: ws => (i, w) :: argG (i + 1) ws
theorem argG_get : ∀ (ws : List W) (i j : Nat) (w : W), lk (argG i ws) j = some w → i ≤ j ∧ ws[j - i]? = some w
  | [], i, j, w, h => by cases h
  | u :: ws, i, j, w, h => by
    unfold argG at h
    rw [lk_cons] at h
    cases e : Nat.beq i j with
    | true =>
      rw [e] at h; cases h
      cases Nat.eq_of_beq_eq_true e
      exact ⟨Nat.le_refl _, by simp⟩
    | false =>
      rw [e] at h
      obtain ⟨h1, h2⟩ := argG_get ws (i + 1) j w h
      refine ⟨by omega, ?_⟩
      rw [show j - i = (j - (i + 1)) + 1 from by omega]
      simpa using h2
theorem ok_start {b : Nat} {ws : List W} (hl : ws.length ≤ n) {r : Store} {cs : List (Nat × Cell)} (hr : clean (b + r.length) r = true) (hn : (cs.map Prod.fst).Nodup) (hc : ∀ k c, (k, c) ∈ cs → r[k]? = some c) : Ok b n (argG 0 ws) cs (ws.map some ++ List.replicate (n - ws.length) none) r := by
  refine ⟨by simp; omega, hr, hn, hc, fun i w h => ?_⟩
  obtain ⟨_, h2⟩ := argG_get ws 0 i w h
  have h2 : ws[i]? = some w := by simpa using h2
  have hi := (List.getElem?_eq_some_iff.mp h2).1
  rw [List.getElem?_append_left (by simp; exact hi), List.getElem?_map, h2]
  rfl
def mkB (wr : Wr σ) (rest : Store) (s : σ) (h : Cl (wr.put s rest)) : Bs wr := ⟨rest, fun s' => wr.cl s s' rest h, (wr.put s rest).length, fun s' => wr.len s' s rest⟩
theorem fn_ok [En R] [Ar A] {np : Nat} {d : A → σ → O σ R} (hw : ∀ a : A, (Ar.ws a).length = np) (hn : np ≤ n) (h : ∀ (B : Bs wr) (a : A) (s : σ), J B n (Kfn B) (argG 0 (Ar.ws a)) [] t s (d a s)) : FnG wr (fnM np n t) d := fun rest s a hcl => by
  have z := h (mkB wr rest s hcl) a s ((Ar.ws a).map some ++ List.replicate (n - (Ar.ws a).length) none) [] (ok_start (by rw [hw]; exact hn) (by simp [clean]) (by simp) (fun _ _ q => nomatch q))
  rw [List.append_nil] at z
  have e : fnM np n t (Ar.ws a) (wr.put s rest) = (match t ((Ar.ws a).map some ++ List.replicate (n - (Ar.ws a).length) none) (wr.put s rest) with
      | .rt w st1 => retW (wr.put s rest).length w st1
      | .nx _ st1 => retW (wr.put s rest).length (.f .non) st1
      | .exc c fs st1 => .exc c fs st1
      | _ => .stuck) := by
    unfold fnM runFn
    rw [if_pos (hw a)]
    all_goals (cases t ((Ar.ws a).map some ++ List.replicate (n - (Ar.ws a).length) none) (wr.put s rest) <;> rfl)
  rw [e]
  cases ed : d a s with
  | no => trivial
  | ex c fs s' =>
    rw [ed] at z
    obtain ⟨r', e1, e2⟩ := z
    simp only [show t _ (wr.put s rest) = _ from e1]
    refine ⟨r', rfl, ?_⟩
    have hb := wr.cl s s' rest hcl
    unfold Cl VS.clean at hb ⊢
    rw [List.all_append, Bool.and_eq_true, List.length_append]
    refine ⟨below_all (Nat.le_add_right _ _) hb, ?_⟩
    rw [wr.len s' s rest]
    exact e2
  | ok x s' =>
    rw [ed] at z
    have hb := wr.cl s s' rest hcl
    rcases z with ⟨r', e1⟩ | ⟨e0, env', r', e1⟩
    · simp only [show t _ (wr.put s rest) = _ from e1]
      rw [wr.len s s' rest]
      exact retW_tmp hb _ r'
    · simp only [show t _ (wr.put s rest) = _ from e1]
      rw [wr.len s s' rest]
      have z := retW_tmp hb .non r'
      rw [← e0] at z ⊢
      exact z
end
end TL

set_option Elab.async false
set_option linter.all false
set_option maxRecDepth 100000
set_option maxHeartbeats 4000000
set_option autoImplicit false
/-! T5: objects made as data; the operators. -/
namespace TL
open VS
open L2 (atI ixN)
section
variable {σ α β γ δ R X S A : Type} {wr : Wr σ} {B : Bs wr} {n : Nat} {G G' : List (Nat × W)} {cs cs1 cs2 cs3 : List (Nat × Cell)} {s : σ} {K : X → σ → SR → Prop} {oG : S → List (Nat × W)} {oC : S → List (Nat × Cell)} {rest t t1 t2 : TSv} {ta tb te : TEv} {wa : TTv} {tr : TAv} {T : Tab}
/-! ### __init__ -/
end
end TL

set_option Elab.async false
set_option linter.all false
set_option maxRecDepth 100000
set_option maxHeartbeats 4000000
set_option autoImplicit false
/-! T6: the operators. -/
namespace TL
open VS
open L2 (atI ixN)
section
variable {σ α β γ δ R : Type}
/-! ### numbers -/
theorem o_addI : Op2T addF fun (a b : Int) => some (a + b) := fun a b c h => by cases h; rfl
@[irreducible] def mulO (i j : Int) : Option Int := if (inRg 18446744073709551615 i || (inRg 18446744073709551615 j || Nat.ble (bitsI i + bitsI j) 999999)) = true then some (i * j) else none
theorem o_mulI : Op2T mulF mulO := fun a b c h => by
  unfold mulO at h
  obtain ⟨hs, rfl⟩ := ifSome h
  rw [Bool.or_eq_true, Bool.or_eq_true, inRg_iff, inRg_iff, Nat.ble_eq] at hs
  refine if_pos ?_
  rcases hs with hs | hs | hs
  · exact .inl (by simp only [Bool.and_eq_true, decide_eq_true_eq]; omega)
  · exact .inr (.inl (by simp only [Bool.and_eq_true, decide_eq_true_eq]; omega))
  · exact .inr (.inr (by omega))
theorem mulO_ok {i j : Int} (h : -(2 ^ 64) < i ∧ i < 2 ^ 64 ∨ -(2 ^ 64) < j ∧ j < 2 ^ 64) : mulO i j = some (i * j) := by
  unfold mulO
  refine if_pos ?_
  rw [Bool.or_eq_true, Bool.or_eq_true, inRg_iff, inRg_iff]
  rcases h with h | h
  · exact .inl (by omega)
  · exact .inr (.inl (by omega))
@[irreducible] def divO (i j : Int) : Option Int := if 0 < j ∧ bitsI j < 9000 then some (i / j) else none
theorem o_divI : Op2T fdivF divO := fun a b c h => by
  unfold divO at h
  obtain ⟨hs, rfl⟩ := ifSome h
  exact if_pos hs
theorem log2_64 {n : Nat} (h : n < 2 ^ 64) : n.log2 < 9000 := by
  by_cases q : n = 0
  · subst q; decide
  · have h1 := (Nat.log2_lt q (k := 64)).mpr h
    omega
theorem divO_ok {i j : Int} (h : 0 < j) (h' : j < 2 ^ 64) : divO i j = some (i / j) := by
  unfold divO
  exact if_pos ⟨h, log2_64 (by omega)⟩
@[irreducible] def modO (i j : Int) : Option Int := if 0 < j then some (i % j) else none
theorem o_modI : Op2T modF modO := fun a b c h => by
  unfold modO at h
  obtain ⟨hs, rfl⟩ := ifSome h
  exact if_pos hs
theorem modO_ok {i j : Int} (h : 0 < j) : modO i j = some (i % j) := by
  unfold modO
  exact if_pos h
@[irreducible] def powO (i j : Int) : Option Int := if (posB j && (inRg 1000 j && inRg 18446744073709551615 i)) = true then some (i ^ j.toNat) else none
theorem o_powI : Op2T powF powO := fun a b c h => by
  unfold powO at h
  obtain ⟨hs, rfl⟩ := ifSome h
  rw [Bool.and_eq_true, Bool.and_eq_true, inRg_iff, inRg_iff, posB_iff] at hs
  exact if_pos ⟨hs.1, by omega, by omega⟩
theorem powO_ok {i : Int} {j : Nat} (hj : j ≤ 1000) (hi : i.natAbs < 2 ^ 64) : powO i j = some (i ^ j) := by
  unfold powO
  rw [if_pos (by rw [Bool.and_eq_true, Bool.and_eq_true, inRg_iff, inRg_iff, posB_iff]; omega)]
  rfl
theorem o_gt : Op2T gtF fun (a b : Int) => some (decide (b < a)) := fun a b c h => by cases h; rfl
theorem o_ge : Op2T geF fun (a b : Int) => some (decide (b ≤ a)) := fun a b c h => by cases h; rfl
theorem o_intI : Op1T intF fun (a : Int) => some a := fun a c h => by cases h; rfl
@[irreducible] def lenRg (a : Int) : Option Int := if Nat.ble a.toNat 4611686018427387903 = true then some ((a.toNat : Nat) : Int) else none
/-! ### texts and lists -/
@[irreducible] def addS (a b : List Nat) : Option (List Nat) := if small (a.length + b.length) = true then some (a ++ b) else none
@[irreducible] def addL (a b : List α) : Option (List α) := if small (a.length + b.length) = true then some (a ++ b) else none
@[irreducible] def mulS (a : List Nat) (k : Int) : Option (List Nat) := if decide (-1000000 ≤ k) = true ∧ decide (k ≤ 1000000) = true ∧ small (a.length * k.toNat) = true then some (repS k a) else none
@[irreducible] def mulL (a : List α) (k : Int) : Option (List α) := if decide (-1000000 ≤ k) = true ∧ decide (k ≤ 1000000) = true ∧ small (a.length * k.toNat) = true then some (List.replicate k.toNat a).flatten else none
@[irreducible] def lenS (l : List Nat) : Option Int := if small l.length = true then some (l.length : Int) else none
@[irreducible] def joinS (sep : List Nat) (ts : List (List Nat)) : Option (List Nat) := if small ((ts.map List.length).sum + ts.length * sep.length) = true then some (VS.joinL sep ts) else none
@[irreducible] def sidx (l : List Nat) (c : Ch) : Option Int := match sidxF (.str l) [.str [c.c]] with
  | some (.int i) => some i
  | _ => none
/-! in -/
/-! is None -/
class NN (α : Type) [En α] where
  nn : ∀ a : α, isNF (En.e a) .non = some (.bl false)
instance : NN Int := ⟨fun _ => rfl⟩
instance : NN Bool := ⟨fun _ => rfl⟩
instance : NN Ch := ⟨fun _ => rfl⟩
instance : NN (List Nat) := ⟨fun _ => rfl⟩
instance {α : Type} [En α] : NN (List α) := ⟨fun _ => rfl⟩
instance {α : Type} [En α] : NN (Tu α) := ⟨fun _ => rfl⟩
instance {α β : Type} [En α] [En β] : NN (α × β) := ⟨fun _ => rfl⟩
instance {α β γ : Type} [En α] [En β] [En γ] : NN (T3 α β γ) := ⟨fun _ => rfl⟩
instance {α β γ δ : Type} [En α] [En β] [En γ] [En δ] : NN (T4 α β γ δ) := ⟨fun _ => rfl⟩
/-! equality -/
theorem o_eqI : Op2T eqF fun (a b : Int) => some (decide (a = b)) := fun a b c h => by cases h; rfl
theorem dec_ch (a b : Ch) : decide ([a.c] = [b.c]) = decide (a = b) := by
  obtain ⟨a⟩ := a; obtain ⟨b⟩ := b
  simp
theorem S_beq (a b : List Nat) : (VS.S a == VS.S b) = decide (a = b) := by
  by_cases e : a = b
  · subst e; simp
  · rw [beq_eq_false_iff_ne.mpr (fun q => e (S_inj.mp q)), decide_eq_false e]
/-- data whose == is equality -/
class EqT (α : Type) [En α] [DecidableEq α] where
  d : α → PySem.PyData
  ok : α → Bool
  dep : Nat
  toD : ∀ a, VS.toD (En.e a) = some (d a)
  lay : ∀ a, ok a = true → (d a).canLay0 = true
  depth : ∀ a, (d a).depth ≤ dep
  eqv : ∀ a b, PySem.PyData.eqv (d a) (d b) = decide (a = b)
instance : EqT Int := ⟨.int, fun _ => true, 0, fun _ => rfl, fun _ _ => by simp [PySem.PyData.canLay0], fun _ => by simp [PySem.PyData.depth], fun a b => by simp [PySem.PyData.eqv]; rfl⟩
instance : EqT Bool := ⟨.bool, fun _ => true, 0, fun _ => rfl, fun _ _ => by simp [PySem.PyData.canLay0], fun _ => by simp [PySem.PyData.depth], fun a b => by simp [PySem.PyData.eqv]; rfl⟩
instance : EqT (List Nat) := ⟨fun s => .str (S s), fun s => s.all (· < 0x110000), 0, fun _ => rfl, fun s h => by simp only [PySem.PyData.canLay0, PySem.PyData.strOk, S]; simpa using h, fun _ => by simp [PySem.PyData.depth], fun a b => by simp only [PySem.PyData.eqv]; exact S_beq a b⟩
instance : EqT Ch := ⟨fun s => .str (S [s.c]), fun s => decide (s.c < 0x110000), 0, fun _ => rfl, fun s h => by simp only [PySem.PyData.canLay0, PySem.PyData.strOk, S]; simpa using h, fun _ => by simp [PySem.PyData.depth], fun a b => by rw [← dec_ch]; simp only [PySem.PyData.eqv]; exact S_beq _ _⟩
end
section
variable {α β γ δ : Type} [En α] [DecidableEq α] [EqT α] [En β] [DecidableEq β] [EqT β] [En γ] [DecidableEq γ] [EqT γ] [En δ] [DecidableEq δ] [EqT δ]
theorem toDs_e : ∀ l : List α, toDs (l.map En.e) = some (l.map EqT.d)
  | [] => rfl
  | x :: l => by
    show (VS.toD (En.e x)).bind _ = _
    rw [EqT.toD x]
    show (toDs (l.map En.e)).map _ = _
    rw [toDs_e l]; rfl
theorem lay_all : ∀ l : List α, l.all EqT.ok = true → PySem.PyData.canLayAll0 (l.map EqT.d) = true
  | [], _ => by simp [PySem.PyData.canLayAll0]
  | x :: l, h => by
    rw [List.all_cons, Bool.and_eq_true] at h
    simp [PySem.PyData.canLayAll0, EqT.lay x h.1, lay_all l h.2]
theorem depth_all : ∀ l : List α, PySem.PyData.depthAll (l.map EqT.d) ≤ EqT.dep α
  | [] => by simp [PySem.PyData.depthAll]
  | x :: l => by
    simp only [List.map_cons, PySem.PyData.depthAll]
    have := EqT.depth x
    have := depth_all l
    omega
theorem eqv_all : ∀ l m : List α, PySem.PyData.eqvAll (l.map EqT.d) (m.map EqT.d) = decide (l = m)
  | [], [] => by simp [PySem.PyData.eqvAll]
  | [], _ :: _ => by simp [PySem.PyData.eqvAll]
  | _ :: _, [] => by simp [PySem.PyData.eqvAll]
  | x :: l, y :: m => by
    simp only [List.map_cons, PySem.PyData.eqvAll, EqT.eqv x y, eqv_all l m, List.cons.injEq, Bool.decide_and]
instance : EqT (List α) := ⟨fun l => .list (l.map EqT.d), fun l => l.all EqT.ok, EqT.dep α + 1, fun l => by
    show (toDs (l.map En.e)).map _ = _
    rw [toDs_e]; rfl, fun l h => by simpa [PySem.PyData.canLay0] using lay_all l h, fun l => by
    have := depth_all l
    simp only [PySem.PyData.depth]; omega, fun a b => by simp only [PySem.PyData.eqv]; exact eqv_all a b⟩
instance : EqT (Tu α) := ⟨fun l => .tuple (l.l.map EqT.d), fun l => l.l.all EqT.ok, EqT.dep α + 1, fun l => by
    show (toDs (l.l.map En.e)).map _ = _
    rw [toDs_e]; rfl, fun l h => by simpa [PySem.PyData.canLay0] using lay_all l.l h, fun l => by
    have := depth_all l.l
    simp only [PySem.PyData.depth]; omega, fun a b => by
      simp only [PySem.PyData.eqv]; rw [eqv_all a.l b.l]
      cases a; cases b; simp⟩
instance : EqT (α × β) := ⟨fun p => .tuple [EqT.d p.1, EqT.d p.2], fun p => EqT.ok p.1 && EqT.ok p.2, max (EqT.dep α) (EqT.dep β) + 1, fun p => by
    show (toDs [En.e p.1, En.e p.2]).map _ = _
    simp [toDs, EqT.toD p.1, EqT.toD p.2], fun p h => by
    rw [Bool.and_eq_true] at h
    simp [PySem.PyData.canLay0, PySem.PyData.canLayAll0, EqT.lay _ h.1, EqT.lay _ h.2], fun p => by
    have := EqT.depth p.1; have := EqT.depth p.2
    simp only [PySem.PyData.depth, PySem.PyData.depthAll]; omega, fun a b => by
      obtain ⟨a1, a2⟩ := a; obtain ⟨b1, b2⟩ := b
      simp [PySem.PyData.eqv, PySem.PyData.eqvAll, EqT.eqv]⟩
instance : EqT (T3 α β γ) := ⟨fun p => .tuple [EqT.d p.a, EqT.d p.b, EqT.d p.c], fun p => EqT.ok p.a && (EqT.ok p.b && EqT.ok p.c), max (EqT.dep α) (max (EqT.dep β) (EqT.dep γ)) + 1, fun p => by
    show (toDs [En.e p.a, En.e p.b, En.e p.c]).map _ = _
    simp [toDs, EqT.toD p.a, EqT.toD p.b, EqT.toD p.c], fun p h => by
    rw [Bool.and_eq_true, Bool.and_eq_true] at h
    simp [PySem.PyData.canLay0, PySem.PyData.canLayAll0, EqT.lay _ h.1, EqT.lay _ h.2.1, EqT.lay _ h.2.2], fun p => by
    have := EqT.depth p.a; have := EqT.depth p.b; have := EqT.depth p.c
    simp only [PySem.PyData.depth, PySem.PyData.depthAll]; omega, fun a b => by
      obtain ⟨a1, a2, a3⟩ := a; obtain ⟨b1, b2, b3⟩ := b
      simp [PySem.PyData.eqv, PySem.PyData.eqvAll, EqT.eqv]⟩
@[irreducible] def eqO (a b : α) : Option Bool := if EqT.ok a = true ∧ EqT.ok b = true then some (decide (a = b)) else none
end
/-! slices -/
section
variable {σ α : Type} {wr : Wr σ} {B : Bs wr} {n : Nat} {G : List (Nat × W)} {cs cs1 cs2 cs3 : List (Nat × Cell)} {s : σ} {ta te : TEv} {tl th : TOv}
@[irreducible] def slS (lo hi : Option Int) (l : List Nat) : Option (List Nat) := if small l.length = true then some (cutL l lo hi) else none
end
end TL

set_option Elab.async false
set_option linter.all false
set_option maxRecDepth 100000
set_option maxHeartbeats 4000000
set_option autoImplicit false
/-! T7: further rules; the spring of draws as a state. -/
namespace TL
open VS
open L2 (atI ixN)
section
variable {σ α β γ δ R X S A : Type} {wr : Wr σ} {B : Bs wr} {n : Nat} {G G' : List (Nat × W)} {cs cs1 cs2 cs3 : List (Nat × Cell)} {s : σ} {K : X → σ → SR → Prop} {rest t t1 t2 : TSv} {ta tb te : TEv} {wa : TTv} {tr : TAv} {T : Tab}
theorem j_retI [En R] {K : R → σ → SR → Prop} {o : O σ R} (hK : RetK B K fun a : R => a) (h : E B n G cs cs1 te s o) : J B n K G cs (bCons (sRet te) rest) s o := by
  have q := j_ret (rest := rest) hK h
  rw [bind_pure] at q
  exact q
end
/-! ### the spring -/
structure Sp where
  cells : List Int
  big : Int
  cnt : Int
  mix : Int
def spS (s : Sp) : Store := [.lstF (s.cells.map F.int), .lstW [.loc 0, .f (.int s.big), .f (.int s.cnt), .f (.int s.mix)]]
def wS : Wr Sp := ⟨fun s r => spS s ++ r, fun _ _ _ => by simp [spS], fun s s' r h => by
    unfold Cl clean at h ⊢
    rw [List.all_append, Bool.and_eq_true] at h ⊢
    refine ⟨?_, ?_⟩
    · simp [spS, Cell.below, W.below]
    · have := h.2
      simpa [spS] using this, fun s r t => by simp [List.append_assoc]⟩
/-- the spring as an argument -/
structure Rs where
instance {A : Type} [Ar A] : Ar (Rs × A) := ⟨fun p => W.loc 1 :: Ar.ws p.2⟩
section
variable {α β X A : Type} {B : Bs wS} {n : Nat} {G : List (Nat × W)} {cs cs1 cs2 : List (Nat × Cell)} {s : Sp} {K : X → Sp → SR → Prop} {rest t : TSv} {ta tb te : TEv} {tr : TAv}
theorem sp_at0 (B : Bs wS) (s : Sp) (r : Store) : (B.st s ++ r)[0]? = some (.lstF (s.cells.map F.int)) := rfl
theorem sp_ev {i : Nat} (h : lk G i = some (.loc 1)) {env : Env} {r : Store} (q : Ok B.b n G cs env r) : eVar i env (B.st s ++ r) = .ok (.loc 1) (B.st s ++ r) := by
  unfold eVar
  rw [q.var i _ h]
theorem e_sp1 {i : Nat} (h : lk G i = some (.loc 1)) : E B n G cs cs (eIx (eVar i) (eC (.int 1))) s (.ok s.big s) := fun env r q => by
  refine Rl.mk ?_ q .refl
  unfold eIx
  rw [sp_ev h q]
  rfl
theorem e_sp2 {i : Nat} (h : lk G i = some (.loc 1)) : E B n G cs cs (eIx (eVar i) (eC (.int 2))) s (.ok s.cnt s) := fun env r q => by
  refine Rl.mk ?_ q .refl
  unfold eIx
  rw [sp_ev h q]
  rfl
theorem e_sp3 {i : Nat} (h : lk G i = some (.loc 1)) : E B n G cs cs (eIx (eVar i) (eC (.int 3))) s (.ok s.mix s) := fun env r q => by
  refine Rl.mk ?_ q .refl
  unfold eIx
  rw [sp_ev h q]
  rfl
theorem okEs_int : ∀ l : List Int, okEs 0 (l.map F.int) = true
  | [] => by simp [okEs]
  | x :: l => by simp [okEs, okE, okEs_int l]
theorem ne_nil (l : List Int) : neF (.lst (l.map F.int)) (.lst []) = some (.bl (!l.isEmpty)) := by
  unfold neF
  cases l with
  | nil => rw [show List.map F.int [] = [] from rfl, eqB_yes (n := 1) (by decide) (by simp [okE, okEs])]; rfl
  | cons x r => rw [eqB_no (n := 1) (m := 1) (by decide) (by decide) (by simpa [okE] using okEs_int (x :: r)) (by simp [okE, okEs]) (by simp)]; rfl
theorem t_sp0 {i : Nat} (h : lk G i = some (.loc 1)) : ET B n G cs cs (tVal (eOp2 neF (eIx (eVar i) (eC (.int 0))) (eLst aNil))) s (.ok (!s.cells.isEmpty) s) := fun env r q => by
  refine Rl.mk ?_ q .refl
  unfold tVal eOp2 eIx
  rw [sp_ev h q]
  show (lk2 neF (.loc 0) (.f (.lst [])) (B.st s ++ r)).bind _ = _
  have e : lk2 neF (.loc 0) (.f (.lst [])) (B.st s ++ r) = .ok (.f (.bl (!s.cells.isEmpty))) (B.st s ++ r) := by
    unfold lk2
    show ofOpt ((lookC (some (Cell.lstF (s.cells.map F.int)))).bind fun x => (some (F.lst [])).bind fun y => neF x y) _ = _
    show ofOpt (neF (.lst (s.cells.map F.int)) (.lst [])) _ = _
    rw [ne_nil]; rfl
  rw [e]; rfl
theorem j_sp {i j : Nat} {o : O Sp Int} {up : Sp → Int → Sp} {k : Sp → O Sp X} {ti : Int} (h : lk G i = some (.loc 1)) (he : E B n G cs cs1 te s o)
    (hu : ∀ (s1 : Sp) (a : Int) (r : Store), setI (.f (.int a)) (wS.put s1 r) (.loc 1) (.f (.int ti)) = some (wS.put (up s1 a) r)) (hr : ∀ s1, J B n K G cs1 rest s1 (k s1)) :
    J B n K G cs (bCons (sSub (eVar i) (eC (.int ti)) te) rest) s (o.bind fun a s1 => k (up s1 a)) := fun env r q => by
  have e : bCons (sSub (eVar i) (eC (.int ti)) te) rest env (B.st s ++ r) = (te env (B.st s ++ r)).thenS fun w st1 => (eVar i env st1).thenS fun o st2 => match setI w st2 o (.f (.int ti)) with
      | some st4 => rest env st4
      | none => .stuck := by
    unfold bCons sSub
    cases te env (B.st s ++ r) with
    | ok w st1 =>
      simp only [Res.thenS]
      cases eVar i env st1 with
      | ok o st2 => simp only [eC]; cases setI w st2 o (.f (.int ti)) <;> rfl
      | _ => rfl
    | _ => rfl
  rw [e]
  refine (he env r q).thenS fun a s1 r1 _ k1 p1 => ?_
  rw [sp_ev h k1]
  have e2 : setI (w_ a) (B.st s1 ++ r1) (.loc 1) (.f (.int ti)) = some (B.st (up s1 a) ++ r1) := by
    have := hu s1 a (B.rest ++ r1)
    rw [wS.app, wS.app] at this
    exact this
  simp only [Res.thenS]
  rw [e2]
  exact hr (up s1 a) _ _ k1
theorem j_spPop {i j : Nat} {k : Int → Sp → O Sp X} (hj : j < n) (h : lk G i = some (.loc 1)) (hr : ∀ a s1, J B n K ((j, w_ a) :: G) cs rest s1 (k a s1)) :
    J B n K G cs (bCons (sSet j (eMut false cPopAt (eIx (eVar i) (eC (.int 0))) (aCons (eC (.int 0)) aNil))) rest) s (match s.cells with
      | [] => .no
      | a :: l => k a { s with cells := l }) := fun env r q => by
  cases hs : s.cells with
  | nil => trivial
  | cons a l =>
    have hd : doCell cPopAt 0 [.f (.int 0)] (B.st s ++ r) = .ok (.f (.int a)) (B.st { s with cells := l } ++ r) := by
      have e0 : cPopAt (Cell.lstF ((a :: l).map F.int)) [.f (.int 0)] = some (.f (.int a), .lstF (l.map F.int)) := by
        have e1 : PySem.seqIndex? 0 ((a :: l).map F.int).length = some 0 := by
          unfold PySem.seqIndex?
          simp
        show (if smallI 0 = true then (PySem.seqIndex? 0 ((a :: l).map F.int).length).bind fun k => (((a :: l).map F.int)[k]?).map fun x => (W.f x, Cell.lstF (((a :: l).map F.int).eraseIdx k)) else none) = _
        rw [e1]
        rfl
      unfold doCell
      rw [sp_at0, hs]
      show (match cPopAt (Cell.lstF ((a :: l).map F.int)) [.f (.int 0)] with
        | some (w, c') => Res.ok w ((B.st s ++ r).set 0 c')
        | none => .stuck) = _
      rw [e0]
      rfl
    have e : bCons (sSet j (eMut false cPopAt (eIx (eVar i) (eC (.int 0))) (aCons (eC (.int 0)) aNil))) rest env (B.st s ++ r) = rest (env.set j (some (w_ a))) (B.st { s with cells := l } ++ r) := by
      unfold bCons sSet eMut eIx
      rw [sp_ev h q]
      show (match Res.thenS (if isCell false (B.st s ++ r)[0]? = true then Res.bind (.ok [.f (.int 0)] (B.st s ++ r)) fun ws st2 => doCell cPopAt 0 ws st2 else .stuck) fun w st1 => SR.nx (env.set j (some w)) st1 with
        | .nx env1 st1 => rest env1 st1
        | x => x) = _
      rw [sp_at0]
      show (match Res.thenS (doCell cPopAt 0 [.f (.int 0)] (B.st s ++ r)) fun w st1 => SR.nx (env.set j (some w)) st1 with
        | .nx env1 st1 => rest env1 st1
        | x => x) = _
      rw [hd]
      rfl
    show RlS B K _ _
    rw [e]
    exact hr a { s with cells := l } _ _ (q.set hj _)
end
end TL

set_option Elab.async false
set_option linter.all false
set_option maxRecDepth 100000
set_option maxHeartbeats 4000000
set_option autoImplicit false
/-! T8: the law's own sameness; the law itself. -/
namespace TL
open VS
open L2 (atI ixN)
/-! ### equality of plain data -/
/-! ### the law -/
end TL

set_option Elab.async false
set_option linter.all false
set_option maxRecDepth 100000
set_option maxHeartbeats 4000000
set_option autoImplicit false
/-! T9: parallel assignments, of data and of cells. -/
namespace TL
open VS
open L2 (atI ixN)
section
variable {σ α β γ δ R X S A : Type} {wr : Wr σ} {B : Bs wr} {n : Nat} {G G' : List (Nat × W)} {cs cs1 cs2 cs3 : List (Nat × Cell)} {s : σ} {K : X → σ → SR → Prop} {rest t t1 t2 : TSv} {ta tb te : TEv} {wa : TTv} {tr : TAv} {T : Tab} {fin : List W → TSv} {acc : List W}
end
end TL

set_option Elab.async false
set_option linter.all false
set_option maxRecDepth 100000
set_option maxHeartbeats 4000000
set_option autoImplicit false
/-! T10: dicts, typed. -/
namespace TL
open VS PySem PySem.Spec PyProof.Rows L2
/-- the one or the other -/
inductive Ei (α β : Type) where
  | a (x : α) | b (x : β)
instance {α β : Type} [En α] [En β] : En (Ei α β) := ⟨fun o => match o with
  | .a x => En.e x
  | .b x => En.e x⟩
class Ky (κ : Type) [En κ] where
  key : κ → Key
  ok : ∀ a, keyF (En.e a) = some (key a)
  inj : ∀ a b, key a = key b → a = b
theorem S_inj {a b : List Nat} (h : S a = S b) : a = b := by
  unfold S at h
  injection h with h
  simpa using h
instance : Ky Int := ⟨fun i => .inl i, fun _ => rfl, fun a b h => by injection h⟩
instance : Ky (List Nat) := ⟨fun i => .inr (S i), fun _ => rfl, fun a b h => by injection h with h; exact S_inj h⟩
instance : Ky Ch := ⟨fun i => .inr (S [i.c]), fun _ => rfl, fun a b h => by
  injection h with h
  have := S_inj h
  cases a; cases b
  simp at this
  rw [this]⟩
section
variable {κ ν : Type} [En κ] [En ν] [Ky κ] [DecidableEq κ]
end
section
variable {σ κ ν : Type} {wr : Wr σ} {B : Bs wr} {n : Nat} {G : List (Nat × W)} {cs cs1 cs2 : List (Nat × Cell)} {s : σ} [En κ] [En ν] {ts : List (TEv × TEv)} {tk tv : TEv} {q : σ → O σ (List (κ × ν))}
end
end TL

set_option Elab.async false
set_option linter.all false
set_option maxRecDepth 100000
set_option maxHeartbeats 4000000
set_option autoImplicit false
/-! T11: changes of type inside lists and pairs. -/
namespace TL
open VS PySem PySem.Spec PyProof.Rows L2
end TL

set_option Elab.async false
set_option linter.all false
set_option maxRecDepth 100000
set_option maxHeartbeats 4000000
set_option autoImplicit false
/-! T12: own objects' !=. -/
namespace TL
open VS
section
variable {σ α β : Type} {wr : Wr σ} {B : Bs wr} {n : Nat} {G : List (Nat × W)} {cs cs1 : List (Nat × Cell)} {ta tb : TEv} {s : σ} {m : FnM} [En α] [En β] {o1 : O σ α} {o2 : σ → O σ β}
end
section
variable {β : Type} [En β]
end
section
variable {σ X : Type} {wr : Wr σ} {B : Bs wr} {n : Nat} {K : X → σ → SR → Prop} {G : List (Nat × W)} {cs : List (Nat × Cell)} {rest : TSv} {s : σ} {o : O σ X}
end
/-! names that may be unset -/
section
variable {σ α : Type} {wr : Wr σ} {B : Bs wr} {n : Nat} {G : List (Nat × W)} {cs : List (Nat × Cell)} {s : σ} [En α]
end
end TL

set_option Elab.async false
set_option linter.all false
set_option maxRecDepth 100000
set_option maxHeartbeats 4000000
set_option autoImplicit false
/-! T13: list(..) and str(..), typed; the empty dict. -/
namespace TL
open VS
open L2 (atI ixN)
section
variable {σ α : Type} {wr : Wr σ} {B : Bs wr} {n : Nat} {G : List (Nat × W)} {cs : List (Nat × Cell)} {s : σ}
@[irreducible] def listS (t : List Nat) : Option (List Ch) := if small t.length = true then some (t.map Ch.mk) else none
@[irreducible] def strO (i : Int) : Option (List Nat) := if i.natAbs.log2 < 1920 then some (strI i) else none
end
end TL

set_option Elab.async false
set_option linter.all false
set_option maxRecDepth 100000
set_option maxHeartbeats 4000000
set_option autoImplicit false
/-! T14: cells handed to defs that only look at them; defs that tell a new list. -/
namespace TL
open VS
open L2 (atI ixN)
section
variable {σ α β γ R A : Type} {wr : Wr σ} {B : Bs wr} {n : Nat} {G : List (Nat × W)} {cs cs1 : List (Nat × Cell)} {s : σ}
class Sl (α : Type) [En α] : Prop where
  sc : ∀ a : α, flat (En.e a) = true
instance : Sl Int := ⟨fun _ => by unfold flat; rfl⟩
instance : Sl Bool := ⟨fun _ => by unfold flat; rfl⟩
instance : Sl Unit := ⟨fun _ => by unfold flat; rfl⟩
instance : Sl Ch := ⟨fun _ => by unfold flat; rfl⟩
instance : Sl (List Nat) := ⟨fun _ => by unfold flat; rfl⟩
instance {α : Type} [En α] [Sl α] : Sl (Option α) := ⟨fun o => by
  cases o with
  | none => unfold flat; rfl
  | some a => exact Sl.sc a⟩
theorem flats_map {α : Type} [En α] [Sl α] : ∀ l : List α, flats (l.map En.e) = true
  | [] => by rw [List.map_nil]; unfold flats; rfl
  | a :: l => by rw [List.map_cons]; unfold flats; rw [Sl.sc a, flats_map l]; rfl
instance {α β : Type} [En α] [En β] [Sl α] [Sl β] : Sl (α × β) := ⟨fun p => by
  show flat (.tup [En.e p.1, En.e p.2]) = true
  simp only [flat, flats, Sl.sc, Bool.and_self]⟩
instance {α β γ : Type} [En α] [En β] [En γ] [Sl α] [Sl β] [Sl γ] : Sl (T3 α β γ) := ⟨fun p => by
  show flat (.tup [En.e p.a, En.e p.b, En.e p.c]) = true
  simp only [flat, flats, Sl.sc, Bool.and_self]⟩
instance {α : Type} [En α] [Sl α] : Sl (Tu α) := ⟨fun t => by
  show flat (.tup (t.l.map En.e)) = true
  unfold flat
  exact flats_map t.l⟩
end
end TL
namespace TL
open VS
open L2 (atI ixN)
section
variable {σ α β γ R A X : Type} {wr : Wr σ} {B : Bs wr} {n : Nat} {G : List (Nat × W)} {cs cs1 cs2 : List (Nat × Cell)} {s : σ} {K : X → σ → SR → Prop} {rest t : TSv} {te tc to : TEv} {tr : TAv} {m : FnM}
end
end TL

set_option Elab.async false
set_option linter.all false
set_option maxRecDepth 100000
set_option maxHeartbeats 4000000
set_option autoImplicit false
/-! T15: objects whose lists are cells: while they are made. -/
namespace TL
open VS
open L2 (atI ixN)
section
variable {σ α β γ R A X : Type} {wr : Wr σ} {B : Bs wr} {n : Nat} {G : List (Nat × W)} {cs cs1 cs2 : List (Nat × Cell)} {s : σ} {K : X → σ → SR → Prop} {rest t : TSv} {ta tb te tc to : TEv} {tr : TAv} {m : FnM} {T : Tab}
/-- the fields of an object, some of them cells -/
inductive OF (b : Nat) (cs : List (Nat × Cell)) : List (Nat × W) → List (Nat × F) → Prop
  | nil : OF b cs [] []
  | val {i : Nat} {x : F} {fs : List (Nat × W)} {xs : List (Nat × F)} : OF b cs fs xs → OF b cs ((i, .f x) :: fs) ((i, x) :: xs)
  | cell {i k : Nat} {ys : List F} {fs : List (Nat × W)} {xs : List (Nat × F)} : (k, Cell.lstF ys) ∈ cs → OF b cs fs xs → OF b cs ((i, .loc (b + k)) :: fs) ((i, .lst ys) :: xs)
/-! several fields at once -/
/-! the end of __init__ -/
end
end TL

set_option Elab.async false
set_option linter.all false
set_option maxRecDepth 100000
set_option maxHeartbeats 4000000
set_option autoImplicit false
/-! T16: thing in object, xs[::-1], xs.count, xs.insert(0, x). -/
namespace TL
open VS
open L2 (atI ixN)
section
variable {σ α β γ R A X : Type} {wr : Wr σ} {B : Bs wr} {n : Nat} {G : List (Nat × W)} {cs cs1 cs2 : List (Nat × Cell)} {s : σ} {K : X → σ → SR → Prop} {rest t : TSv} {ta tb te tc to : TEv} {tr : TAv} {m : FnM} {T : Tab}
end
end TL

set_option Elab.async false
set_option linter.all false
set_option maxRecDepth 100000
set_option maxHeartbeats 4000000
set_option autoImplicit false
/-! T17: data of any kind; lists that hold other lists' cells. -/
namespace TL
open VS
open L2 (atI ixN)
/-! ### data of any kind read as typed -/
class De (α : Type) [En α] where
  d : F → Option α
  de : ∀ x a, d x = some a → (En.e a : F) = x
  ed : ∀ a : α, d (En.e a) = some a
def deI : F → Option Int
  | .int i => some i
  | _ => none
def deB : F → Option Bool
  | .bl i => some i
  | _ => none
def deS : F → Option (List Nat)
  | .str i => some i
  | _ => none
def deC : F → Option Ch
  | .str [c] => some ⟨c⟩
  | _ => none
def deU : F → Option Unit
  | .non => some ()
  | _ => none
instance : De Int := ⟨deI, fun x a h => (by cases x <;> first | (cases h; rfl) | cases h), fun _ => rfl⟩
instance : De Bool := ⟨deB, fun x a h => (by cases x <;> first | (cases h; rfl) | cases h), fun _ => rfl⟩
instance : De Unit := ⟨deU, fun x a h => (by cases x <;> first | (cases h; rfl) | cases h), fun _ => rfl⟩
instance : De F := ⟨some, fun x a h => by cases h; rfl, fun _ => rfl⟩
theorem deC_de (x : F) (a : Ch) (h : deC x = some a) : (En.e a : F) = x := by
  unfold deC at h
  split at h
  · cases h; rfl
  · cases h
instance : De Ch := ⟨deC, deC_de, fun _ => rfl⟩
def mapD {α : Type} (f : F → Option α) : List F → Option (List α)
  | [] => some []
  | x :: xs => (f x).bind fun a => (mapD f xs).map (a :: ·)
theorem mapD_de {α : Type} [En α] [De α] : ∀ (xs : List F) (l : List α), mapD De.d xs = some l → l.map En.e = xs
  | [], l, h => by cases h; rfl
  | x :: xs, l, h => by
    obtain ⟨a, e1, h⟩ := opt_bind_some (show (De.d x).bind (fun a => (mapD De.d xs).map (a :: ·)) = some l from h)
    obtain ⟨l', e2, rfl⟩ := opt_map_some h
    rw [List.map_cons, De.de x a e1, mapD_de xs l' e2]
theorem mapD_ed {α : Type} [En α] [De α] : ∀ l : List α, mapD (De.d (α := α)) (l.map En.e) = some l
  | [] => rfl
  | a :: l => by
    show (De.d (En.e a : F)).bind (fun a => (mapD De.d (l.map En.e)).map (a :: ·)) = some (a :: l)
    rw [De.ed, mapD_ed l]; rfl
def deL {α : Type} (f : F → Option α) : F → Option (List α)
  | .lst xs => mapD f xs
  | _ => none
def deT {α : Type} (f : F → Option α) : F → Option (Tu α)
  | .tup xs => (mapD f xs).map Tu.mk
  | _ => none
def deP {α β : Type} (f : F → Option α) (g : F → Option β) : F → Option (α × β)
  | .tup [x, y] => (f x).bind fun a => (g y).map fun b => (a, b)
  | _ => none
theorem deL_de {α : Type} [En α] [De α] (x : F) (a : List α) (h : deL De.d x = some a) : (F.lst (a.map En.e) : F) = x := by
  cases x with
  | lst xs => rw [mapD_de xs a h]
  | _ => cases h
instance {α : Type} [En α] [De α] : De (List α) := ⟨deL De.d, deL_de, fun a => mapD_ed a⟩
instance : De (List Nat) := ⟨deS, fun x a h => (by cases x <;> first | (cases h; rfl) | cases h), fun _ => rfl⟩
theorem deT_de {α : Type} [En α] [De α] (x : F) (a : Tu α) (h : deT De.d x = some a) : (En.e a : F) = x := by
  cases x with
  | tup xs =>
    obtain ⟨l, e, rfl⟩ := opt_map_some (show (mapD De.d xs).map Tu.mk = some a from h)
    show F.tup (l.map En.e) = _
    rw [mapD_de xs l e]
  | _ => cases h
theorem deT_ed {α : Type} [En α] [De α] (a : Tu α) : deT De.d (En.e a) = some a := by
  show (mapD De.d (a.l.map En.e)).map Tu.mk = some a
  rw [mapD_ed]; rfl
instance {α : Type} [En α] [De α] : De (Tu α) := ⟨deT De.d, deT_de, deT_ed⟩
theorem deP_de {α β : Type} [En α] [En β] [De α] [De β] (x : F) (a : α × β) (h : deP De.d De.d x = some a) : (En.e a : F) = x := by
  unfold deP at h
  split at h
  · rename_i x y
    obtain ⟨u, e1, h⟩ := opt_bind_some h
    obtain ⟨v, e2, rfl⟩ := opt_map_some h
    show F.tup [En.e u, En.e v] = _
    rw [De.de x u e1, De.de y v e2]
  · cases h
theorem deP_ed {α β : Type} [En α] [En β] [De α] [De β] (a : α × β) : deP De.d De.d (En.e a) = some a := by
  show (De.d (En.e a.1 : F)).bind (fun x => (De.d (En.e a.2 : F)).map fun b => (x, b)) = some a
  rw [De.ed, De.ed]; rfl
instance {α β : Type} [En α] [En β] [De α] [De β] : De (α × β) := ⟨deP De.d De.d, deP_de, deP_ed⟩
/-- a list or a tuple of two things -/
structure P2 where
  il : Bool
  a : F
  b : F
instance : En P2 := ⟨fun p => match p.il with
  | true => F.lst [p.a, p.b]
  | false => F.tup [p.a, p.b]⟩
def deP2 (x : F) : Option P2 := match x with
  | .tup [a, b] => some ⟨false, a, b⟩
  | .lst [a, b] => some ⟨true, a, b⟩
  | _ => none
theorem deP2_de (x : F) (a : P2) (h : deP2 x = some a) : (En.e a : F) = x := by
  unfold deP2 at h
  split at h
  · cases h; rfl
  · cases h; rfl
  · cases h
theorem deP2_ed (a : P2) : deP2 (En.e a) = some a := by
  obtain ⟨il, a, b⟩ := a
  cases il <;> rfl
instance : De P2 := ⟨deP2, deP2_de, deP2_ed⟩
/-! ### operations on data of any kind -/
section
variable {σ α β γ R A X : Type} {wr : Wr σ} {B : Bs wr} {n : Nat} {G : List (Nat × W)} {cs cs1 cs2 : List (Nat × Cell)} {s : σ} {K : X → σ → SR → Prop} {rest t : TSv} {ta tb te tc to : TEv} {tr : TAv} {m : FnM} {T : Tab}
/-! targets: pairs of any kind -/
/-! lists that hold cells -/
/-- what a mixed list holds, as data -/
inductive OFL (b : Nat) (cs : List (Nat × Cell)) : List W → List F → Prop
  | nil : OFL b cs [] []
  | val {x : F} {fs : List W} {xs : List F} : OFL b cs fs xs → OFL b cs (.f x :: fs) (x :: xs)
  | cell {k : Nat} {ys : List F} {fs : List W} {xs : List F} : (k, Cell.lstF ys) ∈ cs → OFL b cs fs xs → OFL b cs (.loc (b + k) :: fs) (.lst ys :: xs)
end
end TL
namespace TL
open VS
section
variable {σ α : Type} {wr : Wr σ} {B : Bs wr} {n : Nat} {G : List (Nat × W)} {cs cs1 : List (Nat × Cell)} {s : σ} {te : TEv}
end
end TL
namespace TL
open VS
section
variable {σ α R : Type} {wr : Wr σ} {B : Bs wr} {n : Nat} {G : List (Nat × W)} {cs cs1 : List (Nat × Cell)} {s : σ} {te : TEv} {m : FnM}
end
end TL

set_option Elab.async false
set_option linter.all false
set_option maxRecDepth 100000
set_option maxHeartbeats 4000000
set_option autoImplicit false
/-! T18: dicts that change, dict comprehensions. -/
namespace TL
open VS
open L2 (atI ixN)
section
variable {σ κ ν β X : Type} {wr : Wr σ} {B : Bs wr} {n : Nat} {G : List (Nat × W)} {cs cs1 cs2 : List (Nat × Cell)} {s : σ} [En κ] [En ν] {ts : List (TEv × TEv)} {q : σ → O σ (List (κ × ν))} {K : X → σ → SR → Prop} {rest : TSv} {ta tb te : TEv} {tr : TAv} {fin : List W → TSv} {acc : List W}
/-! comprehensions -/
end
end TL
namespace TL
open VS
section
variable {σ : Type} {wr : Wr σ} {B : Bs wr} {n : Nat} {G : List (Nat × W)} {cs cs1 : List (Nat × Cell)} {s : σ} {ta tb tc : TEv}
def rgD (hi : Int) (n : Nat) : List Int := (List.range n).map fun i => hi - (i : Nat)
@[irreducible] def rg3 (i j : Int) (s : σ) : O σ (List Int) := ofO (if smI i = true ∧ smI j = true then some (rgD i (i - j).toNat) else none) s
end
end TL
namespace TL
open VS
end TL

set_option Elab.async false
set_option linter.all false
set_option maxRecDepth 100000
set_option maxHeartbeats 4000000
set_option autoImplicit false
/-! T19: raise; what is refused, told. -/
namespace TL
open VS
open L2 (atI ixN)
section
variable {σ α β R A X : Type} {wr : Wr σ} {B : Bs wr} {n : Nat} {K : X → σ → SR → Prop} {G : List (Nat × W)} {cs cs1 : List (Nat × Cell)} {s : σ} {te to tb : TEv} {tr : TAv} {rest : TSv} {m : FnM}
/-- .. that may be let out, the cells kept -/
def EX (B : Bs wr) (n : Nat) (G : List (Nat × W)) (cs : List (Nat × Cell)) (t : TEv) (s : σ) (o : O σ α) : Prop :=
  ∀ env r, Ok B.b n G cs env r → match o with
    | .ok _ s' => ∃ w r1, t env (B.st s ++ r) = .ok w (B.st s' ++ r1) ∧ Ok B.b n G cs env r1 ∧ Pr r r1
    | .ex c fs s' => ∃ r1 j, t env (B.st s ++ r) = .exc c fs (B.st s' ++ (r1 ++ j)) ∧ Ok B.b n G cs env r1 ∧ Pr r r1
    | .no => True
end
end TL

set_option Elab.async false
set_option linter.all false
set_option maxRecDepth 100000
set_option maxHeartbeats 4000000
set_option autoImplicit false
/-! T20: exceptions without a field; try: return ask() / except C: return text. -/
namespace TL
open VS
open L2 (atI ixN)
section
variable {σ α β R A X : Type} {wr : Wr σ} {B : Bs wr} {n : Nat} {K : X → σ → SR → Prop} {G : List (Nat × W)} {cs cs1 : List (Nat × Cell)} {s : σ} {te to tb : TEv} {tr : TAv} {rest : TSv} {m : FnM}
/-- as EX, the value known -/
def EXV [En α] (B : Bs wr) (n : Nat) (G : List (Nat × W)) (cs : List (Nat × Cell)) (t : TEv) (s : σ) (o : O σ α) : Prop :=
  ∀ env r, Ok B.b n G cs env r → match o with
    | .ok a s' => ∃ r1, t env (B.st s ++ r) = .ok (w_ a) (B.st s' ++ r1) ∧ Ok B.b n G cs env r1 ∧ Pr r r1
    | .ex c fs s' => ∃ r1 j, t env (B.st s ++ r) = .exc c fs (B.st s' ++ (r1 ++ j)) ∧ Ok B.b n G cs env r1 ∧ Pr r r1
    | .no => True
theorem EXV.x [En α] {o : O σ α} (h : EXV B n G cs tb s o) : EX B n G cs tb s o := fun env r k => by
  have z := h env r k
  cases o with
  | no => trivial
  | ok a s' => obtain ⟨r1, e⟩ := z; exact ⟨_, r1, e⟩
  | ex c fs s' => exact z
end
/-! ### a law that begins with several names at once -/
section
variable {σ X : Type} {wr : Wr σ} {B : Bs wr} {n : Nat} {K : X → σ → SR → Prop} {G : List (Nat × W)} {cs : List (Nat × Cell)} {s : σ} {tr : TAv} {rest : TSv}
end
end TL

set_option Elab.async false
set_option linter.all false
set_option maxRecDepth 100000
set_option maxHeartbeats 4000000
set_option autoImplicit false
/-! T21: list(range(n)). -/
namespace TL
open VS
open L2 (atI ixN)
section
variable {σ α β R A X : Type} {wr : Wr σ} {B : Bs wr} {n : Nat} {G : List (Nat × W)} {cs cs1 : List (Nat × Cell)} {s : σ} {te : TEv}
@[irreducible] def lrgO (j : Int) (s : σ) : O σ (List Int) := ofO (if smI j = true ∧ small j.toNat = true then some (rgI 0 j.toNat) else none) s
variable {ta tb : TEv} {wa : TTv}
end
end TL

set_option Elab.async false
set_option linter.all false
set_option maxRecDepth 100000
set_option maxHeartbeats 4000000
set_option autoImplicit false
namespace LB
open VS TL
open L2 (atI ixN)
/-! _law_draw -/
def d_law_draw (many_1 : Int) (s_0 : Sp) : O Sp (Int) :=
  (O.bind (O.bind (.ok s_0.cnt s_0) fun x_25 s_26 => .ok ((x_25 + (1 : Int))) s_26) fun a_2 s_3 => let s_4 : Sp := { s_3 with cnt := a_2 }; (O.bind (O.bind (O.bind (.ok s_4.big s_4) fun x_31 s_32 => .ok ((decide (x_31 = (0 : Int)))) s_32) fun b_29 s_30 => if b_29 = true then (.ok (!s_30.cells.isEmpty) s_30) else .ok false s_30) fun b_27 s_28 => O.bind (if b_27 = true then (match s_28.cells with
    | [] => .no
    | cell_5 :: l_6 => let s_13 : Sp := { s_28 with cells := l_6 }; (O.bind (O.bind (O.bind (O.bind (O.bind (O.bind (.ok s_13.mix s_13) fun x_41 s_42 => ofO (mulO x_41 (8191 : Int)) s_42) fun x_39 s_40 => .ok ((x_39 + cell_5)) s_40) fun x_37 s_38 => .ok ((x_37 + (3 : Int))) s_38) fun x_35 s_36 => .ok (x_35) s_36) fun x_33 s_34 => ofO (modO x_33 (2147483647 : Int)) s_34) fun a_7 s_8 => let s_9 : Sp := { s_8 with mix := a_7 }; (O.bind (O.bind (O.bind (ofO (powO (10 : Int) (18 : Int)) s_9) fun x_45 s_46 => .ok ((decide (x_45 ≤ cell_5))) s_46) fun b_43 s_44 => if b_43 = true then (.ok cell_5 s_44) else (.ok (0 : Int) s_44)) fun a_10 s_11 => let s_12 : Sp := { s_11 with big := a_10 }; (.ok () s_12)))) else (.ok () s_28)) fun v_14 s_15 =>
    (O.bind (O.bind (.ok s_15.big s_15) fun x_49 s_50 => .ok ((decide ((0 : Int) < x_49))) s_50) fun b_47 s_48 => if b_47 = true then (O.bind (O.bind (O.bind (.ok s_48.big s_48) fun x_53 s_54 => .ok (x_53) s_54) fun x_51 s_52 => ofO (modO x_51 many_1) s_52) fun digit_18 s_19 =>
    (O.bind (O.bind (.ok s_19.big s_19) fun x_55 s_56 => ofO (divO x_55 many_1) s_56) fun a_20 s_21 => let s_22 : Sp := { s_21 with big := a_20 }; (.ok digit_18 s_22))) else
    (O.bind (O.bind (O.bind (O.bind (O.bind (O.bind (.ok s_48.mix s_48) fun x_65 s_66 => O.bind (O.bind (.ok s_66.cnt s_66) fun x_69 s_70 => ofO (mulO (7919 : Int) x_69) s_70) fun x_67 s_68 => .ok ((x_65 + x_67)) s_68) fun x_63 s_64 => .ok ((x_63 + (104729 : Int))) s_64) fun x_61 s_62 => ofO (powO x_61 (5 : Int)) s_62) fun x_59 s_60 => .ok (x_59) s_60) fun x_57 s_58 => ofO (modO x_57 (2147483629 : Int)) s_58) fun mixed_23 s_24 =>
    (O.bind (O.bind (O.bind (O.bind (O.bind (O.bind (ofO (mulO mixed_23 (48271 : Int)) s_24) fun x_81 s_82 => O.bind (O.bind (.ok s_82.cnt s_82) fun x_85 s_86 => ofO (mulO (30011 : Int) x_85) s_86) fun x_83 s_84 => .ok ((x_81 + x_83)) s_84) fun x_79 s_80 => .ok ((x_79 + (29 : Int))) s_80) fun x_77 s_78 => ofO (powO x_77 (3 : Int)) s_78) fun x_75 s_76 => .ok (x_75) s_76) fun x_73 s_74 => ofO (modO x_73 (1000000007 : Int)) s_74) fun x_71 s_72 => ofO (modO x_71 many_1) s_72)))))
end LB

set_option Elab.async false
set_option linter.all false
set_option maxRecDepth 100000
set_option maxHeartbeats 4000000
set_option autoImplicit false
namespace LB
open VS TL
open L2 (atI ixN)
theorem r_law_draw : FnG (A := (Rs) × (Int) × (Unit)) (R := Int) wS m__law_draw (fun a s => d_law_draw a.2.1 s) := by
  refine fn_ok (fun _ => rfl) (by decide) fun B a s => ?_
  obtain ⟨_, many_1, _⟩ := a
  have h : J B 5 (Kfn (R := Int) B) [(0, .loc 1), (1, w_ many_1)] [] t__law_draw s _ := (j_sp (j := 0) (up := fun s a => { s with cnt := a }) rfl (e_op2 o_addI (E.el (e_sp2 rfl)) (fun _ => (E.el e_int))) (fun _ _ _ => rfl) (fun _ => (j_ifJ (S := Unit) (oG := fun v => [(0, .loc 1), (1, w_ many_1)]) (oC := fun v => []) (t_and (t_val (e_op2 o_eqI (E.el (e_sp1 rfl)) (fun _ => (E.el e_int)))) (fun _ => (t_sp0 rfl))) (fun _ => (j_spPop (by decide) rfl (fun cell_5 _ => (j_sp (j := 0) (up := fun s a => { s with mix := a }) rfl (e_op2 o_modI (E.el (e_cb1 o_intI (E.el (e_op2 o_addI (E.el (e_op2 o_addI (E.el (e_op2 o_mulI (E.el (e_sp3 rfl)) (fun _ => (E.el e_int)))) (fun _ => (E.el (e_var (α := Int) rfl))))) (fun _ => (E.el e_int)))))) (fun _ => (E.el e_int))) (fun _ _ _ => rfl) (fun _ => (j_last (j_sp (j := 0) (up := fun s a => { s with big := a }) rfl (e_if (t_val (e_op2 o_ge (E.el (e_var (α := Int) rfl)) (fun _ => (E.el (e_op2 o_powI (E.el e_int) (fun _ => (E.el e_int))))))) (fun _ => (e_var (α := Int) rfl)) (fun _ => e_int)) (fun _ _ _ => rfl) (fun _ => (j_end (end_j (v := ()) (sub_cons rfl (sub_cons rfl sub_nil)) .slnil)))))))))) (fun _ => (j_end (end_j (v := ()) (sub_cons rfl (sub_cons rfl sub_nil)) .slnil))) (fun v_14 s_15 => (j_if (t_val (e_op2 o_gt (E.el (e_sp1 rfl)) (fun _ => (E.el e_int)))) (fun _ => (j_term (j_set (α := Int) (by decide) (e_op2 o_modI (E.el (e_cb1 o_intI (E.el (e_sp1 rfl)))) (fun _ => (E.el (e_var (α := Int) rfl)))) (fun digit_18 s_19 => (j_sp (j := 0) (up := fun s a => { s with big := a }) rfl (e_op2 o_divI (E.el (e_sp1 rfl)) (fun _ => (E.el (e_var (α := Int) rfl)))) (fun _ _ _ => rfl) (fun _ => (j_last (j_retI (ret_t ret_fn) (e_var (α := Int) rfl))))))))) (fun _ => (j_nil (j_set (α := Int) (by decide) (e_op2 o_modI (E.el (e_cb1 o_intI (E.el (e_op2 o_powI (E.el (e_op2 o_addI (E.el (e_op2 o_addI (E.el (e_sp3 rfl)) (fun _ => (E.el (e_op2 o_mulI (E.el e_int) (fun _ => (E.el (e_sp2 rfl)))))))) (fun _ => (E.el e_int)))) (fun _ => (E.el e_int)))))) (fun _ => (E.el e_int))) (fun mixed_23 s_24 => (j_last (j_retI ret_fn (e_op2 o_modI (E.el (e_op2 o_modI (E.el (e_cb1 o_intI (E.el (e_op2 o_powI (E.el (e_op2 o_addI (E.el (e_op2 o_addI (E.el (e_op2 o_mulI (E.el (e_var (α := Int) rfl)) (fun _ => (E.el e_int)))) (fun _ => (E.el (e_op2 o_mulI (E.el e_int) (fun _ => (E.el (e_sp2 rfl)))))))) (fun _ => (E.el e_int)))) (fun _ => (E.el e_int)))))) (fun _ => (E.el e_int)))) (fun _ => (E.el (e_var (α := Int) rfl)))))))))))))))
  exact h
end LB

set_option Elab.async false
set_option linter.all false
set_option maxRecDepth 100000
set_option maxHeartbeats 4000000
set_option autoImplicit false
/-! M1: the step by itself: kinds 104 h, 72 H, 46 ., 65 A; states (reach, left). -/
namespace LM
abbrev S2 := Int × Int
def isK (k : Nat) : Bool := k == 104 || k == 72 || k == 46 || k == 65
def stp (s : S2) (k : Nat) : S2 :=
  if k = 65 then (s.1 + 1, s.2 + 1) else if k = 46 then s
  else (if s.1 - 1 < 0 then 0 else s.1 - 1, if s.2 = 0 ∧ (0 < s.1 ∨ k = 72) then s.2 else s.2 - 1)
def run (s : S2) : List Nat → S2
  | [] => s
  | k :: t => run (stp s k) t
/-- a word n times -/
def pow (w : List Nat) : Nat → List Nat
  | 0 => []
  | n + 1 => w ++ pow w n
end LM

set_option Elab.async false
set_option linter.all false
set_option maxRecDepth 100000
set_option maxHeartbeats 4000000
set_option autoImplicit false
/-! A1: reach and margins by themselves. -/
namespace LM
def rank (k : Nat) : Nat := if k = 104 then 0 else if k = 72 then 1 else if k = 46 then 2 else 3
def le2 (a b : S2) : Prop := a.1 ≤ b.1 ∧ a.2 ≤ b.2
theorem le2.refl {a : S2} : le2 a a := ⟨Int.le_refl _, Int.le_refl _⟩
theorem le2.trans {a b c : S2} (h : le2 a b) (h' : le2 b c) : le2 a c := ⟨Int.le_trans h.1 h'.1, Int.le_trans h.2 h'.2⟩
/-- each kind is no worse -/
def nw : List Nat → List Nat → Prop
  | [], [] => True
  | a :: x, b :: y => rank a ≤ rank b ∧ nw x y
  | _, _ => False
theorem nw.refl : ∀ t : List Nat, nw t t
  | [] => trivial
  | _ :: t => ⟨Nat.le_refl _, nw.refl t⟩
theorem nw.len : ∀ {a b : List Nat}, nw a b → a.length = b.length
  | [], [], _ => rfl
  | _ :: x, _ :: y, h => by simp [nw.len h.2]
  | [], _ :: _, h => h.elim
  | _ :: _, [], h => h.elim
theorem nw.app : ∀ {a b c d : List Nat}, nw a b → nw c d → nw (a ++ c) (b ++ d)
  | [], [], _, _, _, h => h
  | _ :: x, _ :: y, _, _, h, h' => ⟨h.1, nw.app h.2 h'⟩
  | [], _ :: _, _, _, h, _ => h.elim
  | _ :: _, [], _, _, h, _ => h.elim
theorem nw.pow {a b : List Nat} (h : nw a b) : ∀ n, nw (pow a n) (pow b n)
  | 0 => trivial
  | n + 1 => by rw [LM.pow, LM.pow]; exact h.app (nw.pow h n)
theorem nw.take : ∀ {a b : List Nat} (n : Nat), nw a b → nw (a.take n) (b.take n)
  | _, _, 0, _ => by simp [nw]
  | [], [], _ + 1, _ => by simp [nw]
  | _ :: x, _ :: y, n + 1, h => ⟨h.1, nw.take n h.2⟩
  | [], _ :: _, _ + 1, h => h.elim
  | _ :: _, [], _ + 1, h => h.elim
theorem nw.drop : ∀ {a b : List Nat} (n : Nat), nw a b → nw (a.drop n) (b.drop n)
  | _, _, 0, h => h
  | [], [], _ + 1, _ => by simp [nw]
  | _ :: x, _ :: y, n + 1, h => nw.drop n h.2
  | [], _ :: _, _ + 1, h => h.elim
  | _ :: _, [], _ + 1, h => h.elim
abbrev Ks (t : List Nat) : Prop := ∀ k ∈ t, isK k = true
theorem Ks.take {t : List Nat} (h : Ks t) (n : Nat) : Ks (t.take n) := fun k hk => h k (List.mem_of_mem_take hk)
theorem Ks.drop {t : List Nat} (h : Ks t) (n : Nat) : Ks (t.drop n) := fun k hk => h k (List.mem_of_mem_drop hk)
theorem Ks.app {a b : List Nat} (h : Ks a) (h' : Ks b) : Ks (a ++ b) := fun k hk => (List.mem_append.mp hk).elim (h k) (h' k)
theorem Ks.pow {w : List Nat} (h : Ks w) : ∀ n, Ks (pow w n)
  | 0 => fun k hk => by simp [LM.pow] at hk
  | n + 1 => by rw [LM.pow]; exact h.app (Ks.pow h n)
end LM

set_option Elab.async false
set_option linter.all false
set_option maxRecDepth 100000
set_option maxHeartbeats 4000000
set_option autoImplicit false
/-! B1: the steps' functions. -/
namespace LB
open VS TL LM
open L2 (atI ixN)
theorem atI_get {α : Type} {xs : List α} {i : Int} (h : 0 ≤ i) (h' : i < xs.length) : atI xs i = xs[i.toNat]? := by
  unfold atI ixN
  simp [h, h']
end LB

set_option Elab.async false
set_option linter.all false
set_option maxRecDepth 100000
set_option maxHeartbeats 4000000
set_option autoImplicit false
/-! B2: rows: what their functions tell. -/
namespace LB
open VS TL LM
open L2 (atI ixN)
abbrev Ps := List (List Nat × Int)
def den : Ps → List Nat
  | [] => []
  | p :: ps => pow p.1 p.2.toNat ++ den ps
structure Okp (m : Nat) (p : List Nat × Int) : Prop where
  ne : p.1 ≠ []
  len : p.1.length ≤ m
  ks : Ks p.1
  pos : 1 ≤ p.2
structure WF (m : Nat) (ps : Ps) : Prop where
  ok : ∀ p ∈ ps, Okp m p
  m : m ≤ 250000
  cnt : ps.length ≤ 300000
  tot : (den ps).length < 2 ^ 60
/-- pieces as they are handed in -/
structure Okr (m : Nat) (p : List Nat × Int) : Prop where
  len : p.1.length ≤ m
  ks : Ks p.1
  pos : 0 ≤ p.2
def keep (ps : Ps) : Ps := ps.filter fun x => (!decide (x.1 = [])) && decide (0 < x.2)
theorem Okp.r {m : Nat} {p : List Nat × Int} (h : Okp m p) : Okr m p := ⟨h.len, h.ks, by have := h.pos; omega⟩
/-! through -/
/-! cuts of a power -/
def Per (w : List Nat) (c : Nat) (L : List Nat) : Prop := ∀ i, i < L.length → L[i]? = w[(c + i) % w.length]?
theorem Per.app {w A B : List Nat} {c : Nat} (h : Per w c A) (h' : Per w (c + A.length) B) : Per w c (A ++ B) := fun i hi => by
  by_cases hA : i < A.length
  · rw [List.getElem?_append_left hA]; exact h i hA
  · rw [List.getElem?_append_right (by omega), h' (i - A.length) (by rw [List.length_append] at hi; omega)]
    congr 2
    omega
theorem Per.mod {w L : List Nat} {c d : Nat} (h : Per w c L) (e : c % w.length = d % w.length) : Per w d L := fun i hi => by
  rw [h i hi, Nat.add_mod, e, ← Nat.add_mod]
theorem Per.self (w : List Nat) : Per w 0 w := fun i hi => by rw [Nat.zero_add, Nat.mod_eq_of_lt hi]
theorem Per.pow (w : List Nat) : ∀ n, Per w 0 (pow w n)
  | 0 => fun i hi => by simp [LM.pow] at hi
  | n + 1 => by
    rw [LM.pow]
    exact (Per.self w).app ((Per.pow w n).mod (by simp))
theorem Per.drop {w L : List Nat} {c : Nat} (h : Per w c L) (k : Nat) : Per w (c + k) (L.drop k) := fun i hi => by
  rw [List.length_drop] at hi
  rw [List.getElem?_drop, h (k + i) (by omega)]
  congr 2
  omega
theorem Per.take {w L : List Nat} {c : Nat} (h : Per w c L) (k : Nat) : Per w c (L.take k) := fun i hi => by
  rw [List.length_take] at hi
  rw [List.getElem?_take_of_lt (by omega), h i (by omega)]
theorem Per.eq {w A B : List Nat} {c d : Nat} (h : Per w c A) (h' : Per w d B) (e : c % w.length = d % w.length) (hl : A.length = B.length) : A = B := by
  apply List.ext_getElem?
  intro i
  by_cases hi : i < A.length
  · rw [h i hi, (h'.mod e.symm) i (by omega)]
  · rw [List.getElem?_eq_none (by omega), List.getElem?_eq_none (by omega)]
end LB

set_option Elab.async false
set_option linter.all false
set_option maxRecDepth 100000
set_option maxHeartbeats 4000000
set_option autoImplicit false
/-! B3: parts of rows, margins, the firm slot. -/
namespace LB
open VS TL LM
open L2 (atI ixN)
end LB

set_option Elab.async false
set_option linter.all false
set_option maxRecDepth 100000
set_option maxHeartbeats 4000000
set_option autoImplicit false
/-! B4: draws. -/
namespace LB
open VS TL LM
open L2 (atI ixN)
structure SpOk (b : Nat) (s : Sp) : Prop where
  mix0 : 0 ≤ s.mix
  mix1 : s.mix < 2147483647
  c0 : 0 ≤ s.cnt
  c1 : s.cnt ≤ b
  big : 0 ≤ s.big
theorem SpOk.mono {b c : Nat} {s : Sp} (h : SpOk b s) (hbc : b ≤ c) : SpOk c s := ⟨h.mix0, h.mix1, h.c0, by have := h.c1; omega, h.big⟩
theorem spOk0 (ns : List Int) : SpOk 0 ⟨ns, 0, 0, 11⟩ := ⟨show (0 : Int) ≤ 11 by decide, show (11 : Int) < 2147483647 by decide, Int.le_refl 0, Int.le_refl 0, Int.le_refl 0⟩
theorem pow18 : powO (10 : Int) (18 : Int) = some 1000000000000000000 := by
  rw [show (18 : Int) = ((18 : Nat) : Int) from rfl, powO_ok (by decide) (by decide)]; rfl
theorem v_draw {b : Nat} {many : Int} {s : Sp} (h : SpOk b s) (hb : b < 2 ^ 40) (h1 : 1 ≤ many) (h2 : many < 2 ^ 60) : ∃ d s', d_law_draw many s = .ok d s' ∧ 0 ≤ d ∧ d < many ∧ SpOk (b + 1) s' := by
  obtain ⟨m0, m1, c0, c1, bg⟩ := h
  obtain ⟨cells, big, cnt, mix⟩ := s
  dsimp only at m0 m1 c0 c1 bg
  have tail : ∀ s1 : Sp, SpOk (b + 1) s1 → ∃ d s', (if decide (0 < s1.big) = true then O.bind (ofO (modO s1.big many) s1) fun d s_23 => O.bind (ofO (divO s_23.big many) s_23) fun a s_25 => .ok d { s_25 with big := a }
      else O.bind (ofO (mulO 7919 s1.cnt) s1) fun a s => O.bind (ofO (powO (s1.mix + a + 104729) 5) s) fun a s => O.bind (ofO (modO a 2147483629) s) fun mixed s_28 => O.bind (ofO (mulO mixed 48271) s_28) fun a s => O.bind (ofO (mulO 30011 s.cnt) s) fun a_1 s => O.bind (ofO (powO (a + a_1 + 29) 3) s) fun a s => O.bind (ofO (modO a 1000000007) s) fun x s => ofO (modO x many) s) = .ok d s' ∧ 0 ≤ d ∧ d < many ∧ SpOk (b + 1) s' := by
    intro s1 ⟨m0', m1', c0', c1', bg'⟩
    by_cases q : 0 < s1.big
    · rw [if_pos (decide_eq_true q)]
      have e1 := Int.emod_nonneg s1.big (show many ≠ 0 by omega)
      have e2 := Int.emod_lt_of_pos s1.big (show 0 < many by omega)
      rw [modO_ok (show 0 < many by omega), ofO_some, bind_ok, divO_ok (show 0 < many by omega) (by omega), ofO_some, bind_ok]
      exact ⟨_, _, rfl, e1, e2, m0', m1', c0', c1', Int.ediv_nonneg bg' (by omega)⟩
    · rw [if_neg (by simpa using q)]
      have p1 : mulO 7919 s1.cnt = some (7919 * s1.cnt) := mulO_ok (.inl (by decide))
      have p2 : mulO 30011 s1.cnt = some (30011 * s1.cnt) := mulO_ok (.inl (by decide))
      have p3 : powO (s1.mix + 7919 * s1.cnt + 104729) 5 = some ((s1.mix + 7919 * s1.cnt + 104729) ^ 5) := powO_ok (j := 5) (by decide) (by omega)
      simp only [p1, p2, p3, ofO_some, bind_ok, modO_ok (show (0 : Int) < 2147483629 by decide)]
      generalize hx : (s1.mix + 7919 * s1.cnt + 104729) ^ 5 % 2147483629 = x
      have x0 : 0 ≤ x := by rw [← hx]; exact Int.emod_nonneg _ (by decide)
      have x1 : x < 2147483629 := by rw [← hx]; exact Int.emod_lt_of_pos _ (by decide)
      have p4 : mulO x 48271 = some (x * 48271) := mulO_ok (.inr (by decide))
      have p5 : powO (x * 48271 + 30011 * s1.cnt + 29) 3 = some ((x * 48271 + 30011 * s1.cnt + 29) ^ 3) := powO_ok (j := 3) (by decide) (by omega)
      simp only [p2, p4, p5, ofO_some, bind_ok, modO_ok (show (0 : Int) < 1000000007 by decide), modO_ok (show (0 : Int) < many by omega)]
      exact ⟨_, _, rfl, Int.emod_nonneg _ (by omega), Int.emod_lt_of_pos _ (by omega), m0', m1', c0', c1', bg'⟩
  have fin : ∀ {o : O Sp Int} (s1 : Sp), SpOk (b + 1) s1 → (o = (if decide (0 < s1.big) = true then O.bind (ofO (modO s1.big many) s1) fun d s_23 => O.bind (ofO (divO s_23.big many) s_23) fun a s_25 => .ok d { s_25 with big := a }
      else O.bind (ofO (mulO 7919 s1.cnt) s1) fun a s => O.bind (ofO (powO (s1.mix + a + 104729) 5) s) fun a s => O.bind (ofO (modO a 2147483629) s) fun mixed s_28 => O.bind (ofO (mulO mixed 48271) s_28) fun a s => O.bind (ofO (mulO 30011 s.cnt) s) fun a_1 s => O.bind (ofO (powO (a + a_1 + 29) 3) s) fun a s => O.bind (ofO (modO a 1000000007) s) fun x s => ofO (modO x many) s)) → ∃ d s', o = .ok d s' ∧ 0 ≤ d ∧ d < many ∧ SpOk (b + 1) s' := fun s1 h e => by rw [e]; exact tail s1 h
  unfold d_law_draw
  simp only [bind_assoc, bind_ok, pow18, ofO_some]
  by_cases q : big = 0
  · cases cells with
    | nil =>
      simp only [q, decide_true, if_true, List.isEmpty_nil, Bool.not_true, bind_ok, Bool.false_eq_true, if_false]
      exact fin ⟨[], 0, cnt + 1, mix⟩ ⟨m0, m1, by show 0 ≤ cnt + 1; omega, by show cnt + 1 ≤ _; omega, Int.le_refl 0⟩ rfl
    | cons cell l =>
      have hmod0 := Int.emod_nonneg (mix * 8191 + cell + 3) (show (2147483647 : Int) ≠ 0 by decide)
      have hmod1 := Int.emod_lt_of_pos (mix * 8191 + cell + 3) (show (0 : Int) < 2147483647 by decide)
      simp only [q, decide_true, if_true, List.isEmpty_cons, Bool.not_false, bind_ok, mulO_ok (i := mix) (j := 8191) (.inr (by decide)), ofO_some, modO_ok (show (0 : Int) < 2147483647 by decide)]
      by_cases r : (1000000000000000000 : Int) ≤ cell
      · simp only [decide_eq_true r, if_true, bind_ok]
        exact fin ⟨l, cell, cnt + 1, (mix * 8191 + cell + 3) % 2147483647⟩ ⟨hmod0, hmod1, by show 0 ≤ cnt + 1; omega, by show cnt + 1 ≤ _; omega, by show 0 ≤ cell; omega⟩ rfl
      · simp only [decide_eq_false r, Bool.false_eq_true, if_false, bind_ok]
        exact fin ⟨l, 0, cnt + 1, (mix * 8191 + cell + 3) % 2147483647⟩ ⟨hmod0, hmod1, by show 0 ≤ cnt + 1; omega, by show cnt + 1 ≤ _; omega, Int.le_refl 0⟩ rfl
  · simp only [decide_eq_false q, Bool.false_eq_true, if_false, bind_ok]
    exact fin ⟨cells, big, cnt + 1, mix⟩ ⟨m0, m1, by show 0 ≤ cnt + 1; omega, by show cnt + 1 ≤ _; omega, bg⟩ rfl
end LB

set_option Elab.async false
set_option linter.all false
set_option maxRecDepth 100000
set_option maxHeartbeats 4000000
set_option autoImplicit false
/-! C25: the law k25. -/
namespace LB
open VS TL LM
abbrev X25 (t : Int) : List F := [.non, .int 5, .int (-1), .str [104], .lst [.int t], .tup [.int 1, .lst [.int 2]], .dct [(.str [104], .int 1)], .bl true, .int (10 ^ 30)]
def tRest : TSv := (sFor (iAny (eLst (aCons (eCall m__law_made_by_place (aCons (eVar 3) aNil)) (aCons (eCall m__law_made_by_name (aCons (eVar 3) aNil)) aNil)))) (gNm 4) (bCons (sIf (tVal (eCB (g1 anyF) (aCons (eFrz (eLc (iAny (eCall m__law_held (aCons (eVar 4) aNil))) (gNm 7) tYesV (eOr (eOp2 neX (eVar 7) (eVar 3)) (eOp2 neF (eIsi [.bl] (eVar 7)) (eIsi [.bl] (eVar 3)))) [7])) aNil))) (sRet (eC (.bl false))) bNil)
    (sFor (iEnum (aCons (eVar 4) aNil)) (gTp (gsCons (gNm 5) (gsCons (gNm 6) gsNil))) (bCons (sIf (tOrV (tNotV (tVal (eIsi [(.xb 514)] (eVar 6)))) (tNotV (tVal (eIsi [.ver] (eVar 6))))) (sRet (eC (.bl false))) bNil)
    (sIf (tVal (eOp2 neF (eCall m__law_classes (aCons (eVar 6) aNil)) (eFrz (eLc (iRange1 (aCons (eC (.int 14)) aNil)) (gNm 8) tYesV (eOp2 eqF (eVar 8) (eVar 5)) [8])))) (sRet (eC (.bl false))) bNil)))))
def made (x : F) : F := .lst ([.exn 505 [(4, x)], .exn 504 [(3, x)], .exn 503 [(2, x)], .exn 502 [(1, x)], .exn 501 [(1, x)], .exn 500 [(0, x)], .exn 510 [(9, x)], .exn 509 [(8, x)], .exn 508 [(7, x)], .exn 507 [(6, x)], .exn 506 [(5, x)], .exn 513 [], .exn 512 [], .exn 511 []])
abbrev Rest (x : F) : Prop := ∀ (c : List F) (a b d : Int) (e0 e1 e2 e4 e5 e6 e7 e8 : Option W), tRest [e0, e1, e2, some (.f x), e4, e5, e6, e7, e8] [.lstF c, .lstW [.loc 0, .f (.int a), .f (.int b), .f (.int d)]] =
    .nx [e0, e1, e2, some (.f x), some (.f (made x)), some (.f (.int 13)), some (.f (.exn 511 [])), e7, e8] [.lstF c, .lstW [.loc 0, .f (.int a), .f (.int b), .f (.int d)]]
theorem rest_0 : Rest .non := fun _ _ _ _ _ _ _ _ _ _ _ _ => by kernel_rfl
theorem rest_1 : Rest (.int 5) := fun _ _ _ _ _ _ _ _ _ _ _ _ => by kernel_rfl
theorem rest_2 : Rest (.int (-1)) := fun _ _ _ _ _ _ _ _ _ _ _ _ => by kernel_rfl
theorem rest_3 : Rest (.str [104]) := fun _ _ _ _ _ _ _ _ _ _ _ _ => by kernel_rfl
theorem rest_40 : Rest (.lst [.int 0]) := fun _ _ _ _ _ _ _ _ _ _ _ _ => by kernel_rfl
theorem rest_41 : Rest (.lst [.int 1]) := fun _ _ _ _ _ _ _ _ _ _ _ _ => by kernel_rfl
theorem rest_42 : Rest (.lst [.int 2]) := fun _ _ _ _ _ _ _ _ _ _ _ _ => by kernel_rfl
theorem rest_43 : Rest (.lst [.int 3]) := fun _ _ _ _ _ _ _ _ _ _ _ _ => by kernel_rfl
theorem rest_5 : Rest (.tup [.int 1, .lst [.int 2]]) := fun _ _ _ _ _ _ _ _ _ _ _ _ => by kernel_rfl
theorem rest_6 : Rest (.dct [(.str [104], .int 1)]) := fun _ _ _ _ _ _ _ _ _ _ _ _ => by kernel_rfl
theorem rest_7 : Rest (.bl true) := fun _ _ _ _ _ _ _ _ _ _ _ _ => by kernel_rfl
theorem rest_8 : Rest (.int (10 ^ 30)) := fun _ _ _ _ _ _ _ _ _ _ _ _ => by kernel_rfl
/-! ### a pick -/
def tPk (D : FnM) : TSv := sRet (eIx (eVar 1) (eCall D (aCons (eVar 0) (aCons (eCB (g1 lenF) (aCons (eVar 1) aNil)) aNil))))
theorem pk_at (D : FnM) (t : Int) (st : Store) : fnM 2 2 (tPk D) [.loc 1, .f (.lst (X25 t))] st = fnM 2 2 (tPk (fun _ _ => D [.loc 1, .f (.int 9)] st)) [.loc 1, .f (.lst (X25 t))] st := by kernel_rfl
abbrev sq (c : List F) (a b d : Int) : Store := [.lstF c, .lstW [.loc 0, .f (.int a), .f (.int b), .f (.int d)]]
theorem pk_ok (k : Nat) (hk : k < 9) (t : Int) (c c' : List F) (a b d a' b' d' : Int) : fnM 2 2 (tPk (fun _ _ => .ok (.f (.int (k : Int))) (sq c' a' b' d'))) [.loc 1, .f (.lst (X25 t))] (sq c a b d) = .ok (.f ((X25 t)[k]'hk)) (sq c' a' b' d') := by
  match k, hk with
  | 0, _ => kernel_rfl
  | 1, _ => kernel_rfl
  | 2, _ => kernel_rfl
  | 3, _ => kernel_rfl
  | 4, _ => kernel_rfl
  | 5, _ => kernel_rfl
  | 6, _ => kernel_rfl
  | 7, _ => kernel_rfl
  | 8, _ => kernel_rfl
  | k + 9, h => omega
theorem v_pick9 {b : Nat} {s : Sp} (h : SpOk b s) (hb : b < 2 ^ 40) (t : Int) : ∃ (k : Nat) (hk : k < 9) (s' : Sp), m__law_pick [.loc 1, .f (.lst (X25 t))] (spS s) = .ok (.f ((X25 t)[k]'hk)) (spS s') ∧ SpOk (b + 1) s' := by
  obtain ⟨d, s', e, d0, d1, ok⟩ := v_draw (many := 9) h hb (by decide) (by decide)
  obtain ⟨k, rfl⟩ := Int.eq_ofNat_of_zero_le d0
  have hk : k < 9 := by omega
  have z := r_law_draw [] s ((⟨⟩ : Rs), (9 : Int), ()) (by show clean _ _ = true; simp [wS, spS, clean, Cell.below, W.below])
  dsimp only at z
  rw [e] at z
  have z : m__law_draw [.loc 1, .f (.int 9)] (spS s ++ []) = .ok (.f (.int (k : Int))) (spS s' ++ []) := z
  rw [List.append_nil, List.append_nil] at z
  refine ⟨k, hk, s', ?_, ok⟩
  show fnM 2 2 (tPk m__law_draw) [.loc 1, .f (.lst (X25 t))] (spS s) = _
  rw [pk_at, z]
  exact pk_ok k hk t _ _ _ _ _ _ _ _
/-! ### the law -/
def tLst : TEv := (eLst (aCons (eC .non) (aCons (eC (.int 5)) (aCons (eOp1 negF (eC (.int 1))) (aCons (eC (.str [104])) (aCons (eLst (aCons (eVar 2) aNil)) (aCons (eTup (aCons (eC (.int 1)) (aCons (eLst (aCons (eC (.int 2)) aNil)) aNil))) (aCons (eFrz (eDisp [((eC (.str [104])), (eC (.int 1)))])) (aCons (eC (.bl true)) (aCons (eOp2 powF (eC (.int 10)) (eC (.int 30))) aNil))))))))))
theorem set_at (M : FnM) (t : Int) (e0 e3 e4 e5 e6 e7 e8 : Option W) (c : List F) (a b d : Int) : sSet 3 (eCall M (aCons (eVar 1) (aCons tLst aNil))) [e0, some (.loc 1), some (.f (.int t)), e3, e4, e5, e6, e7, e8] (sq c a b d) =
    (M [.loc 1, .f (.lst (X25 t))] (sq c a b d)).thenS fun w st1 => .nx [e0, some (.loc 1), some (.f (.int t)), some w, e4, e5, e6, e7, e8] st1 := by kernel_rfl
theorem rest_all (t : Nat) (ht : t < 4) (k : Nat) (hk : k < 9) : Rest ((X25 t)[k]'hk) := by
  match k, hk with
  | 0, _ => exact rest_0
  | 1, _ => exact rest_1
  | 2, _ => exact rest_2
  | 3, _ => exact rest_3
  | 4, _ =>
    match t, ht with
    | 0, _ => exact rest_40
    | 1, _ => exact rest_41
    | 2, _ => exact rest_42
    | 3, _ => exact rest_43
    | t + 4, h => omega
  | 5, _ => exact rest_5
  | 6, _ => exact rest_6
  | 7, _ => exact rest_7
  | 8, _ => exact rest_8
  | k + 9, h => omega
theorem body_ok {b : Nat} {s : Sp} (h : SpOk b s) (hb : b < 2 ^ 40) (t : Nat) (ht : t < 4) (e0 e3 e4 e5 e6 e7 e8 : Option W) : ∃ (f3 f4 f5 f6 : Option W) (s' : Sp),
    bCons (sSet 3 (eCall m__law_pick (aCons (eVar 1) (aCons tLst aNil)))) tRest [e0, some (.loc 1), some (.f (.int (t : Int))), e3, e4, e5, e6, e7, e8] (spS s) = .nx [e0, some (.loc 1), some (.f (.int (t : Int))), f3, f4, f5, f6, e7, e8] (spS s') ∧ SpOk (b + 1) s' := by
  obtain ⟨k, hk, s', e, ok⟩ := v_pick9 h hb (t : Int)
  refine ⟨some (.f ((X25 t)[k]'hk)), some (.f (made ((X25 t)[k]'hk))), some (.f (.int 13)), some (.f (.exn 511 [])), s', ?_, ok⟩
  have e1 := set_at m__law_pick t e0 e3 e4 e5 e6 e7 e8 (s.cells.map F.int) s.big s.cnt s.mix
  unfold bCons
  have e2 : sSet 3 (eCall m__law_pick (aCons (eVar 1) (aCons tLst aNil))) [e0, some (.loc 1), some (.f (.int (t : Int))), e3, e4, e5, e6, e7, e8] (spS s) = .nx [e0, some (.loc 1), some (.f (.int (t : Int))), some (.f ((X25 t)[k]'hk)), e4, e5, e6, e7, e8] (spS s') := by
    refine Eq.trans e1 ?_
    have e3 : m__law_pick [.loc 1, .f (.lst (X25 t))] (sq (s.cells.map F.int) s.big s.cnt s.mix) = .ok (.f ((X25 t)[k]'hk)) (spS s') := e
    rw [e3]
    rfl
  rw [e2]
  exact rest_all t ht k hk _ _ _ _ _ _ _ _ _ _ _ _
def Good (s : Sp) : Prop := ∃ env s', forL (gNm 2) (bCons (sSet 3 (eCall m__law_pick (aCons (eVar 1) (aCons tLst aNil)))) tRest) [.f (.int 0), .f (.int 1), .f (.int 2), .f (.int 3)]
    [some (.f (.scr s.cells)), some (.loc 1), none, none, none, none, none, none, none] (spS s) = .nx env (spS s')
theorem law_true (s : Sp) (h : SpOk 0 s) : Good s := by
  have step : ∀ (t : Nat) (ht : t < 4) (b : Nat) (hb : b < 100) (s : Sp), SpOk b s → ∀ (ws : List W) (e0 e2 e3 e4 e5 e6 e7 e8 : Option W), (∀ (f2 f3 f4 f5 f6 : Option W) (s' : Sp), SpOk (b + 1) s' → ∃ env s2,
      forL (gNm 2) (bCons (sSet 3 (eCall m__law_pick (aCons (eVar 1) (aCons tLst aNil)))) tRest) ws [e0, some (.loc 1), f2, f3, f4, f5, f6, e7, e8] (spS s') = .nx env (spS s2)) →
      ∃ env s2, forL (gNm 2) (bCons (sSet 3 (eCall m__law_pick (aCons (eVar 1) (aCons tLst aNil)))) tRest) (.f (.int (t : Int)) :: ws) [e0, some (.loc 1), e2, e3, e4, e5, e6, e7, e8] (spS s) = .nx env (spS s2) := by
    intro t ht b hb s hs ws e0 e2 e3 e4 e5 e6 e7 e8 k
    obtain ⟨f3, f4, f5, f6, s', e, ok⟩ := body_ok hs (by omega) t ht e0 e3 e4 e5 e6 e7 e8
    obtain ⟨env, s2, z⟩ := k (some (.f (.int (t : Int)))) f3 f4 f5 f6 s' ok
    refine ⟨env, s2, ?_⟩
    show (match bCons (sSet 3 (eCall m__law_pick (aCons (eVar 1) (aCons tLst aNil)))) tRest [e0, some (.loc 1), some (.f (.int (t : Int))), e3, e4, e5, e6, e7, e8] (spS s) with
      | .nx env2 st2 => forL (gNm 2) (bCons (sSet 3 (eCall m__law_pick (aCons (eVar 1) (aCons tLst aNil)))) tRest) ws env2 st2
      | .ct env2 st2 => forL (gNm 2) (bCons (sSet 3 (eCall m__law_pick (aCons (eVar 1) (aCons tLst aNil)))) tRest) ws env2 st2
      | .bk env2 st2 => .nx env2 st2
      | r => r) = _
    rw [e]
    exact z
  unfold Good
  refine step 0 (by decide) 0 (by decide) s h _ _ _ _ _ _ _ _ _ fun f2 f3 f4 f5 f6 s1 h1 => ?_
  refine step 1 (by decide) 1 (by decide) s1 h1 _ _ _ _ _ _ _ _ _ fun f2 f3 f4 f5 f6 s2 h2 => ?_
  refine step 2 (by decide) 2 (by decide) s2 h2 _ _ _ _ _ _ _ _ _ fun f2 f3 f4 f5 f6 s3 h3 => ?_
  refine step 3 (by decide) 3 (by decide) s3 h3 _ _ _ _ _ _ _ _ _ fun f2 f3 f4 f5 f6 s4 h4 => ?_
  exact ⟨_, s4, rfl⟩
theorem law_rest (r : TSv) (env : Env) (st : Store) (e2 : Env) (st2 : Store) (h : forL (gNm 2) r [.f (.int 0), .f (.int 1), .f (.int 2), .f (.int 3)] env st = .nx e2 st2) :
    bCons (sFor (iRange1 (aCons (eC (.int 4)) aNil)) (gNm 2) r) (sRet (eC (.bl true))) env st = .rt (.f (.bl true)) st2 := by
  have e : sFor (iRange1 (aCons (eC (.int 4)) aNil)) (gNm 2) r env st = forL (gNm 2) r [.f (.int 0), .f (.int 1), .f (.int 2), .f (.int 3)] env st := by kernel_rfl
  unfold bCons
  rw [e, h]
  rfl
theorem start_ok (ns : List Int) : m__law_start [.f (.scr ns)] [] = .ok (.loc 1) (spS ⟨ns, 0, 0, 11⟩) := by
  kernel_rfl
theorem r_law (ns : List Int) (h : Good ⟨ns, 0, 0, 11⟩) : ∃ st, m_law [.f (.scr ns)] [] = .ok (.f (.bl true)) st := by
  obtain ⟨env, s', e⟩ := h
  have e1 : sSet 1 (eCall m__law_start (aCons (eVar 0) aNil)) [some (.f (.scr ns)), none, none, none, none, none, none, none, none] [] = .nx [some (.f (.scr ns)), some (.loc 1), none, none, none, none, none, none, none] (spS ⟨ns, 0, 0, 11⟩) := by
    show ((m__law_start [.f (.scr ns)] []).thenS fun w st1 => SR.nx _ st1) = _
    rw [start_ok]
    rfl
  have e2 := law_rest _ _ _ _ _ e
  have e3 : t_law [some (.f (.scr ns)), none, none, none, none, none, none, none, none] [] = .rt (.f (.bl true)) (spS s') := by
    show bCons (sSet 1 (eCall m__law_start (aCons (eVar 0) aNil))) (bCons (sFor (iRange1 (aCons (eC (.int 4)) aNil)) (gNm 2) (bCons (sSet 3 (eCall m__law_pick (aCons (eVar 1) (aCons tLst aNil)))) tRest)) (sRet (eC (.bl true)))) _ _ = _
    unfold bCons
    rw [e1]
    exact e2
  refine ⟨[], ?_⟩
  show (match t_law [some (.f (.scr ns)), none, none, none, none, none, none, none, none] [] with
      | .rt w st1 => retW 0 w st1
      | .nx _ st1 => retW 0 (.f .non) st1
      | .exc c fs st1 => .exc c fs st1
      | _ => .stuck) = _
  rw [e3]
  rfl
end LB

theorem PySem.Challenge.cw_longbough_k25_errors_made_holds : PySem.Challenge.rw_longbough_k25_errors_made.Holds := by
  exact LBE.main fun ns _ => LB.r_law ns (LB.law_true _ (LB.spOk0 ns))
