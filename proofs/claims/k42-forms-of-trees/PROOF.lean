import PyProof.Rows.All
import Wide.All
import OpenK.AllK
import Wide.FinOn
import HandS.ForMost
import HandS.ForExc
import HandS.HeadHook2
import HandS.Lambda
import HandS.Style
import HandS.NoneIn
import HandS.Wide
import HandS.Deep
import HandS.TupAny
import HandS.SortInts
import HandS.StrSplit
import HandS.Replace
import HandS.IsInst
import KE.KCallOwn
import KE.KOpsOwn
import HandS.SlotsOwn
import KE.GoesEnum
import KE.GoesZip
import KE.GoesMore
import HandS.Iter
import HandS.SetFor
import HandS.Strs
import HandS.Star
import HandS.Conv
import HandS.Head0
import HandS.Head1
import HandS.Head2
import HandS.HeadEnd
import HandS.HeadHook1
import KE.KStateDown
import PyProof.ListStr
import HandS.RaiseMore
import HandS.More
import KE.KAssignIn
import HandS.DictComp
import HandS.ExcInit
import HandS.Nested
import HandS.TryMany
import HandS.ExcField
import KE.KExcSuper
import HandS.HeadWalk
import HandS.DictTup
import KE.KDictWalk
import KE.KDictDisplayH
import PyProof.AutoSeq1
import HandS.SortKw
import HandS.NamedTupSort
import KE.SortData
import KE.KSortKey
import HandS.Text
import HandS.Codes
import HandS.Dict
import HandS.TupMul
import KE.KDictItemsList
import KE.KDictZip
import HandS.MapObj
import HandS.ListItems
import HandS.Small
import PySem.Challenge.RW_longbough_k42_forms_of_trees
set_option Elab.async false
set_option linter.all false
set_option maxRecDepth 100000
set_option maxHeartbeats 4000000
set_option autoImplicit false
/-! VA: plain data F, values W (data or a cell of the store), the store, how they stand in the abstract heap. -/
namespace VS
open PySem PySem.Spec PyProof.Rows L2

/-- plain data: a text is the list of its code points; scr: the script as it is handed in -/
inductive F where
  | non | bl (b : Bool) | int (i : Int) | str (s : List Nat)
  | tup (xs : List F) | lst (xs : List F) | dct (kvs : List (F × F)) | dlk (t : Bool) (kvs : List (List (Int ⊕ List Nat) × F)) | ktp (ks : List (Int ⊕ List Nat)) | obj (c : Nat) (fs : List (Nat × F)) | scr (ns : List Int)
inductive W where
  | f (x : F) | loc (n : Nat)
inductive Cell where
  | dead | lstF (xs : List F) | lstW (xs : List W) | dct (kvs : List (F × F)) | dti (kvs : List (List (Int ⊕ List Nat) × F)) | ins (c : Nat) (fs : List (Nat × W))
abbrev Store := List Cell
abbrev Env := List (Option W)
inductive Res (α : Type) where
  | ok (a : α) (st : Store) | exc (c : Nat) (fs : List (Nat × F)) (st : Store) | stuck
def Res.bind {α β : Type} (r : Res α) (k : α → Store → Res β) : Res β := match r with
  | .ok a st => k a st
  | .exc c fs st => .exc c fs st
  | .stuck => .stuck

structure ClsI where
  name : Str
  flds : List Nat
structure Tab where
  cls : List ClsI
  fld : List Str
  /-- the defs that make lambdas -/
  mks : List Str := []
  /-- exception classes: the numbers 500, 501, .. -/
  xcl : List Str := []
def Tab.fn (T : Tab) (i : Nat) : Str := T.fld.getD i ⟨#[]⟩
def Tab.ca (T : Tab) (K : PySem.W.Frag) (c : Nat) : Addr := match T.cls[c]? with
  | some ci => He.ga K ci.name
  | none => match T.xcl[c - 500]? with
    | some x => He.ga K x
    | none => 0
def Tab.okf (T : Tab) (c i : Nat) : Bool := match T.cls[c]? with
  | some ci => ci.flds.contains i && decide (i < T.fld.length)
  | none => false
/-- a def's code object, and its table of code objects -/
def codeAd (K : PySem.W.Frag) (x : Str) : Addr := match K.lookup (He.ga K x) with
  | some ⟨_, _, .func fd, _⟩ => (match fd.code with
    | .ref c => c
    | _ => 0)
  | _ => 0
def tabAd (K : PySem.W.Frag) (x : Str) : Addr := match K.lookup (codeAd K x) with
  | some ⟨_, _, .fields vs, _⟩ => (match vs[11]?.getD Value.none with
    | .ref P => P
    | _ => 0)
  | _ => 0
def Tab.tbs (T : Tab) (K : PySem.W.Frag) : List (Addr × Str) := T.mks.map fun x => (tabAd K x, (x ++ ".<locals>.") ++ "<lambda>")
structure TabOk (K : PySem.W.Frag) (T : Tab) : Prop where
  nodup : T.fld.Nodup
  cls : ∀ c, (T.cls[c]?).isSome = true → Cls K (T.ca K c)
  noat : ∀ c i, T.okf c i = true → NoAttr K (T.ca K c) (T.fn i)

def S (l : List Nat) : Str := ⟨l.toArray⟩
/-- a key of a dict -/
def keyF : F → Option Key
  | .int i => some (.inl i)
  | .str s => some (.inr (S s))
  | _ => none

/-- keys of a locked dict -/
def fkK : Int ⊕ List Nat → Key
  | .inl i => .inl i
  | .inr s => .inr (S s)

mutual
inductive RepF (K : PySem.W.Frag) (T : Tab) (Z : Hp) : V → F → Prop
  | non : RepF K T Z .non .non
  | bl (b : Bool) : RepF K T Z (.bl b) (.bl b)
  | int (i : Int) : RepF K T Z (.int i) (.int i)
  | str (s : List Nat) : RepF K T Z (.str (S s)) (.str s)
  | tup {a : Addr} {vs : List V} {xs : List F} : SqT K Z a vs → RepFs K T Z vs xs → RepF K T Z (.ref a) (.tup xs)
  | lst {a : Addr} {vs : List V} {xs : List F} : Z a = some (.lst vs) → RepFs K T Z vs xs → RepF K T Z (.ref a) (.lst xs)
  | dct {a : Addr} {kvs : List (Key × V)} {kfs : List (F × F)} : Z a = some (.dK kvs) → RepFk K T Z kvs kfs → RepF K T Z (.ref a) (.dct kfs)
  | dlt {a : Addr} {o : Obj} {kvs : List (List Key × V)} {kfs : List (List (Int ⊕ List Nat) × F)} : Z a = some (.frz o (.dT kvs)) → RepFt K T Z kvs kfs → RepF K T Z (.ref a) (.dlk true kfs)
  | dlu {a : Addr} {o : Obj} {kvs : List (Key × V)} {kfs : List (List (Int ⊕ List Nat) × F)} : Z a = some (.frz o (.dK kvs)) → RepFu K T Z kvs kfs → RepF K T Z (.ref a) (.dlk false kfs)
  | ktp {a : Addr} (ks : List (Int ⊕ List Nat)) : Z a = some (.tup (ks.map fun k => kV (fkK k))) → RepF K T Z (.ref a) (.ktp ks)
  | obj {a dx : Addr} {fvs : List (Str × V)} {c : Nat} {fs : List (Nat × F)} : Z a = some (.ins (T.ca K c) dx fvs) → (T.cls[c]?).isSome = true → RepFd K T Z c fvs fs → RepF K T Z (.ref a) (.obj c fs)
  | scr {a : Addr} {ns : List Int} : SqL K Z a (ns.map V.int) → RepF K T Z (.ref a) (.scr ns)
inductive RepFs (K : PySem.W.Frag) (T : Tab) (Z : Hp) : List V → List F → Prop
  | nil : RepFs K T Z [] []
  | cons {v : V} {x : F} {vs : List V} {xs : List F} : RepF K T Z v x → RepFs K T Z vs xs → RepFs K T Z (v :: vs) (x :: xs)
inductive RepFk (K : PySem.W.Frag) (T : Tab) (Z : Hp) : List (Key × V) → List (F × F) → Prop
  | nil : RepFk K T Z [] []
  | cons {k : Key} {v : V} {y x : F} {vs : List (Key × V)} {xs : List (F × F)} : keyF y = some k → RepF K T Z v x → RepFk K T Z vs xs → RepFk K T Z ((k, v) :: vs) ((y, x) :: xs)
inductive RepFt (K : PySem.W.Frag) (T : Tab) (Z : Hp) : List (List Key × V) → List (List (Int ⊕ List Nat) × F) → Prop
  | nil : RepFt K T Z [] []
  | cons {k : List Key} {ns : List (Int ⊕ List Nat)} {v : V} {x : F} {vs : List (List Key × V)} {xs : List (List (Int ⊕ List Nat) × F)} : k = ns.map fkK → RepF K T Z v x → RepFt K T Z vs xs → RepFt K T Z ((k, v) :: vs) ((ns, x) :: xs)
inductive RepFu (K : PySem.W.Frag) (T : Tab) (Z : Hp) : List (Key × V) → List (List (Int ⊕ List Nat) × F) → Prop
  | nil : RepFu K T Z [] []
  | cons {k : Key} {n : Int ⊕ List Nat} {v : V} {x : F} {vs : List (Key × V)} {xs : List (List (Int ⊕ List Nat) × F)} : k = fkK n → RepF K T Z v x → RepFu K T Z vs xs → RepFu K T Z ((k, v) :: vs) (([n], x) :: xs)
inductive RepFd (K : PySem.W.Frag) (T : Tab) (Z : Hp) : Nat → List (Str × V) → List (Nat × F) → Prop
  | nil {c : Nat} : RepFd K T Z c [] []
  | cons {c i : Nat} {v : V} {x : F} {vs : List (Str × V)} {xs : List (Nat × F)} : T.okf c i = true → RepF K T Z v x → RepFd K T Z c vs xs → RepFd K T Z c ((T.fn i, v) :: vs) ((i, x) :: xs)
end

theorem same_sqt {K : PySem.W.Frag} {H H' : Hp} {a : Addr} {xs : List V} (e : Same H H') (h : SqT K H a xs) : SqT K H' a xs := by
  rcases h with (h | ⟨o, h⟩) | h
  · exact .inl (.inl (e _ _ h))
  · exact .inl (.inr ⟨o, e _ _ h⟩)
  · exact .inr h
mutual
theorem RepF.mono {K : PySem.W.Frag} {T : Tab} {Z Z' : Hp} (e : Same Z Z') : ∀ {v : V} {x : F}, RepF K T Z v x → RepF K T Z' v x
  | _, _, .non => .non
  | _, _, .bl b => .bl b
  | _, _, .int i => .int i
  | _, _, .str s => .str s
  | _, _, .tup h r => .tup (same_sqt e h) (RepFs.mono e r)
  | _, _, .lst h r => .lst (e _ _ h) (RepFs.mono e r)
  | _, _, .dct h r => .dct (e _ _ h) (RepFk.mono e r)
  | _, _, .ktp ks h => .ktp ks (e _ _ h)
  | _, _, .dlt h r => .dlt (e _ _ h) (RepFt.mono e r)
  | _, _, .dlu h r => .dlu (e _ _ h) (RepFu.mono e r)
  | _, _, .obj h c r => .obj (e _ _ h) c (RepFd.mono e r)
  | _, _, .scr h => .scr (e.seq h)
theorem RepFs.mono {K : PySem.W.Frag} {T : Tab} {Z Z' : Hp} (e : Same Z Z') : ∀ {vs : List V} {xs : List F}, RepFs K T Z vs xs → RepFs K T Z' vs xs
  | _, _, .nil => .nil
  | _, _, .cons r t => .cons (RepF.mono e r) (RepFs.mono e t)
theorem RepFk.mono {K : PySem.W.Frag} {T : Tab} {Z Z' : Hp} (e : Same Z Z') : ∀ {vs : List (Key × V)} {xs : List (F × F)}, RepFk K T Z vs xs → RepFk K T Z' vs xs
  | _, _, .nil => .nil
  | _, _, .cons k r t => .cons k (RepF.mono e r) (RepFk.mono e t)
theorem RepFt.mono {K : PySem.W.Frag} {T : Tab} {Z Z' : Hp} (e : Same Z Z') : ∀ {vs : List (List Key × V)} {xs : List (List (Int ⊕ List Nat) × F)}, RepFt K T Z vs xs → RepFt K T Z' vs xs
  | _, _, .nil => .nil
  | _, _, .cons k r t => .cons k (RepF.mono e r) (RepFt.mono e t)
theorem RepFu.mono {K : PySem.W.Frag} {T : Tab} {Z Z' : Hp} (e : Same Z Z') : ∀ {vs : List (Key × V)} {xs : List (List (Int ⊕ List Nat) × F)}, RepFu K T Z vs xs → RepFu K T Z' vs xs
  | _, _, .nil => .nil
  | _, _, .cons k r t => .cons k (RepF.mono e r) (RepFu.mono e t)
theorem RepFd.mono {K : PySem.W.Frag} {T : Tab} {Z Z' : Hp} (e : Same Z Z') : ∀ {c : Nat} {vs : List (Str × V)} {xs : List (Nat × F)}, RepFd K T Z c vs xs → RepFd K T Z' c vs xs
  | _, _, _, .nil => .nil
  | _, _, _, .cons k r t => .cons k (RepF.mono e r) (RepFd.mono e t)
end

section
variable {K : PySem.W.Frag} {T : Tab} {Z Z' : Hp}
theorem RepFs.length : ∀ {vs : List V} {xs : List F}, RepFs K T Z vs xs → vs.length = xs.length
  | _, _, .nil => rfl
  | _, _, .cons _ t => by rw [List.length_cons, List.length_cons, RepFs.length t]
theorem RepFs.append : ∀ {vs ws : List V} {xs ys : List F}, RepFs K T Z vs xs → RepFs K T Z ws ys → RepFs K T Z (vs ++ ws) (xs ++ ys)
  | _, _, _, _, .nil, s => s
  | _, _, _, _, .cons r t, s => .cons r (RepFs.append t s)
theorem RepFs.get : ∀ {vs : List V} {xs : List F} {i : Nat} {x : F}, RepFs K T Z vs xs → xs[i]? = some x → ∃ v, vs[i]? = some v ∧ RepF K T Z v x
  | _, _, _, _, .nil, h => by simp at h
  | _, _, 0, _, .cons r _, h => by simp at h; subst h; exact ⟨_, rfl, r⟩
  | _, _, i + 1, x, .cons _ t, h => by
    obtain ⟨v, e, r⟩ := RepFs.get (i := i) (x := x) t (by simpa using h)
    exact ⟨v, by simpa using e, r⟩
theorem RepFs.take : ∀ {vs : List V} {xs : List F} (n : Nat), RepFs K T Z vs xs → RepFs K T Z (vs.take n) (xs.take n)
  | _, _, 0, _ => .nil
  | _, _, _ + 1, .nil => .nil
  | _, _, n + 1, .cons r t => .cons r (RepFs.take n t)
theorem RepFs.drop : ∀ {vs : List V} {xs : List F} (n : Nat), RepFs K T Z vs xs → RepFs K T Z (vs.drop n) (xs.drop n)
  | _, _, 0, r => r
  | _, _, _ + 1, .nil => .nil
  | _, _, n + 1, .cons _ t => RepFs.drop n t
theorem RepFs.reverse : ∀ {vs : List V} {xs : List F}, RepFs K T Z vs xs → RepFs K T Z vs.reverse xs.reverse
  | _, _, .nil => .nil
  | _, _, .cons r t => by
    rw [List.reverse_cons, List.reverse_cons]
    exact (RepFs.reverse t).append (.cons r .nil)
theorem RepFs.set {v : V} {x : F} (r : RepF K T Z v x) : ∀ {vs : List V} {xs : List F} (n : Nat), RepFs K T Z vs xs → RepFs K T Z (vs.set n v) (xs.set n x)
  | _, _, _, .nil => .nil
  | _, _, 0, .cons _ t => .cons r t
  | _, _, n + 1, .cons q t => .cons q (RepFs.set r n t)
theorem RepFs.rep : ∀ {vs : List V} {xs : List F} (n : Nat), RepFs K T Z vs xs → RepFs K T Z (List.replicate n vs).flatten (List.replicate n xs).flatten
  | _, _, 0, _ => .nil
  | _, _, n + 1, r => by
    rw [List.replicate_succ, List.replicate_succ, List.flatten_cons, List.flatten_cons]
    exact r.append (RepFs.rep n r)
theorem RepFs.ints : ∀ {vs : List V} {ns : List Int}, RepFs K T Z vs (ns.map F.int) → vs = ns.map V.int
  | _, [], .nil => rfl
  | _, n :: ns, .cons r t => by
    cases r
    rw [RepFs.ints t]
    rfl
theorem RepFs.ofInts : ∀ (ns : List Int), RepFs K T Z (ns.map V.int) (ns.map F.int)
  | [] => .nil
  | n :: ns => .cons (.int n) (RepFs.ofInts ns)
theorem RepFs.bls : ∀ {vs : List V} {ns : List Bool}, RepFs K T Z vs (ns.map F.bl) → vs = ns.map V.bl
  | _, [], .nil => rfl
  | _, n :: ns, .cons r t => by
    cases r
    rw [RepFs.bls t]
    rfl
end

/-! ### values, cells, the store -/
inductive RepW (K : PySem.W.Frag) (T : Tab) (Z : Hp) (ι : List Addr) : V → W → Prop
  | f {v : V} {x : F} : RepF K T Z v x → RepW K T Z ι v (.f x)
  | loc {a : Addr} {n : Nat} : ι[n]? = some a → RepW K T Z ι (.ref a) (.loc n)
inductive RepWs (K : PySem.W.Frag) (T : Tab) (Z : Hp) (ι : List Addr) : List V → List W → Prop
  | nil : RepWs K T Z ι [] []
  | cons {v : V} {x : W} {vs : List V} {xs : List W} : RepW K T Z ι v x → RepWs K T Z ι vs xs → RepWs K T Z ι (v :: vs) (x :: xs)
inductive RepWd (K : PySem.W.Frag) (T : Tab) (Z : Hp) (ι : List Addr) : Nat → List (Str × V) → List (Nat × W) → Prop
  | nil {c : Nat} : RepWd K T Z ι c [] []
  | cons {c i : Nat} {v : V} {x : W} {vs : List (Str × V)} {xs : List (Nat × W)} : T.okf c i = true → RepW K T Z ι v x → RepWd K T Z ι c vs xs → RepWd K T Z ι c ((T.fn i, v) :: vs) ((i, x) :: xs)
/-- what a cell says of the object at a -/
def CellOk (K : PySem.W.Frag) (T : Tab) (Z : Hp) (ι : List Addr) (H : Hp) (a : Addr) : Cell → Prop
  | .dead => True
  | .lstF xs => Z a = none ∧ ∃ vs, H a = some (.lst vs) ∧ RepFs K T Z vs xs
  | .lstW xs => Z a = none ∧ ∃ vs, H a = some (.lst vs) ∧ RepWs K T Z ι vs xs
  | .dct kvs => Z a = none ∧ ∃ kvv, H a = some (.dK kvv) ∧ RepFk K T Z kvv kvs
  | .dti kvs => Z a = none ∧ ∃ kvv, H a = some (.dT kvv) ∧ RepFt K T Z kvv kvs
  | .ins c fs => Z a = none ∧ ∃ dx fvs, H a = some (.ins (T.ca K c) dx fvs) ∧ (T.cls[c]?).isSome = true ∧ RepWd K T Z ι c fvs fs
/-- no table of code objects, no code object -/
def Hard (o : HO) : Prop := (∀ ps, o ≠ .tbl ps) ∧ ∀ f, o ≠ .ext f
/-- the tables of code objects -/
structure TabI (K : PySem.W.Frag) (T : Tab) (Z : Hp) (ι : List Addr) (H : Hp) : Prop where
  zt : ∀ b ps, Z b ≠ some (.tbl ps)
  ct : ∀ a ∈ ι, ∀ o, H a = some o → Hard o
  tb : ∀ p ∈ T.tbs K, Z p.1 = none ∧ LamX.TabS H p.1 p.2
theorem TabI.step {K : PySem.W.Frag} {T : Tab} {Z Z' H H' : Hp} {ι ι' : List Addr} (t : TabI K T Z ι H) (hz : ∀ b ps, Z' b = some (.tbl ps) → Z b = some (.tbl ps)) (hc : ∀ a ∈ ι', ∀ o, H' a = some o → Hard o)
    (hh : ∀ b u, H b = some u → b ∉ ι → H' b = some u) (hn : ∀ b u, H b = some u → b ∉ ι → Z b = none → Z' b = none) : TabI K T Z' ι' H' := by
  refine ⟨fun b ps e => t.zt b ps (hz b ps e), hc, fun p hp => ?_⟩
  obtain ⟨h1, ps, h2, h3, h4⟩ := t.tb p hp
  have nP : p.1 ∉ ι := fun hm => (t.ct _ hm _ h2).1 ps rfl
  refine ⟨hn _ _ h2 nP h1, ps, hh _ _ h2 nP, h3, fun pos cv e => ?_⟩
  obtain ⟨c, e1, e2⟩ := h4 pos cv e
  exact ⟨c, e1, hh _ _ e2 fun hm => (t.ct _ hm _ e2).2 _ rfl⟩
/-- the same objects, other data -/
theorem TabI.sub {K : PySem.W.Frag} {T : Tab} {Z H : Hp} {ι ι' : List Addr} (t : TabI K T Z ι H) (h : ∀ a ∈ ι', a ∈ ι) : TabI K T Z ι' H := ⟨t.zt, fun a ha => t.ct a (h a ha), t.tb⟩
structure SimS (K : PySem.W.Frag) (T : Tab) (Z : Hp) (ι : List Addr) (st : Store) (H : Hp) : Prop where
  sub : Same Z H
  len : ι.length = st.length
  nd : ι.Nodup
  cell : ∀ (n : Nat) (a : Addr) (c : Cell), ι[n]? = some a → st[n]? = some c → CellOk K T Z ι H a c
  /-- every cell's address is known to the heap -/
  there : ∀ a ∈ ι, ∃ o, H a = some o
  tab : TabI K T Z ι H
structure Le (Z : Hp) (ι : List Addr) (Z' : Hp) (ι' : List Addr) : Prop where
  z : Same Z Z'
  i : ∀ (n : Nat) (a : Addr), ι[n]? = some a → ι'[n]? = some a
structure EnvR (K : PySem.W.Frag) (T : Tab) (Z : Hp) (ι : List Addr) (σ : L2.St) (env : Env) : Prop where
  len : σ.length = env.length
  get : ∀ (i : Nat) (w : W), env[i]? = some (some w) → ∃ v, σ[i]? = some (some v) ∧ RepW K T Z ι v w

section
variable {K : PySem.W.Frag} {T : Tab} {Z Z' Z1 Z2 H H' : Hp} {ι ι' ι1 ι2 : List Addr} {st : Store} {σ : L2.St} {env : Env}
theorem Le.refl : Le Z ι Z ι := ⟨Same.refl Z, fun _ _ h => h⟩
theorem Le.trans (a : Le Z ι Z1 ι1) (b : Le Z1 ι1 Z2 ι2) : Le Z ι Z2 ι2 := ⟨a.z.trans b.z, fun n c h => b.i n c (a.i n c h)⟩
theorem RepW.mono (e : Le Z ι Z' ι') {v : V} {w : W} (r : RepW K T Z ι v w) : RepW K T Z' ι' v w := by
  cases r with
  | f r => exact .f (r.mono e.z)
  | loc h => exact .loc (e.i _ _ h)
theorem RepWs.mono (e : Le Z ι Z' ι') : ∀ {vs : List V} {ws : List W}, RepWs K T Z ι vs ws → RepWs K T Z' ι' vs ws
  | _, _, .nil => .nil
  | _, _, .cons r t => .cons (r.mono e) (RepWs.mono e t)
theorem RepWd.mono (e : Le Z ι Z' ι') : ∀ {c : Nat} {vs : List (Str × V)} {ws : List (Nat × W)}, RepWd K T Z ι c vs ws → RepWd K T Z' ι' c vs ws
  | _, _, _, .nil => .nil
  | _, _, _, .cons k r t => .cons k (r.mono e) (RepWd.mono e t)
theorem EnvR.mono (e : Le Z ι Z' ι') (r : EnvR K T Z ι σ env) : EnvR K T Z' ι' σ env :=
  ⟨r.len, fun i w h => let ⟨v, q, p⟩ := r.get i w h; ⟨v, q, p.mono e⟩⟩
theorem EnvR.set {v : V} {w : W} (r : EnvR K T Z ι σ env) (q : RepW K T Z ι v w) (i : Nat) : EnvR K T Z ι (σ.set i (some v)) (env.set i (some w)) := by
  refine ⟨by simp [r.len], fun j u h => ?_⟩
  by_cases hj : i = j
  · subst hj
    by_cases hl : i < env.length
    · rw [List.getElem?_set_self hl] at h
      cases h
      exact ⟨v, List.getElem?_set_self (by rw [r.len]; exact hl), q⟩
    · rw [List.getElem?_eq_none (by simp; omega)] at h
      cases h
  · rw [List.getElem?_set_ne hj] at h
    obtain ⟨v', e, p⟩ := r.get j u h
    exact ⟨v', by rw [List.getElem?_set_ne hj]; exact e, p⟩
theorem RepWs.length : ∀ {vs : List V} {xs : List W}, RepWs K T Z ι vs xs → vs.length = xs.length
  | _, _, .nil => rfl
  | _, _, .cons _ t => by rw [List.length_cons, List.length_cons, RepWs.length t]
theorem RepWs.get : ∀ {vs : List V} {xs : List W} {i : Nat} {x : W}, RepWs K T Z ι vs xs → xs[i]? = some x → ∃ v, vs[i]? = some v ∧ RepW K T Z ι v x
  | _, _, _, _, .nil, h => by simp at h
  | _, _, 0, _, .cons r _, h => by simp at h; subst h; exact ⟨_, rfl, r⟩
  | _, _, i + 1, x, .cons _ t, h => by
    obtain ⟨v, e, r⟩ := RepWs.get (i := i) (x := x) t (by simpa using h)
    exact ⟨v, by simpa using e, r⟩
theorem RepWs.append : ∀ {vs ws : List V} {xs ys : List W}, RepWs K T Z ι vs xs → RepWs K T Z ι ws ys → RepWs K T Z ι (vs ++ ws) (xs ++ ys)
  | _, _, _, _, .nil, s => s
  | _, _, _, _, .cons r t, s => .cons r (RepWs.append t s)
theorem RepWs.set {v : V} {x : W} (r : RepW K T Z ι v x) : ∀ {vs : List V} {xs : List W} (n : Nat), RepWs K T Z ι vs xs → RepWs K T Z ι (vs.set n v) (xs.set n x)
  | _, _, _, .nil => .nil
  | _, _, 0, .cons _ t => .cons r t
  | _, _, n + 1, .cons q t => .cons q (RepWs.set r n t)
theorem RepWs.ofFs : ∀ {vs : List V} {xs : List F}, RepFs K T Z vs xs → RepWs K T Z ι vs (xs.map W.f)
  | _, _, .nil => .nil
  | _, _, .cons r t => .cons (.f r) (RepWs.ofFs t)
/-- all data -/
def allF : List W → Option (List F)
  | [] => some []
  | .f x :: ws => (allF ws).map (x :: ·)
  | .loc _ :: _ => none
theorem allF_map (xs : List F) : allF (xs.map W.f) = some xs := by
  induction xs with
  | nil => rfl
  | cons x xs ih => show (allF (xs.map W.f)).map (x :: ·) = _; rw [ih]; rfl
theorem RepWs.allF : ∀ {vs : List V} {ws : List W} {xs : List F}, RepWs K T Z ι vs ws → allF ws = some xs → RepFs K T Z vs xs
  | _, _, _, .nil, h => by cases h; exact .nil
  | _, _, _, .cons (.f r) t, h => by
    rename_i x _ ws
    have h : (VS.allF ws).map (x :: ·) = some _ := h
    cases q : VS.allF ws with
    | none => rw [q] at h; cases h
    | some ys =>
      rw [q] at h
      cases h
      exact .cons r (RepWs.allF t q)
  | _, _, _, .cons (.loc r) t, h => by cases h

/-- the heap has grown: new data stand where nothing stood -/
structure Grow (Z H Z' H' : Hp) : Prop where
  z : Same Z Z'
  h : Same H H'
  sub : Same Z' H'
  new : ∀ a o, H a = some o → Z' a = Z a
  nt : ∀ b ps, Z' b = some (.tbl ps) → Z b = some (.tbl ps)
theorem Grow.refl (s : Same Z H) : Grow Z H Z H := ⟨Same.refl Z, Same.refl H, s, fun _ _ _ => rfl, fun _ _ e => e⟩
theorem Grow.trans (a : Grow Z H Z1 Z2) (b : Grow Z1 Z2 Z' H') : Grow Z H Z' H' :=
  ⟨a.z.trans b.z, a.h.trans b.h, b.sub, fun c o h => (b.new c o (a.h c o h)).trans (a.new c o h), fun c ps e => a.nt c ps (b.nt c ps e)⟩
theorem same_upd {p : Addr} {o : HO} (s : Same Z H) : Same (upd Z p o) (upd H p o) := fun b u e => by
  by_cases h : b = p
  · subst h
    rw [upd_same] at e
    rw [upd_same]
    exact e
  · rw [upd_ne h] at e
    rw [upd_ne h]
    exact s b u e
theorem same_new {p : Addr} {o : HO} (h : H p = none) : Same H (upd H p o) := fun b u e => by
  rw [upd_ne (ne_of_none e h)]
  exact e
theorem free_sub (s : Same Z H) {p : Addr} (h : H p = none) : Z p = none := s.free h
theorem Grow.laid {p : Addr} {o : HO} (s : Same Z H) (h : H p = none) (ht : ∀ ps, o ≠ .tbl ps := by intro _ h; cases h) : Grow Z H (upd Z p o) (upd H p o) :=
  ⟨same_new (free_sub s h), same_new h, same_upd s, fun a u e => by rw [upd_ne (ne_of_none e h)], fun b ps e => by
    by_cases hb : b = p
    · subst hb
      rw [upd_same] at e
      exact absurd (Option.some.inj e) (ht ps)
    · rw [upd_ne hb] at e
      exact e⟩
theorem Grow.le (g : Grow Z H Z' H') : Le Z ι Z' ι := ⟨g.z, fun _ _ h => h⟩
theorem CellOk.grow (g : Grow Z H Z' H') (l : Le Z ι Z' ι') {a : Addr} {c : Cell} (h : CellOk K T Z ι H a c) : CellOk K T Z' ι' H' a c := by
  cases c with
  | dead => trivial
  | lstF xs => obtain ⟨n, vs, e, r⟩ := h; exact ⟨(g.new _ _ e).trans n, vs, g.h _ _ e, r.mono g.z⟩
  | lstW xs => obtain ⟨n, vs, e, r⟩ := h; exact ⟨(g.new _ _ e).trans n, vs, g.h _ _ e, r.mono l⟩
  | dct xs => obtain ⟨n, vs, e, r⟩ := h; exact ⟨(g.new _ _ e).trans n, vs, g.h _ _ e, r.mono g.z⟩
  | dti xs => obtain ⟨n, vs, e, r⟩ := h; exact ⟨(g.new _ _ e).trans n, vs, g.h _ _ e, r.mono g.z⟩
  | ins c fs => obtain ⟨n, dx, fvs, e, hc, r⟩ := h; exact ⟨(g.new _ _ e).trans n, dx, fvs, g.h _ _ e, hc, r.mono l⟩
theorem SimS.grow (s : SimS K T Z ι st H) (g : Grow Z H Z' H') : SimS K T Z' ι st H' :=
  ⟨g.sub, s.len, s.nd, fun n a c h1 h2 => (s.cell n a c h1 h2).grow g g.le, fun a h => let ⟨o, e⟩ := s.there a h; ⟨o, g.h _ _ e⟩, s.tab.step g.nt (fun a ha o e => by
    obtain ⟨u, eu⟩ := s.there a ha
    have := g.h _ _ eu
    rw [e] at this
    cases this
    exact s.tab.ct a ha _ eu) (fun b u e _ => g.h b u e) fun b u e _ hz => by rw [g.new b u e]; exact hz⟩
theorem get_app {α : Type} {l : List α} {b : α} {n : Nat} {a : α} (h : l[n]? = some a) : (l ++ [b])[n]? = some a := by
  rw [List.getElem?_append_left (List.getElem?_eq_some_iff.mp h).1]
  exact h
theorem get_app_cases {α : Type} {l : List α} {b : α} {n : Nat} {a : α} (h : (l ++ [b])[n]? = some a) : l[n]? = some a ∨ (n = l.length ∧ a = b) := by
  by_cases hl : n < l.length
  · rw [List.getElem?_append_left hl] at h
    exact .inl h
  · rw [List.getElem?_append_right (by omega)] at h
    by_cases hn : n = l.length
    · subst hn
      simp at h
      exact .inr ⟨rfl, h.symm⟩
    · rw [List.getElem?_eq_none (by simp; omega)] at h
      cases h
/-- a new cell at p -/
theorem SimS.alloc {p : Addr} {o : HO} {c : Cell} (s : SimS K T Z ι st H) (hp : H p = none) (hc : CellOk K T Z (ι ++ [p]) (upd H p o) p c) (ho : Hard o := by exact ⟨fun _ => nofun, fun _ => nofun⟩) :
    SimS K T Z (ι ++ [p]) (st ++ [c]) (upd H p o) := by
  have hz : Z p = none := free_sub s.sub hp
  have g : Grow Z H Z (upd H p o) := ⟨Same.refl Z, same_new hp, s.sub.trans (same_new hp), fun _ _ _ => rfl, fun _ _ e => e⟩
  have l : Le Z ι Z (ι ++ [p]) := ⟨Same.refl Z, fun _ _ h => get_app h⟩
  have hni : p ∉ ι := fun hm => by
    obtain ⟨u, e⟩ := s.there p hm
    rw [hp] at e; cases e
  refine ⟨g.sub, by simp [s.len], ?_, fun n a d h1 h2 => ?_, fun a ha => ?_, s.tab.step (fun _ _ e => e) (fun a ha u e => ?_) (fun b u e _ => g.h b u e) fun b u e _ hz => hz⟩
  rotate_right
  · rcases List.mem_append.mp ha with ha | ha
    · obtain ⟨u2, e2⟩ := s.there a ha
      have := g.h _ _ e2
      rw [e] at this
      cases this
      exact s.tab.ct a ha _ e2
    · simp at ha
      subst ha
      rw [upd_same] at e
      cases e
      exact ho
  · rw [List.nodup_append]
    exact ⟨s.nd, by simp, fun a ha b hb => by simp at hb; subst hb; exact fun e => hni (e ▸ ha)⟩
  · rcases get_app_cases h1 with h1 | ⟨rfl, rfl⟩
    · rcases get_app_cases h2 with h2 | ⟨rfl, rfl⟩
      · exact (s.cell n a d h1 h2).grow g l
      · exact absurd (List.getElem?_eq_some_iff.mp h1).1 (by rw [s.len]; omega)
    · rcases get_app_cases h2 with h2 | ⟨_, rfl⟩
      · exact absurd (List.getElem?_eq_some_iff.mp h2).1 (by rw [s.len]; omega)
      · exact hc
  · rcases List.mem_append.mp ha with ha | ha
    · obtain ⟨u, e⟩ := s.there a ha
      exact ⟨u, g.h _ _ e⟩
    · simp at ha
      subst ha
      exact ⟨o, upd_same⟩
theorem Le.alloc {p : Addr} : Le Z ι Z (ι ++ [p]) := ⟨Same.refl Z, fun _ _ h => get_app h⟩
/-- a cell is changed; its object o' -/
theorem SimS.write {n : Nat} {a : Addr} {o : HO} {c : Cell} (s : SimS K T Z ι st H) (hn : ι[n]? = some a) (hz : Z a = none) (hc : CellOk K T Z ι (upd H a o) a c) (ho : Hard o := by exact ⟨fun _ => nofun, fun _ => nofun⟩) : SimS K T Z ι (st.set n c) (upd H a o) := by
  have ha : a ∈ ι := List.mem_of_getElem? hn
  refine ⟨fun b u e => ?_, by simp [s.len], s.nd, fun m b d h1 h2 => ?_, fun b hb => ?_, s.tab.step (fun _ _ e => e) (fun b hb u e => ?_) (fun b u e hb => by rw [upd_ne (fun q => hb (by rw [q]; exact ha))]; exact e) fun b u e _ hz => hz⟩
  rotate_right
  · by_cases hba : b = a
    · subst hba
      rw [upd_same] at e
      cases e
      exact ho
    · rw [upd_ne hba] at e
      exact s.tab.ct b hb u e
  · have : b ≠ a := fun q => by subst q; rw [hz] at e; cases e
    rw [upd_ne this]
    exact s.sub b u e
  · by_cases hm : n = m
    · subst hm
      rw [hn] at h1; cases h1
      have hl : n < st.length := by rw [← s.len]; exact (List.getElem?_eq_some_iff.mp hn).1
      rw [List.getElem?_set_self hl] at h2
      cases h2
      exact hc
    · rw [List.getElem?_set_ne hm] at h2
      have hba : b ≠ a := fun q => by
        subst q
        obtain ⟨l1, e1⟩ := List.getElem?_eq_some_iff.mp hn
        obtain ⟨l2, e2⟩ := List.getElem?_eq_some_iff.mp h1
        exact hm ((List.getElem_inj s.nd).mp (e1.trans e2.symm))
      have q := s.cell m b d h1 h2
      cases d with
      | dead => trivial
      | lstF xs => obtain ⟨n, vs, e, r⟩ := q; exact ⟨n, vs, by rw [upd_ne hba]; exact e, r⟩
      | lstW xs => obtain ⟨n, vs, e, r⟩ := q; exact ⟨n, vs, by rw [upd_ne hba]; exact e, r⟩
      | dct xs => obtain ⟨n, vs, e, r⟩ := q; exact ⟨n, vs, by rw [upd_ne hba]; exact e, r⟩
      | dti xs => obtain ⟨n, vs, e, r⟩ := q; exact ⟨n, vs, by rw [upd_ne hba]; exact e, r⟩
      | ins c fs => obtain ⟨n, dx, fvs, e, hc, r⟩ := q; exact ⟨n, dx, fvs, by rw [upd_ne hba]; exact e, hc, r⟩
  · by_cases hba : b = a
    · subst hba
      exact ⟨o, upd_same⟩
    · obtain ⟨u, e⟩ := s.there b hb
      exact ⟨u, by rw [upd_ne hba]; exact e⟩
/-- a cell becomes data -/
theorem SimS.freeze {n : Nat} {a : Addr} {o : HO} (s : SimS K T Z ι st H) (hn : ι[n]? = some a) (hz : Z a = none) (ho : H a = some o) : SimS K T (upd Z a o) ι (st.set n .dead) H := by
  have hs : Same Z (upd Z a o) := same_new hz
  have ha : a ∈ ι := List.mem_of_getElem? hn
  refine ⟨fun b u e => ?_, by simp [s.len], s.nd, fun m b d h1 h2 => ?_, s.there, s.tab.step (fun b ps e => ?_) s.tab.ct (fun _ _ e _ => e) fun b u e hb hz => by rw [upd_ne (fun q => hb (by rw [q]; exact ha))]; exact hz⟩
  rotate_right
  · by_cases hba : b = a
    · subst hba
      rw [upd_same] at e
      cases e
      exact absurd rfl ((s.tab.ct b ha _ ho).1 ps)
    · rw [upd_ne hba] at e
      exact e
  · by_cases hb : b = a
    · subst hb; rw [upd_same] at e; cases e; exact ho
    · rw [upd_ne hb] at e; exact s.sub b u e
  · by_cases hm : n = m
    · subst hm
      have hl : n < st.length := by rw [← s.len]; exact (List.getElem?_eq_some_iff.mp hn).1
      rw [List.getElem?_set_self hl] at h2
      cases h2
      trivial
    · rw [List.getElem?_set_ne hm] at h2
      have hba : b ≠ a := fun q => by
        subst q
        obtain ⟨l1, e1⟩ := List.getElem?_eq_some_iff.mp hn
        obtain ⟨l2, e2⟩ := List.getElem?_eq_some_iff.mp h1
        exact hm ((List.getElem_inj s.nd).mp (e1.trans e2.symm))
      have l : Le Z ι (upd Z a o) ι := ⟨hs, fun _ _ h => h⟩
      have q := s.cell m b d h1 h2
      cases d with
      | dead => trivial
      | lstF xs => obtain ⟨n, vs, e, r⟩ := q; exact ⟨by rw [upd_ne hba]; exact n, vs, e, r.mono hs⟩
      | lstW xs => obtain ⟨n, vs, e, r⟩ := q; exact ⟨by rw [upd_ne hba]; exact n, vs, e, r.mono l⟩
      | dct xs => obtain ⟨n, vs, e, r⟩ := q; exact ⟨by rw [upd_ne hba]; exact n, vs, e, r.mono hs⟩
      | dti xs => obtain ⟨n, vs, e, r⟩ := q; exact ⟨by rw [upd_ne hba]; exact n, vs, e, r.mono hs⟩
      | ins c fs => obtain ⟨n, dx, fvs, e, hc, r⟩ := q; exact ⟨by rw [upd_ne hba]; exact n, dx, fvs, e, hc, r.mono l⟩
/-! ### the store cut back -/
def W.below (b : Nat) : W → Bool
  | .f _ => true
  | .loc n => decide (n < b)
def Cell.below (b : Nat) : Cell → Bool
  | .lstW xs => xs.all (W.below b)
  | .ins _ fs => fs.all fun p => p.2.below b
  | _ => true
def clean (b : Nat) (st : Store) : Bool := st.all (Cell.below b)
theorem RepW.cut {b : Nat} {v : V} {w : W} (r : RepW K T Z ι v w) (h : w.below b = true) : RepW K T Z (ι.take b) v w := by
  cases r with
  | f r => exact .f r
  | loc e =>
    rename_i n
    have hb : n < b := of_decide_eq_true h
    exact .loc (by rw [List.getElem?_take_of_lt hb]; exact e)
theorem RepWs.cut {b : Nat} : ∀ {vs : List V} {ws : List W}, RepWs K T Z ι vs ws → ws.all (W.below b) = true → RepWs K T Z (ι.take b) vs ws
  | _, _, .nil, _ => .nil
  | _, _, .cons r t, h => by
    rw [List.all_cons, Bool.and_eq_true] at h
    exact .cons (r.cut h.1) (RepWs.cut t h.2)
theorem RepWd.cut {b : Nat} : ∀ {c : Nat} {vs : List (Str × V)} {ws : List (Nat × W)}, RepWd K T Z ι c vs ws → (ws.all fun p => p.2.below b) = true → RepWd K T Z (ι.take b) c vs ws
  | _, _, _, .nil, _ => .nil
  | _, _, _, .cons k r t, h => by
    rw [List.all_cons, Bool.and_eq_true] at h
    exact .cons k (r.cut h.1) (RepWd.cut t h.2)
theorem take_get {α : Type} {l : List α} {b n : Nat} {a : α} (h : (l.take b)[n]? = some a) : l[n]? = some a ∧ n < b := by
  by_cases hb : n < b
  · rw [List.getElem?_take_of_lt hb] at h
    exact ⟨h, hb⟩
  · rw [List.getElem?_eq_none (by simp; omega)] at h
    cases h
theorem SimS.cut {b : Nat} (s : SimS K T Z ι st H) (h : clean b (st.take b) = true) : SimS K T Z (ι.take b) (st.take b) H := by
  refine ⟨s.sub, by simp [s.len], s.nd.sublist (List.take_sublist b ι), fun n a c h1 h2 => ?_, fun a ha => s.there a (List.mem_of_mem_take ha), s.tab.sub fun a ha => List.mem_of_mem_take ha⟩
  obtain ⟨h1', hb⟩ := take_get h1
  obtain ⟨h2', _⟩ := take_get h2
  have q := s.cell n a c h1' h2'
  have hc : c.below b = true := List.all_eq_true.mp h c (List.mem_of_getElem? h2)
  cases c with
  | dead => trivial
  | lstF xs => exact q
  | dct xs => exact q
  | dti xs => exact q
  | lstW xs => obtain ⟨n, vs, e, r⟩ := q; exact ⟨n, vs, e, r.cut hc⟩
  | ins c fs => obtain ⟨n, dx, fvs, e, hk, r⟩ := q; exact ⟨n, dx, fvs, e, hk, r.cut hc⟩
theorem Le.cut {b : Nat} (l : Le Z ι Z' ι') (h : ι.length ≤ b) : Le Z ι Z' (ι'.take b) := by
  refine ⟨l.z, fun n a e => ?_⟩
  have hn : n < ι.length := (List.getElem?_eq_some_iff.mp e).1
  rw [List.getElem?_take_of_lt (by omega)]
  exact l.i n a e
end
end VS

set_option Elab.async false
set_option linter.all false
set_option maxRecDepth 100000
set_option maxHeartbeats 4000000
set_option autoImplicit false
/-! VB: the judgements over plain data; names, constants, tests, statements. -/
namespace VS
open PySem PySem.Spec PyProof.Rows L2

/-- an exception's own dict at d -/
def XRep (K : PySem.W.Frag) (T : Tab) (Z H : Hp) (d : Addr) (fs : List (Nat × F)) : Prop :=
  ∃ fvs : List (Str × V), H d = some (.xd fvs) ∧ ∀ i x, (i, x) ∈ fs → ∃ v, fvs.lookup (T.fn i) = some v ∧ RepF K T Z v x
/-- .. or none, where it has no fields -/
def XRepO (K : PySem.W.Frag) (T : Tab) (Z H : Hp) (d : Option Addr) (fs : List (Nat × F)) : Prop := match d with
  | some d => XRep K T Z H d fs
  | none => fs = []
section
variable (K : PySem.W.Frag) (T : Tab) (E : XK)
def PX (Z : Hp) (ι : List Addr) (c : Nat) (fs : List (Nat × F)) (st : Store) : Prop :=
  ∀ H' Z' ι' d, Le Z ι Z' ι' → SimS K T Z' ι' st H' → XRepO K T Z' H' d fs → E (.ref (T.ca K c)) d H'
def Post {α : Type} (Z : Hp) (ι : List Addr) (r : Res α) (k : α → Store → Hp → Hp → List Addr → Prop) : Prop := match r with
  | .ok a st => ∀ H' Z' ι', Le Z ι Z' ι' → SimS K T Z' ι' st H' → k a st H' Z' ι'
  | .exc c fs st => PX K T E Z ι c fs st
  | .stuck => False
abbrev TEv := Env → Store → Res W
abbrev TTv := Env → Store → Res Bool
abbrev TAv := Env → Store → Res (List W)
def RdE (t : TEv) : TE := fun σ H Q => ∃ Z ι env st, SimS K T Z ι st H ∧ EnvR K T Z ι σ env ∧ Post K T E Z ι (t env st) fun w _ H' Z' ι' => ∀ v, RepW K T Z' ι' v w → Q v H'
def RdT (t : TTv) : TT := fun σ H Q => ∃ Z ι env st, SimS K T Z ι st H ∧ EnvR K T Z ι σ env ∧ Post K T E Z ι (t env st) fun b _ H' _ _ => Q b H'
def RdA (t : TAv) : TA := fun σ H Q => ∃ Z ι env st, SimS K T Z ι st H ∧ EnvR K T Z ι σ env ∧ Post K T E Z ι (t env st) fun ws _ H' Z' ι' => ∀ vs, RepWs K T Z' ι' vs ws → Q vs H'
inductive SR where
  | nx (env : Env) (st : Store) | rt (w : W) (st : Store) | bk (env : Env) (st : Store) | ct (env : Env) (st : Store) | exc (c : Nat) (fs : List (Nat × F)) (st : Store) | stuck
abbrev TSv := Env → Store → SR
def PostS (Z : Hp) (ι : List Addr) (r : SR) (D : Ends) : Prop := match r with
  | .nx env st => ∀ σ' H' Z' ι', Le Z ι Z' ι' → SimS K T Z' ι' st H' → EnvR K T Z' ι' σ' env → D.nx σ' H'
  | .rt w st => ∀ v H' Z' ι', Le Z ι Z' ι' → SimS K T Z' ι' st H' → RepW K T Z' ι' v w → D.rt v H'
  | .bk env st => ∀ σ' H' Z' ι', Le Z ι Z' ι' → SimS K T Z' ι' st H' → EnvR K T Z' ι' σ' env → D.bk σ' H'
  | .ct env st => ∀ σ' H' Z' ι', Le Z ι Z' ι' → SimS K T Z' ι' st H' → EnvR K T Z' ι' σ' env → D.ct σ' H'
  | .exc c fs st => PX K T E Z ι c fs st
  | .stuck => False
def RdS (t : TSv) : TS := fun D σ H => ∃ Z ι env st, SimS K T Z ι st H ∧ EnvR K T Z ι σ env ∧ PostS K T E Z ι (t env st) D
end
/-- a statement goes on with a value -/
def Res.thenS {α : Type} (r : Res α) (k : α → Store → SR) : SR := match r with
  | .ok a st => k a st
  | .exc c fs st => .exc c fs st
  | .stuck => .stuck

section
variable {K : PySem.W.Frag} {T : Tab} {E : XK} {Z Z' : Hp} {ι ι' : List Addr} {α β : Type}
theorem PX.le {c : Nat} {fs : List (Nat × F)} {st : Store} (l : Le Z ι Z' ι') (h : PX K T E Z ι c fs st) : PX K T E Z' ι' c fs st :=
  fun H' Z1 ι1 d l1 s x => h H' Z1 ι1 d (l.trans l1) s x
theorem Post.le {r : Res α} {k : α → Store → Hp → Hp → List Addr → Prop} (l : Le Z ι Z' ι') (h : Post K T E Z ι r k) : Post K T E Z' ι' r k := by
  cases r with
  | ok a st => exact fun H' Z1 ι1 l1 s => h H' Z1 ι1 (l.trans l1) s
  | exc c fs st => exact PX.le l h
  | stuck => exact h
theorem Post.bind {r : Res α} {f : α → Store → Res β} {k : β → Store → Hp → Hp → List Addr → Prop} (h : Post K T E Z ι (r.bind f) k) : Post K T E Z ι r (fun a st1 _ Z1 ι1 => Post K T E Z1 ι1 (f a st1) k) := by
  cases r with
  | ok a st => exact fun H' Z1 ι1 l1 s => Post.le l1 h
  | exc c fs st => exact h
  | stuck => exact h
theorem Post.imp {r : Res α} {k k' : α → Store → Hp → Hp → List Addr → Prop} (h : Post K T E Z ι r k) (hk : ∀ a st H' Z' ι', Le Z ι Z' ι' → SimS K T Z' ι' st H' → k a st H' Z' ι' → k' a st H' Z' ι') : Post K T E Z ι r k' := by
  cases r with
  | ok a st => exact fun H' Z1 ι1 l1 s => hk a st H' Z1 ι1 l1 s (h H' Z1 ι1 l1 s)
  | exc c fs st => exact h
  | stuck => exact h
theorem PostS.le {r : SR} {D : Ends} (l : Le Z ι Z' ι') (h : PostS K T E Z ι r D) : PostS K T E Z' ι' r D := by
  cases r with
  | nx env st => exact fun σ H' Z1 ι1 l1 s e => h σ H' Z1 ι1 (l.trans l1) s e
  | rt w st => exact fun v H' Z1 ι1 l1 s e => h v H' Z1 ι1 (l.trans l1) s e
  | bk env st => exact fun σ H' Z1 ι1 l1 s e => h σ H' Z1 ι1 (l.trans l1) s e
  | ct env st => exact fun σ H' Z1 ι1 l1 s e => h σ H' Z1 ι1 (l.trans l1) s e
  | exc c fs st => exact PX.le l h
  | stuck => exact h
theorem PostS.thenS {r : Res α} {f : α → Store → SR} {D : Ends} (h : PostS K T E Z ι (r.thenS f) D) : Post K T E Z ι r (fun a st1 _ Z1 ι1 => PostS K T E Z1 ι1 (f a st1) D) := by
  cases r with
  | ok a st => exact fun H' Z1 ι1 l1 s => PostS.le l1 h
  | exc c fs st => exact h
  | stuck => exact h
end

/-! ### weaker readings -/
theorem pe_weak {X : Cx} {e : Expr} {t t' : TE} (h : PE X e t) (w : ∀ σ H Q, t' σ H Q → t σ H Q) : PE X e t' := ⟨fun pins s σ H Q I q => h.run pins s σ H Q I (w σ H Q q)⟩
theorem pt_weak {X : Cx} {e : Expr} {t t' : TT} (h : PT X e t) (w : ∀ σ H Q, t' σ H Q → t σ H Q) : PT X e t' := ⟨fun pins s σ H Q I q => h.run pins s σ H Q I (w σ H Q q)⟩
theorem pw_weak {X : Cx} {e : Expr} {t t' : TT} (h : PW X e t) (w : ∀ σ H Q, t' σ H Q → t σ H Q) : PW X e t' := ⟨fun wh pins s σ H Q I q => h.run wh pins s σ H Q I (w σ H Q q)⟩
theorem pa_weak {X : Cx} {e : List Expr} {t t' : TA} (h : PA X e t) (w : ∀ σ H Q, t' σ H Q → t σ H Q) : PA X e t' := ⟨fun p pins s σ H Q I q => h.run p pins s σ H Q I (w σ H Q q)⟩
theorem ps_weak {X : Cx} {e : Stmt} {t t' : TS} (h : PS X e t) (w : ∀ D σ H, t' D σ H → t D σ H) : PS X e t' := ⟨fun pins s σ H Q I q => h.run pins s σ H Q I (w Q σ H q)⟩
theorem pss_weak {X : Cx} {e : List Stmt} {t t' : TS} (h : PSs X e t) (w : ∀ D σ H, t' D σ H → t D σ H) : PSs X e t' := ⟨fun pins s σ H Q I q => h.run pins s σ H Q I (w Q σ H q)⟩
theorem pi_weak {X : Cx} {tg e : Expr} {t t' : TI} (h : PI X tg e t) (w : ∀ σ H Q, t' σ H Q → t σ H Q) : PI X tg e t' := ⟨fun pins s σ H Q I q => h.run pins s σ H Q I (w σ H Q q)⟩
theorem pg_weak {X : Cx} {e : Expr} {t t' : TG} (h : PG X e t) (w : ∀ v σ H Q, t' v σ H Q → t v σ H Q) : PG X e t' := ⟨fun pins s σ H v u Q I r q => h.run pins s σ H v u Q I r (w v σ H Q q)⟩

/-! ### the judgements -/
abbrev VE (X : Cx) (T : Tab) (E : XK) (e : Expr) (t : TEv) : Prop := PE X e (RdE X.K T E t)
abbrev VT (X : Cx) (T : Tab) (E : XK) (e : Expr) (t : TTv) : Prop := PT X e (RdT X.K T E t)
abbrev VW (X : Cx) (T : Tab) (E : XK) (e : Expr) (t : TTv) : Prop := PW X e (RdT X.K T E t)
abbrev VA (X : Cx) (T : Tab) (E : XK) (e : List Expr) (t : TAv) : Prop := PA X e (RdA X.K T E t)
abbrev VS (X : Cx) (T : Tab) (E : XK) (e : Stmt) (t : TSv) : Prop := PS X e (RdS X.K T E t)
abbrev VB (X : Cx) (T : Tab) (E : XK) (e : List Stmt) (t : TSv) : Prop := PSs X e (RdS X.K T E t)

section
variable {X : Cx} {T : Tab} {E : XK} {a b c e : Expr} {ta tb tc te : TEv} {pos : Pos}
/-! ### names and constants -/
def eVar (i : Nat) : TEv := fun env st => match env[i]? with
  | some (some w) => .ok w st
  | _ => .stuck
def eC (x : F) : TEv := fun _ st => .ok (.f x) st
theorem ve_var {i : Nat} {x : Str} (hN : X.N[i]? = some x) (hv : Vis X.env.scope x) (hd : (x == ("__debug__" : Str)) = false := by decide) (hcd : (x == ("__classdict__" : Str)) = false := by decide) : VE X T E (.Name x pos) (eVar i) := by
  refine pe_weak (pe_var hN hv hd hcd) fun σ H Q h => ?_
  obtain ⟨Z, ι, env, st, s, r, p⟩ := h
  unfold eVar at p
  cases q : env[i]? with
  | none => rw [q] at p; exact p.elim
  | some o =>
    cases o with
    | none => rw [q] at p; exact p.elim
    | some w =>
      rw [q] at p
      obtain ⟨v, e, rv⟩ := r.get i w q
      exact ⟨v, e, p H Z ι Le.refl s v rv⟩
theorem rd_c {K : PySem.W.Frag} {x : F} {v : V} (hr : ∀ Z, RepF K T Z v x) {σ : L2.St} {H : Hp} {Q : VK} (h : RdE K T E (eC x) σ H Q) : tC v σ H Q := by
  obtain ⟨Z, ι, env, st, s, r, p⟩ := h
  exact p H Z ι Le.refl s v (.f (hr Z))
theorem ve_int {i : Int} {j : Nat} : VE X T E (.Constant (.int i) j pos) (eC (.int i)) := pe_weak pe_int fun _ _ _ h => rd_c (fun Z => .int i) h
theorem ve_bl {i : Bool} {j : Nat} : VE X T E (.Constant (.bool i) j pos) (eC (.bl i)) := pe_weak pe_bl fun _ _ _ h => rd_c (fun Z => .bl i) h
theorem ve_non {j : Nat} : VE X T E (.Constant .none j pos) (eC .non) := pe_weak pe_non fun _ _ _ h => rd_c (fun Z => .non) h
/-! ### two values -/
/-- data out of the store: a cell's list or dict is looked at -/
def lookC : Option Cell → Option F
  | some (.lstF xs) => some (.lst xs)
  | some (.dct kvs) => some (.dct kvs)
  | _ => none
def look (st : Store) : W → Option F
  | .f x => some x
  | .loc n => lookC st[n]?
/-- data as it is to be seen in H -/
inductive View (K : PySem.W.Frag) (T : Tab) (Z H : Hp) : V → F → Prop
  | f {v : V} {x : F} : RepF K T Z v x → View K T Z H v x
  | lst {a : Addr} {vs : List V} {xs : List F} : H a = some (.lst vs) → RepFs K T Z vs xs → View K T Z H (.ref a) (.lst xs)
  | dct {a : Addr} {kvs : List (Key × V)} {kfs : List (F × F)} : H a = some (.dK kvs) → RepFk K T Z kvs kfs → View K T Z H (.ref a) (.dct kfs)
theorem RepW.view {K : PySem.W.Frag} {Z H : Hp} {ι : List Addr} {st : Store} {v : V} {w : W} {x : F} (s : SimS K T Z ι st H) (r : RepW K T Z ι v w) (h : look st w = some x) : View K T Z H v x := by
  cases r with
  | f r => cases h; exact .f r
  | loc e =>
    rename_i a n
    have h : lookC st[n]? = some x := h
    cases q : st[n]? with
    | none => rw [q] at h; cases h
    | some c =>
      rw [q] at h
      have k := s.cell n a c e q
      cases c with
      | dead => cases h
      | lstF xs => cases h; obtain ⟨_, vs, e1, r1⟩ := k; exact .lst e1 r1
      | lstW xs => cases h
      | dct xs => cases h; obtain ⟨_, vs, e1, r1⟩ := k; exact .dct e1 r1
      | dti xs => cases h
      | ins c fs => cases h
/-- a reading that hands on data: nothing old is touched -/
def Give (K : PySem.W.Frag) (T : Tab) (Z H : Hp) (z : F) (Q : VK) : Prop := ∀ v H' Z', Grow Z H Z' H' → RepF K T Z' v z → Q v H'
theorem Give.here {K : PySem.W.Frag} {Z H : Hp} {z : F} {Q : VK} (g : Give K T Z H z Q) (s : Same Z H) {v : V} (r : RepF K T Z v z) : Q v H := g v H Z (Grow.refl s) r
theorem Give.new {K : PySem.W.Frag} {Z H : Hp} {z : F} {Q : VK} (g : Give K T Z H z Q) (s : Same Z H) {p : Addr} {o : HO} (hp : H p = none) (r : RepF K T (upd Z p o) (.ref p) z) (ht : ∀ ps, o ≠ .tbl ps := by intro _ h; cases h) : Q (.ref p) (upd H p o) := g _ _ _ (Grow.laid s hp ht) r
/-- an operation on two values does g on data -/
def Op2 (X : Cx) (T : Tab) (r : R2) (g : F → F → Option F) : Prop := ∀ Z H x y fx fy z Q, Same Z H → View X.K T Z H x fx → View X.K T Z H y fy → g fx fy = some z → Give X.K T Z H z Q → r x y H Q
def Op1 (X : Cx) (T : Tab) (r : V → Hp → VK → Prop) (g : F → Option F) : Prop := ∀ Z H x fx z Q, Same Z H → View X.K T Z H x fx → g fx = some z → Give X.K T Z H z Q → r x H Q
def ofOpt (o : Option F) (st : Store) : Res W := match o with
  | some z => .ok (.f z) st
  | none => .stuck
def lk1 (g : F → Option F) (w : W) (st : Store) : Res W := ofOpt ((look st w).bind g) st
def lk2 (g : F → F → Option F) (w u : W) (st : Store) : Res W := ofOpt ((look st w).bind fun x => (look st u).bind fun y => g x y) st
def eOp1 (g : F → Option F) (ta : TEv) : TEv := fun env st => (ta env st).bind fun w st1 => lk1 g w st1
def eOp2 (g : F → F → Option F) (ta tb : TEv) : TEv := fun env st => (ta env st).bind fun w st1 => (tb env st1).bind fun u st2 => lk2 g w u st2
theorem lk1_ok {K : PySem.W.Frag} {Z H : Hp} {ι : List Addr} {g : F → Option F} {w : W} {st : Store} {Q : VK} (s : SimS K T Z ι st H) (h : Post K T E Z ι (lk1 g w st) fun w _ H' Z' ι' => ∀ v, RepW K T Z' ι' v w → Q v H') :
    ∃ x z, look st w = some x ∧ g x = some z ∧ Give K T Z H z Q := by
  unfold lk1 at h
  cases q : look st w with
  | none => rw [q] at h; exact h.elim
  | some x =>
    rw [q] at h
    cases q1 : g x with
    | none => simp only [Option.bind_some, q1] at h; exact h.elim
    | some z =>
      simp only [Option.bind_some, q1] at h
      exact ⟨x, z, rfl, q1, fun v H' Z' gr r => h H' Z' ι gr.le (s.grow gr) v (.f r)⟩
theorem lk2_ok {K : PySem.W.Frag} {Z H : Hp} {ι : List Addr} {g : F → F → Option F} {w u : W} {st : Store} {Q : VK} (s : SimS K T Z ι st H) (h : Post K T E Z ι (lk2 g w u st) fun w _ H' Z' ι' => ∀ v, RepW K T Z' ι' v w → Q v H') :
    ∃ x y z, look st w = some x ∧ look st u = some y ∧ g x y = some z ∧ Give K T Z H z Q := by
  unfold lk2 at h
  cases q : look st w with
  | none => rw [q] at h; exact h.elim
  | some x =>
    rw [q] at h
    cases q0 : look st u with
    | none => rw [q0] at h; exact h.elim
    | some y =>
      rw [q0] at h
      cases q1 : g x y with
      | none => simp only [Option.bind_some, q1] at h; exact h.elim
      | some z =>
        simp only [Option.bind_some, q1] at h
        exact ⟨x, y, z, rfl, rfl, q1, fun v H' Z' gr r => h H' Z' ι gr.le (s.grow gr) v (.f r)⟩
theorem rd_op2 {r : R2} {g : F → F → Option F} (ho : Op2 X T r g) {σ : L2.St} {H : Hp} {Q : VK} (h : RdE X.K T E (eOp2 g ta tb) σ H Q) : tOp r (RdE X.K T E ta) (RdE X.K T E tb) σ H Q := by
  obtain ⟨Z, ι, env, st, s, re, p⟩ := h
  refine ⟨Z, ι, env, st, s, re, (Post.bind p).imp fun w st1 H1 Z1 ι1 l1 s1 p1 v rv => ?_⟩
  refine ⟨Z1, ι1, env, st1, s1, re.mono l1, (Post.bind p1).imp fun u st2 H2 Z2 ι2 l2 s2 p2 v2 rv2 => ?_⟩
  obtain ⟨x, y, z, e1, e2, e3, g⟩ := lk2_ok s2 p2
  exact ho Z2 H2 v v2 x y z Q s2.sub ((rv.mono l2).view s2 e1) (rv2.view s2 e2) e3 g
theorem rd_op1 {r : V → Hp → VK → Prop} {g : F → Option F} (ho : Op1 X T r g) {σ : L2.St} {H : Hp} {Q : VK} (h : RdE X.K T E (eOp1 g ta) σ H Q) : tUn r (RdE X.K T E ta) σ H Q := by
  obtain ⟨Z, ι, env, st, s, re, p⟩ := h
  refine ⟨Z, ι, env, st, s, re, (Post.bind p).imp fun w st1 H1 Z1 ι1 l1 s1 p1 v rv => ?_⟩
  obtain ⟨x, z, e1, e3, g⟩ := lk1_ok s1 p1
  exact ho Z1 H1 v x z Q s1.sub (rv.view s1 e1) e3 g
theorem ve_op {op : Operator} {r : R2} {g : F → F → Option F} (hr : OpR X (binaryOp op) r) (ho : Op2 X T r g) (ha : VE X T E a ta) (hb : VE X T E b tb) : VE X T E (.BinOp a op b pos) (eOp2 g ta tb) :=
  pe_weak (pe_op hr ha hb) fun _ _ _ h => rd_op2 ho h
theorem ve_un {op : UnaryOp} {r : V → Hp → VK → Prop} {g : F → Option F} (hr : UnR X (unaryOp op) r) (ho : Op1 X T r g) (ha : VE X T E a ta) : VE X T E (.UnaryOp op a pos) (eOp1 g ta) :=
  pe_weak (pe_un hr ha) fun _ _ _ h => rd_op1 ho h
theorem ve_cmp {op : CmpOp} {r : R2} {g : F → F → Option F} (hr : OpR X (compareOp op) r) (ho : Op2 X T r g) (ha : VE X T E a ta) (hb : VE X T E b tb) (hm : behindInMarks op b = false) : VE X T E (.Compare a [op] [b] pos) (eOp2 g ta tb) :=
  pe_weak (pe_cmpR hr ha hb hm) fun _ _ _ h => rd_op2 ho h

/-! ### tests -/
def toB : W → Option Bool
  | .f (.bl b) => some b
  | _ => none
def asB (w : W) (st : Store) : Res Bool := match toB w with
  | some b => .ok b st
  | none => .stuck
/-- a value that is a bool, as a test -/
def tVal (t : TEv) : TTv := fun env st => (t env st).bind fun w st1 => asB w st1
theorem toB_some {w : W} {b : Bool} (h : toB w = some b) : w = .f (.bl b) := by
  cases w with
  | loc n => cases h
  | f x => cases x <;> first | (cases h; rfl) | cases h
theorem rd_tval {K : PySem.W.Frag} {σ : L2.St} {H : Hp} {Q : Bool → Hp → Prop} (h : RdT K T E (tVal te) σ H Q) : RdE K T E te σ H (fun x H1 => ∃ c, x = .bl c ∧ Q c H1) := by
  obtain ⟨Z, ι, env, st, s, re, p⟩ := h
  refine ⟨Z, ι, env, st, s, re, (Post.bind p).imp fun w st1 H1 Z1 ι1 l1 s1 p1 v rv => ?_⟩
  unfold asB at p1
  cases q : toB w with
  | none => rw [q] at p1; exact p1.elim
  | some b =>
    rw [q] at p1
    cases toB_some q
    cases rv with
    | f rv => cases rv; exact ⟨b, rfl, p1 H1 Z1 ι1 Le.refl s1⟩
/-- any expression whose value is a bool -/
theorem vt_val (h : VE X T E e te) (he : ∀ whole, isTrue e X.env whole = (do let v ← whole; standAt e.pos; holding [v] (truthy v)) := by intro _; rfl) : VT X T E e (tVal te) :=
  pt_weak (pt_val h he) fun _ _ _ q => rd_tval q
theorem vt_cmp {op : CmpOp} {r : R2} {g : F → F → Option F} (hr : OpR X (compareOp op) r) (ho : Op2 X T r g) (ha : VE X T E a ta) (hb : VE X T E b tb) (hm : behindInMarks op b = false) : VT X T E (.Compare a [op] [b] pos) (tVal (eOp2 g ta tb)) :=
  pt_weak (pt_cmpR hr ha hb hm) fun σ H Q h => by
    obtain ⟨Z, ι, env, st, s, re, p⟩ := rd_tval h
    exact rd_op2 ho ⟨Z, ι, env, st, s, re, p⟩
variable {wa wb wc : TTv}
def tAndV (p q : TTv) : TTv := fun env st => (p env st).bind fun b st1 => if b = true then q env st1 else .ok false st1
def tOrV (p q : TTv) : TTv := fun env st => (p env st).bind fun b st1 => if b = true then .ok true st1 else q env st1
def tNotV (p : TTv) : TTv := fun env st => (p env st).bind fun b st1 => .ok (!b) st1
theorem rd_and {K : PySem.W.Frag} {σ : L2.St} {H : Hp} {Q : Bool → Hp → Prop} (h : RdT K T E (tAndV wa wb) σ H Q) : tAnd (RdT K T E wa) (RdT K T E wb) σ H Q := by
  obtain ⟨Z, ι, env, st, s, re, p⟩ := h
  refine ⟨Z, ι, env, st, s, re, (Post.bind p).imp fun b st1 H1 Z1 ι1 l1 s1 p1 => ?_⟩
  cases b with
  | true => exact ⟨Z1, ι1, env, st1, s1, re.mono l1, p1⟩
  | false => exact p1 H1 Z1 ι1 Le.refl s1
theorem rd_or {K : PySem.W.Frag} {σ : L2.St} {H : Hp} {Q : Bool → Hp → Prop} (h : RdT K T E (tOrV wa wb) σ H Q) : tOr (RdT K T E wa) (RdT K T E wb) σ H Q := by
  obtain ⟨Z, ι, env, st, s, re, p⟩ := h
  refine ⟨Z, ι, env, st, s, re, (Post.bind p).imp fun b st1 H1 Z1 ι1 l1 s1 p1 => ?_⟩
  cases b with
  | false => exact ⟨Z1, ι1, env, st1, s1, re.mono l1, p1⟩
  | true => exact p1 H1 Z1 ι1 Le.refl s1
variable {rest : List Expr}
theorem vw_and1 (ha : VT X T E a wa) : VW X T E (.BoolOp .And [a] pos) wa := pw_and1 ha
theorem vw_or1 (ha : VT X T E a wa) : VW X T E (.BoolOp .Or [a] pos) wa := pw_or1 ha
theorem vw_and (ha : VT X T E a wa) (hb : VW X T E (.BoolOp .And (b :: rest) pos) wb) : VW X T E (.BoolOp .And (a :: b :: rest) pos) (tAndV wa wb) := pw_weak (pw_and ha hb) fun _ _ _ h => rd_and h
theorem vw_or (ha : VT X T E a wa) (hb : VW X T E (.BoolOp .Or (b :: rest) pos) wb) : VW X T E (.BoolOp .Or (a :: b :: rest) pos) (tOrV wa wb) := pw_weak (pw_or ha hb) fun _ _ _ h => rd_or h
theorem VW.vt (h : VW X T E a wa) : VT X T E a wa := PW.pt h
theorem vt_not (ha : VT X T E a wa) : VT X T E (.UnaryOp .Not a pos) (tNotV wa) := pt_weak (pt_not ha) fun σ H Q h => by
  obtain ⟨Z, ι, env, st, s, re, p⟩ := h
  exact ⟨Z, ι, env, st, s, re, (Post.bind p).imp fun b st1 H1 Z1 ι1 l1 s1 p1 => p1 H1 Z1 ι1 Le.refl s1⟩
/-- .. as values -/
def eAnd (p q : TEv) : TEv := fun env st => (p env st).bind fun w st1 => (asB w st1).bind fun b st2 => if b = true then q env st2 else .ok (.f (.bl false)) st2
def eNot (p : TEv) : TEv := fun env st => (p env st).bind fun w st1 => (asB w st1).bind fun b st2 => .ok (.f (.bl (!b))) st2
theorem asB_ok {K : PySem.W.Frag} {Z : Hp} {ι : List Addr} {w : W} {v : V} {st : Store} {β : Type} {f : Bool → Store → Res β} {k : β → Store → Hp → Hp → List Addr → Prop} (rv : RepW K T Z ι v w) (h : Post K T E Z ι ((asB w st).bind f) k) : ∃ b, w = .f (.bl b) ∧ v = .bl b ∧ Post K T E Z ι (f b st) k := by
  unfold asB at h
  cases q : toB w with
  | none => rw [q] at h; exact h.elim
  | some b =>
    rw [q] at h
    cases toB_some q
    cases rv with
    | f rv => cases rv; exact ⟨b, rfl, rfl, h⟩
theorem ve_one {op : BoolOp} (h : VE X T E a ta) : VE X T E (.BoolOp op [a] pos) ta := pe_one h
theorem ve_and (ha : VE X T E a ta) (hb : VE X T E (.BoolOp .And (b :: rest) pos) tb) : VE X T E (.BoolOp .And (a :: b :: rest) pos) (eAnd ta tb) := pe_weak (pe_and ha hb) fun σ H Q h => by
  obtain ⟨Z, ι, env, st, s, re, p⟩ := h
  refine ⟨Z, ι, env, st, s, re, (Post.bind p).imp fun w st1 H1 Z1 ι1 l1 s1 p1 v rv => ?_⟩
  obtain ⟨b, rfl, rfl, p2⟩ := asB_ok rv p1
  refine ⟨b, rfl, ?_⟩
  cases b with
  | true => exact ⟨Z1, ι1, env, st1, s1, re.mono l1, p2⟩
  | false => exact p2 H1 Z1 ι1 Le.refl s1 _ (.f (.bl false))
theorem ve_not (ha : VE X T E a ta) : VE X T E (.UnaryOp .Not a pos) (eNot ta) := pe_weak (pe_not ha) fun σ H Q h => by
  obtain ⟨Z, ι, env, st, s, re, p⟩ := h
  refine ⟨Z, ι, env, st, s, re, (Post.bind p).imp fun w st1 H1 Z1 ι1 l1 s1 p1 v rv => ?_⟩
  obtain ⟨b, rfl, rfl, p2⟩ := asB_ok rv p1
  exact ⟨b, rfl, p2 H1 Z1 ι1 Le.refl s1 _ (.f (.bl (!b)))⟩
def eIf (p : TTv) (ta tb : TEv) : TEv := fun env st => (p env st).bind fun b st1 => if b = true then ta env st1 else tb env st1
theorem ve_if (hc : VT X T E c wa) (ha : VE X T E a ta) (hb : VE X T E b tb) : VE X T E (.IfExp c a b pos) (eIf wa ta tb) := pe_weak (pe_ifExp hc ha hb) fun σ H Q h => by
  obtain ⟨Z, ι, env, st, s, re, p⟩ := h
  refine ⟨Z, ι, env, st, s, re, (Post.bind p).imp fun b st1 H1 Z1 ι1 l1 s1 p1 => ?_⟩
  cases b with
  | true => exact ⟨Z1, ι1, env, st1, s1, re.mono l1, p1⟩
  | false => exact ⟨Z1, ι1, env, st1, s1, re.mono l1, p1⟩
/-- a op1 b op2 c -/
def eChain (g g' : F → F → Option F) (ta tb tc : TEv) : TEv := fun env st => (ta env st).bind fun w st1 => (tb env st1).bind fun u st2 => (lk2 g w u st2).bind fun z st3 => (asB z st3).bind fun k st4 => if k = true then (tc env st4).bind fun y st5 => lk2 g' u y st5 else .ok (.f (.bl false)) st4
theorem rd_chain {r r' : R2} {g g' : F → F → Option F} (ho : Op2 X T r g) (ho' : Op2 X T r' g') {σ : L2.St} {H : Hp} {Q : VK} (h : RdE X.K T E (eChain g g' ta tb tc) σ H Q) : tChain r r' (RdE X.K T E ta) (RdE X.K T E tb) (RdE X.K T E tc) σ H Q := by
  obtain ⟨Z, ι, env, st, s, re, p⟩ := h
  refine ⟨Z, ι, env, st, s, re, (Post.bind p).imp fun w st1 H1 Z1 ι1 l1 s1 p1 v rv => ?_⟩
  refine ⟨Z1, ι1, env, st1, s1, re.mono l1, (Post.bind p1).imp fun u st2 H2 Z2 ι2 l2 s2 p2 v2 rv2 => ?_⟩
  have p3 := Post.bind p2
  unfold lk2 at p3
  cases q : look st2 w with
  | none => rw [q] at p3; exact p3.elim
  | some x =>
    rw [q] at p3
    cases q0 : look st2 u with
    | none => rw [q0] at p3; exact p3.elim
    | some y =>
      rw [q0] at p3
      cases q1 : g x y with
      | none => simp only [Option.bind_some, q1] at p3; exact p3.elim
      | some z =>
        simp only [Option.bind_some, q1] at p3
        refine ho Z2 H2 v v2 x y z _ s2.sub ((rv.mono l2).view s2 q) (rv2.view s2 q0) q1 fun v3 H3 Z3 gr rz => ?_
        have p4 := p3 H3 Z3 ι2 gr.le (s2.grow gr)
        obtain ⟨k, e1, e2, p5⟩ := asB_ok (RepW.f rz) p4
        refine ⟨k, e2, ?_⟩
        cases k with
        | false => exact p5 H3 Z3 ι2 Le.refl (s2.grow gr) _ (.f (.bl false))
        | true =>
          have s3 := s2.grow gr
          refine ⟨Z3, ι2, env, st2, s3, (re.mono l1).mono (l2.trans gr.le), (Post.bind p5).imp fun y5 st5 H5 Z5 ι5 l5 s5 p6 v5 rv5 => ?_⟩
          obtain ⟨x', y', z', e1', e2', e3', g'⟩ := lk2_ok s5 p6
          exact ho' Z5 H5 v2 v5 x' y' z' Q s5.sub (((rv2.mono gr.le).mono l5).view s5 e1') (rv5.view s5 e2') e3' g'
theorem ve_chain {op op' : CmpOp} {r r' : R2} {g g' : F → F → Option F} (hr : OpR X (compareOp op) r) (ho : Op2 X T r g) (hr' : OpR X (compareOp op') r') (ho' : Op2 X T r' g') (ha : VE X T E a ta) (hb : VE X T E b tb) (hc : VE X T E c tc) (hm : lastMarks [op, op'] [b, c] = false := by rfl) :
    VE X T E (.Compare a [op, op'] [b, c] pos) (eChain g g' ta tb tc) := pe_weak (pe_chain hr hr' ha hb hc hm) fun _ _ _ h => rd_chain ho ho' h
/-! ### arguments -/
def aNil : TAv := fun _ st => .ok [] st
def aCons (t : TEv) (r : TAv) : TAv := fun env st => (t env st).bind fun w st1 => (r env st1).bind fun ws st2 => .ok (w :: ws) st2
variable {es : List Expr} {tr : TAv}
theorem va_nil : VA X T E [] aNil := pa_weak pa_nil fun σ H Q h => by
  obtain ⟨Z, ι, env, st, s, re, p⟩ := h
  exact p H Z ι Le.refl s _ .nil
theorem va_cons (ha : VE X T E e te) (hr : VA X T E es tr) (hs : starEach (e :: es) X.env = (false, eval e X.env) :: starEach es X.env := by rfl) : VA X T E (e :: es) (aCons te tr) := pa_weak (pa_cons ha hr hs) fun σ H Q h => by
  obtain ⟨Z, ι, env, st, s, re, p⟩ := h
  refine ⟨Z, ι, env, st, s, re, (Post.bind p).imp fun w st1 H1 Z1 ι1 l1 s1 p1 v rv => ?_⟩
  refine ⟨Z1, ι1, env, st1, s1, re.mono l1, (Post.bind p1).imp fun ws st2 H2 Z2 ι2 l2 s2 p2 vs rvs => ?_⟩
  exact p2 H2 Z2 ι2 Le.refl s2 _ (.cons (rv.mono l2) rvs)
end
end VS

set_option Elab.async false
set_option linter.all false
set_option maxRecDepth 100000
set_option maxHeartbeats 4000000
set_option autoImplicit false
/-! VC: statements, targets, loops, defs. -/
namespace VS
open PySem PySem.Spec PyProof.Rows L2

section
variable {X : Cx} {T : Tab} {E : XK} {a b c e : Expr} {ta tb tc te : TEv} {wa : TTv} {pos : Pos} {s s1 s2 : Stmt} {ss : List Stmt} {u u1 u2 : TSv}
/-! ### blocks -/
def bNil : TSv := fun env st => .nx env st
def bCons (t r : TSv) : TSv := fun env st => match t env st with
  | .nx env1 st1 => r env1 st1
  | x => x
theorem vb_nil : VB X T E [] bNil := pss_weak pss_nil fun D σ H h => by
  obtain ⟨Z, ι, env, st, s, re, p⟩ := h
  exact p σ H Z ι Le.refl s re
theorem vb_cons (h1 : VS X T E s u) (h2 : VB X T E ss u1) : VB X T E (s :: ss) (bCons u u1) := pss_weak (pss_cons h1 h2) fun D σ H h => by
  obtain ⟨Z, ι, env, st, s, re, p⟩ := h
  refine ⟨Z, ι, env, st, s, re, ?_⟩
  unfold bCons at p
  cases q : u env st with
  | nx env1 st1 =>
    rw [q] at p
    exact fun σ' H' Z' ι' l s' re' => ⟨Z', ι', env1, st1, s', re', p.le l⟩
  | rt w st1 => rw [q] at p; exact p
  | bk w st1 => rw [q] at p; exact p
  | ct w st1 => rw [q] at p; exact p
  | exc c fs st1 => rw [q] at p; exact p
  | stuck => rw [q] at p; exact p
theorem vb_one (h1 : VS X T E s u) : VB X T E [s] u := pss_one h1
/-! ### small statements -/
def sNever : TSv := fun _ _ => .stuck
theorem vs_never : VS X T E s sNever := ps_weak ps_never fun D σ H h => by
  obtain ⟨Z, ι, env, st, s, re, p⟩ := h
  exact p
def sExpr (t : TEv) : TSv := fun env st => (t env st).thenS fun _ st1 => .nx env st1
theorem vs_expr (he : VE X T E e te) (hs : swapsWith e none pos.line X.env = pure false := by rfl) : VS X T E (.Expr e pos) (sExpr te) := ps_weak (ps_expr he hs) fun D σ H h => by
  obtain ⟨Z, ι, env, st, s, re, p⟩ := h
  exact ⟨Z, ι, env, st, s, re, (PostS.thenS p).imp fun w st1 H1 Z1 ι1 l1 s1 p1 v rv => p1 σ H1 Z1 ι1 Le.refl s1 (re.mono l1)⟩
def sRet (t : TEv) : TSv := fun env st => (t env st).thenS fun w st1 => .rt w st1
theorem vs_ret (he : VE X T E e te) : VS X T E (.Return (some e) pos) (sRet te) := ps_weak (ps_ret he) fun D σ H h => by
  obtain ⟨Z, ι, env, st, s, re, p⟩ := h
  exact ⟨Z, ι, env, st, s, re, (PostS.thenS p).imp fun w st1 H1 Z1 ι1 l1 s1 p1 v rv => p1 v H1 Z1 ι1 Le.refl s1 rv⟩
def sIf (w : TTv) (t r : TSv) : TSv := fun env st => (w env st).thenS fun b st1 => if b = true then t env st1 else r env st1
theorem vs_if {sa sb : List Stmt} (hc : VT X T E c wa) (ha : VB X T E sa u1) (hb : VB X T E sb u2) : VS X T E (.If c sa sb pos) (sIf wa u1 u2) := ps_weak (ps_if hc ha hb) fun D σ H h => by
  obtain ⟨Z, ι, env, st, s, re, p⟩ := h
  refine ⟨Z, ι, env, st, s, re, (PostS.thenS p).imp fun b st1 H1 Z1 ι1 l1 s1 p1 => ?_⟩
  cases b with
  | true => exact ⟨Z1, ι1, env, st1, s1, re.mono l1, p1⟩
  | false => exact ⟨Z1, ι1, env, st1, s1, re.mono l1, p1⟩
def sSet (i : Nat) (t : TEv) : TSv := fun env st => (t env st).thenS fun w st1 => .nx (env.set i (some w)) st1
theorem vs_set {i : Nat} {x : Str} {pos' : Pos} (hN : X.N.Nodup) (hi : X.N[i]? = some x) (hx : Loc X.env.scope x) (he : VE X T E e te) (hs : swapsWith e (some (.Name x pos')) pos.line X.env = pure false := by rfl) (hf : X.fn x = true ∨ X.env.scope.names.lookup x = some .local := by first | exact .inl rfl | exact .inr rfl | assumption) :
    VS X T E (.Assign [.Name x pos'] e pos) (sSet i te) := ps_weak (ps_set hN hi hx he hs hf) fun D σ H h => by
  obtain ⟨Z, ι, env, st, s, re, p⟩ := h
  exact ⟨Z, ι, env, st, s, re, (PostS.thenS p).imp fun w st1 H1 Z1 ι1 l1 s1 p1 v rv => p1 _ H1 Z1 ι1 Le.refl s1 ((re.mono l1).set rv i)⟩
/-! ### targets -/
abbrev TGv := W → Env → Option Env
abbrev TGsv := List F → Env → Option Env
def RdG (K : PySem.W.Frag) (T : Tab) (g : TGv) : TG := fun v σ H Q => ∃ Z ι env st w env', SimS K T Z ι st H ∧ EnvR K T Z ι σ env ∧ RepW K T Z ι v w ∧ g w env = some env' ∧ ∀ σ', EnvR K T Z ι σ' env' → Q σ' H
def RdGs (K : PySem.W.Frag) (T : Tab) (g : TGsv) : TGs := fun vs σ H Q => ∃ Z ι env st xs env', SimS K T Z ι st H ∧ EnvR K T Z ι σ env ∧ RepFs K T Z vs xs ∧ g xs env = some env' ∧ ∀ σ', EnvR K T Z ι σ' env' → Q σ' H
abbrev VG (X : Cx) (T : Tab) (e : Expr) (g : TGv) : Prop := PG X e (RdG X.K T g)
abbrev VGs (X : Cx) (T : Tab) (es : List Expr) (g : TGsv) : Prop := PGs X es (RdGs X.K T g)
def gNm (i : Nat) : TGv := fun w env => some (env.set i (some w))
def gsNil : TGsv := fun xs env => match xs with
  | [] => some env
  | _ => none
def gsCons (g : TGv) (gs : TGsv) : TGsv := fun xs env => match xs with
  | x :: r => (g (.f x) env).bind fun env1 => gs r env1
  | _ => none
def gTp (gs : TGsv) : TGv := fun w env => match w with
  | .f (.tup xs) => gs xs env
  | _ => none
theorem vg_name {i : Nat} {x : Str} (hN : X.N.Nodup) (hi : X.N[i]? = some x) (hx : Loc X.env.scope x) (hf : X.fn x = true ∨ X.env.scope.names.lookup x = some .local := by first | exact .inl rfl | exact .inr rfl | assumption) : VG X T (.Name x pos) (gNm i) := pg_weak (pg_name hN hi hx hf) fun v σ H Q h => by
  obtain ⟨Z, ι, env, st, w, env', s, re, rv, e, k⟩ := h
  cases e
  exact k _ (re.set rv i)
theorem pgs_weak {es : List Expr} {t t' : TGs} (h : PGs X es t) (w : ∀ v σ H Q, t' v σ H Q → t v σ H Q) : PGs X es t' := ⟨fun pins s σ H v u Q I r q => h.run pins s σ H v u Q I r (w v σ H Q q)⟩
theorem vgs_nil : VGs X T [] gsNil := pgs_weak pgs_nil fun vs σ H Q h => by
  obtain ⟨Z, ι, env, st, xs, env', s, re, rv, e, k⟩ := h
  cases rv with
  | nil => cases e; exact ⟨rfl, k _ re⟩
  | cons _ _ => cases e
theorem vgs_cons {es : List Expr} {g : TGv} {gs : TGsv} (h1 : VG X T e g) (h2 : VGs X T es gs)
    (hs : (assignEach (e :: es) X.env).map (·.2) = assign e X.env :: (assignEach es X.env).map (·.2) := by rfl) : VGs X T (e :: es) (gsCons g gs) := pgs_weak (pgs_cons h1 h2 hs) fun vs σ H Q h => by
  obtain ⟨Z, ι, env, st, xs, env', s, re, rv, e, k⟩ := h
  cases rv with
  | nil => cases e
  | cons r rr =>
    rename_i v x vs xs
    have e : (g (.f x) env).bind (fun env1 => gs xs env1) = some env' := e
    cases q : g (.f x) env with
    | none => rw [q] at e; cases e
    | some env1 =>
      rw [q] at e
      exact ⟨_, _, rfl, Z, ι, env, st, _, env1, s, re, .f r, q, fun σ' re' => ⟨Z, ι, env1, st, xs, env', s, re', rr, e, k⟩⟩
theorem vg_tup {es : List Expr} {k : Nat} {gs : TGsv} {n : Nat} (hc : X.calm = true) (h : VGs X T es gs) (hl : ∀ xs env env', gs xs env = some env' → xs.length = n)
    (hn : (assignEach es X.env).length = n := by rfl) (hst : (assignEach es X.env).findIdx? (·.1) = none := by rfl) : VG X T (.Tuple es k pos) (gTp gs) := pg_weak (pg_tup hc h hn hst) fun v σ H Q h => by
  obtain ⟨Z, ι, env, st, w, env', s, re, rv, e, k⟩ := h
  cases rv with
  | loc _ => cases e
  | f r =>
    cases r with
    | tup ht rs => exact ⟨_, _, rfl, same_sqt s.sub ht, by rw [rs.length]; exact hl _ _ _ e, Z, ι, env, st, _, env', s, re, rs, e, k⟩
    | _ => cases e
theorem gsNil_len {xs : List F} {env env' : Env} (h : gsNil xs env = some env') : xs.length = 0 := by
  cases xs with
  | nil => rfl
  | cons _ _ => cases h
theorem gsCons_len {g : TGv} {gs : TGsv} {n : Nat} (hl : ∀ xs env env', gs xs env = some env' → xs.length = n) : ∀ xs env env', gsCons g gs xs env = some env' → xs.length = n + 1 := by
  intro xs env env' h
  cases xs with
  | nil => cases h
  | cons x xs =>
    have h : (g (.f x) env).bind (fun env1 => gs xs env1) = some env' := h
    cases q : g (.f x) env with
    | none => rw [q] at h; cases h
    | some env1 =>
      rw [q] at h
      rw [List.length_cons, hl xs env1 env' h]
def sAsg (t : TEv) (g : TGv) : TSv := fun env st => (t env st).thenS fun w st1 => match g w env with
  | some env1 => .nx env1 st1
  | none => .stuck
theorem vs_asg {tg : Expr} {g : TGv} (he : VE X T E e te) (hg : VG X T tg g) (hs : swapsWithSole [tg] e pos.line X.env = pure false := by rfl) (hw : swappedStores [tg] e X.env = pure none := by rfl)
    (h1 : (assignEach [tg] X.env).map (·.2) = [assign tg X.env] := by rfl) : VS X T E (.Assign [tg] e pos) (sAsg te g) := ps_weak (ps_asg he hg hs hw h1) fun D σ H h => by
  obtain ⟨Z, ι, env, st, s, re, p⟩ := h
  refine ⟨Z, ι, env, st, s, re, (PostS.thenS p).imp fun w st1 H1 Z1 ι1 l1 s1 p1 v rv => ?_⟩
  cases q : g w env with
  | none => rw [q] at p1; exact p1.elim
  | some env1 =>
    rw [q] at p1
    exact ⟨Z1, ι1, env, st1, w, env1, s1, re.mono l1, rv, q, fun σ' re' => p1 σ' H1 Z1 ι1 Le.refl s1 re'⟩
/-- a, b = x, y -/
def sPar2 (i j : Nat) (t : TAv) : TSv := fun env st => (t env st).thenS fun ws st1 => match ws with
  | [w1, w2] => .nx ((env.set i (some w1)).set j (some w2)) st1
  | _ => .stuck
theorem vs_par2 {i j : Nat} {x y : Str} {tr : TAv} {px py pt : Pos} {kt k2 : Nat} {pt2 : Pos} (hc : X.calm = true) (hN : X.N.Nodup) (hi : X.N[i]? = some x) (hj : X.N[j]? = some y) (hij : i ≠ j)
    (hx : X.env.scope.names.lookup x = some .local) (hy : X.env.scope.names.lookup y = some .local) (ha : VA X T E [a, b] tr)
    (hw : swappedStores [.Tuple [.Name x px, .Name y py] kt pt] (.Tuple [a, b] k2 pt2) X.env = pure (some [x, y]))
    (hs : swapsWithSole [.Tuple [.Name x px, .Name y py] kt pt] (.Tuple [a, b] k2 pt2) pos.line X.env = pure false := by rfl) :
    VS X T E (.Assign [.Tuple [.Name x px, .Name y py] kt pt] (.Tuple [a, b] k2 pt2) pos) (sPar2 i j tr) := ps_weak (ps_par hc hN hi hj hij hx hy ha hw hs) fun D σ H h => by
  obtain ⟨Z, ι, env, st, s, re, p⟩ := h
  refine ⟨Z, ι, env, st, s, re, (PostS.thenS p).imp fun ws st1 H1 Z1 ι1 l1 s1 p1 vs rvs => ?_⟩
  cases rvs with
  | nil => exact p1.elim
  | cons r1 t1 =>
    cases t1 with
    | nil => exact p1.elim
    | cons r2 t2 =>
      cases t2 with
      | cons _ _ => exact p1.elim
      | nil => exact ⟨_, _, rfl, p1 _ H1 Z1 ι1 Le.refl s1 (((re.mono l1).set r1 i).set r2 j)⟩
/-! ### while -/
def whileF (w : TTv) (t : TSv) : Nat → TSv
  | 0, _, _ => .stuck
  | n + 1, env, st => (w env st).thenS fun k st1 => if k = true then (match t env st1 with
    | .nx env2 st2 => whileF w t n env2 st2
    | .ct env2 st2 => whileF w t n env2 st2
    | .bk env2 st2 => .nx env2 st2
    | r => r) else .nx env st1
theorem vs_while {body : List Stmt} (n : Nat) (hp : PassesOwn (model X.prog X.w) X.A X.env X.xe) (hc : VT X T E c wa) (hb : VB X T E body u) : VS X T E (.While c body [] pos) (whileF wa u n) := ps_weak (ps_while hp hc hb) fun D σ H h => by
  refine ⟨fun m σ H => RdS X.K T E (whileF wa u m) D σ H, ⟨n, h⟩, fun m σ H h => ?_⟩
  obtain ⟨Z, ι, env, st, s, re, p⟩ := h
  cases m with
  | zero => exact p.elim
  | succ m =>
    refine ⟨Z, ι, env, st, s, re, (PostS.thenS p).imp fun k st1 H1 Z1 ι1 l1 s1 p1 => ?_⟩
    cases k with
    | false => exact p1 σ H1 Z1 ι1 Le.refl s1 (re.mono l1)
    | true =>
      refine ⟨fun σ' H' => RdS X.K T E (whileF wa u m) D σ' H', fun σ' H' q => ⟨m, Nat.lt_succ_self m, q⟩, Z1, ι1, env, st1, s1, re.mono l1, ?_⟩
      have p1 : PostS X.K T E Z1 ι1 (match u env st1 with
        | .nx env2 st2 => whileF wa u m env2 st2
        | .ct env2 st2 => whileF wa u m env2 st2
        | .bk env2 st2 => .nx env2 st2
        | r => r) D := p1
      cases q : u env st1 with
      | nx env2 st2 => rw [q] at p1; exact fun σ' H' Z' ι' l s' re' => ⟨Z', ι', env2, st2, s', re', p1.le l⟩
      | ct env2 st2 => rw [q] at p1; exact fun σ' H' Z' ι' l s' re' => ⟨Z', ι', env2, st2, s', re', p1.le l⟩
      | bk env2 st2 => rw [q] at p1; exact p1
      | rt w st1 => rw [q] at p1; exact p1
      | exc c fs st1 => rw [q] at p1; exact p1
      | stuck => rw [q] at p1; exact p1
/-! ### for -/
def Walks (K : PySem.W.Frag) (T : Tab) (Z : Hp) (ι : List Addr) (J : It) (ws : List W) : Prop := ∀ (i : Nat) Z' ι' H' st', Le Z ι Z' ι' → SimS K T Z' ι' st' H' →
  (∀ w, ws[i]? = some w → J.go i H' ∧ ∀ x H2, J.yld i H' x H2 → ∃ Z2, Grow Z' H' Z2 H2 ∧ RepW K T Z2 ι' x w) ∧ (ws[i]? = none → J.stop i H')
abbrev TIv := Env → Store → Res (List W)
def RdI (K : PySem.W.Frag) (T : Tab) (E : XK) (t : TIv) : TI := fun σ H R => ∃ Z ι env st, SimS K T Z ι st H ∧ EnvR K T Z ι σ env ∧ Post K T E Z ι (t env st) fun ws _ H' Z' ι' => ∀ J, Walks K T Z' ι' J ws → R J H'
abbrev VI (X : Cx) (T : Tab) (E : XK) (tg e : Expr) (t : TIv) : Prop := PI X tg e (RdI X.K T E t)
def forL (g : TGv) (t : TSv) : List W → TSv
  | [], env, st => .nx env st
  | w :: ws, env, st => match g w env with
    | none => .stuck
    | some env1 => match t env1 st with
      | .nx env2 st2 => forL g t ws env2 st2
      | .ct env2 st2 => forL g t ws env2 st2
      | .bk env2 st2 => .nx env2 st2
      | r => r
def sFor (ti : TIv) (g : TGv) (t : TSv) : TSv := fun env st => (ti env st).thenS fun ws st1 => forL g t ws env st1
theorem vs_for {tg iter : Expr} {body : List Stmt} {ti : TIv} {g : TGv} (hp : PassesOwn (model X.prog X.w) X.A X.env X.xe) (hc : X.calm = true) (hi : VI X T E tg iter ti) (hg : VG X T tg g) (hb : VB X T E body u)
    (hs : ∀ x, foldedSetIterable iter X.env x = pure x := by intro _; rfl) : VS X T E (.For tg iter body [] pos) (sFor ti g u) := ps_weak (ps_for hp hc hi hg hb hs) fun D σ H h => by
  obtain ⟨Z, ι, env, st, s, re, p⟩ := h
  refine ⟨Z, ι, env, st, s, re, (PostS.thenS p).imp fun ws st1 H1 Z1 ι1 l1 s1 p1 J wk => ?_⟩
  refine ⟨fun i m σ H => ∃ Z ι env st, Le Z1 ι1 Z ι ∧ SimS X.K T Z ι st H ∧ EnvR X.K T Z ι σ env ∧ m = ws.length - i ∧ PostS X.K T E Z ι (forL g u (ws.drop i) env st) D,
    ⟨ws.length, Z1, ι1, env, st1, Le.refl, s1, re.mono l1, by simp, p1⟩, fun i m σ H h => ?_⟩
  obtain ⟨Z2, ι2, env2, st2, l2, s2, re2, hm, p2⟩ := h
  have wki := wk i Z2 ι2 H st2 l2 s2
  by_cases hlt : i < ws.length
  · have e : ws[i]? = some ws[i] := by simp [hlt]
    have ed : ws.drop i = ws[i] :: ws.drop (i + 1) := (List.drop_eq_getElem_cons hlt)
    rw [ed] at p2
    obtain ⟨go, yl⟩ := wki.1 _ e
    refine .inr ⟨go, fun σ' H' => ∃ Z ι env st, Le Z1 ι1 Z ι ∧ SimS X.K T Z ι st H' ∧ EnvR X.K T Z ι σ' env ∧ PostS X.K T E Z ι (forL g u (ws.drop (i + 1)) env st) D,
      fun σ' H' ⟨Z, ι, env, st, l, s, r, p⟩ => ⟨ws.length - (i + 1), by omega, Z, ι, env, st, l, s, r, rfl, p⟩, fun x H' y => ?_⟩
    obtain ⟨Z3, gr, rx⟩ := yl x H' y
    have p2 : PostS X.K T E Z2 ι2 (match g ws[i] env2 with
      | none => .stuck
      | some env1 => match u env1 st2 with
        | .nx env2 st2 => forL g u (ws.drop (i + 1)) env2 st2
        | .ct env2 st2 => forL g u (ws.drop (i + 1)) env2 st2
        | .bk env2 st2 => .nx env2 st2
        | r => r) D := p2
    cases q : g ws[i] env2 with
    | none => rw [q] at p2; exact p2.elim
    | some env3 =>
      rw [q] at p2
      refine ⟨Z3, ι2, env2, st2, _, env3, s2.grow gr, re2.mono gr.le, rx, q, fun σ4 re4 => ?_⟩
      refine ⟨Z3, ι2, env3, st2, s2.grow gr, re4, ?_⟩
      cases q2 : u env3 st2 with
      | nx env5 st5 => simp only [q2] at p2; exact fun σ' H' Z' ι' l s' re' => ⟨Z', ι', env5, st5, (l2.trans gr.le).trans l, s', re', p2.le (gr.le.trans l)⟩
      | ct env5 st5 => simp only [q2] at p2; exact fun σ' H' Z' ι' l s' re' => ⟨Z', ι', env5, st5, (l2.trans gr.le).trans l, s', re', p2.le (gr.le.trans l)⟩
      | bk env5 st5 => simp only [q2] at p2; exact p2.le gr.le
      | rt w st5 => simp only [q2] at p2; exact p2.le gr.le
      | exc c fs st5 => simp only [q2] at p2; exact p2.le gr.le
      | stuck => simp only [q2] at p2; exact p2
  · have ed : ws.drop i = [] := by simp; omega
    rw [ed] at p2
    exact .inl ⟨wki.2 (by simp; omega), p2 σ H Z2 ι2 Le.refl s2 re2⟩
/-! ### a def -/
abbrev FnM := List W → Store → Res W
def spV (K : PySem.W.Frag) (T : Tab) (n : Nat) (m : FnM) : Sp := fun vs H Q E => ∃ Z ι ws st, SimS K T Z ι st H ∧ RepWs K T Z ι vs ws ∧ ws.length = n ∧ Post K T E Z ι (m ws st) fun w _ H' Z' ι' => ∀ v, RepW K T Z' ι' v w → Q v H'
/-- what a call leaves of the store: its own cells are dropped, a list that it hands back stands last -/
def retC (b n : Nat) (st : Store) : Option Cell → Res W
  | some c => if c.below b = true then .ok (.loc b) (st.take b ++ [c]) else .ok (.loc n) st
  | none => .ok (.loc n) st
def retW (b : Nat) (w : W) (st : Store) : Res W := match clean b (st.take b) with
  | false => .ok w st
  | true => match w with
    | .f x => .ok (.f x) (st.take b)
    | .loc n => if n < b then .ok (.loc n) (st.take b) else retC b n st st[n]?
def runFn (n : Nat) (t : TSv) : FnM := fun ws st => match t (ws.map some ++ List.replicate (n - ws.length) none) st with
  | .rt w st1 => retW st.length w st1
  | .nx _ st1 => retW st.length (.f .non) st1
  | .exc c fs st1 => .exc c fs st1
  | _ => .stuck
/-- one cell kept behind a cut -/
theorem SimS.cutTo {K : PySem.W.Frag} {Z H : Hp} {ι : List Addr} {st : Store} {b n : Nat} {a : Addr} {c : Cell} (s : SimS K T Z ι st H) (hb : b ≤ st.length) (h : clean b (st.take b) = true) (hn : b ≤ n) (hi : ι[n]? = some a) (hc : st[n]? = some c) (hl : c.below b = true) :
    SimS K T Z (ι.take b ++ [a]) (st.take b ++ [c]) H := by
  have s0 := s.cut h
  have l : Le Z (ι.take b) Z (ι.take b ++ [a]) := ⟨Same.refl Z, fun _ _ h => get_app h⟩
  have g : Grow Z H Z H := Grow.refl s.sub
  have hlen : (ι.take b).length = b := by rw [List.length_take, s.len]; omega
  have na : a ∉ ι.take b := fun hm => by
    obtain ⟨m, hm1, e⟩ := List.getElem_of_mem hm
    rw [List.getElem_take] at e
    obtain ⟨l2, e2⟩ := List.getElem?_eq_some_iff.mp hi
    have := (List.getElem_inj s.nd).mp (e.trans e2.symm)
    omega
  refine ⟨s.sub, by simp [s.len], ?_, fun m a' d h1 h2 => ?_, fun a' ha => ?_, s.tab.sub fun b hb => by
    rcases List.mem_append.mp hb with hb | hb
    · exact List.mem_of_mem_take hb
    · simp at hb; subst hb; exact List.mem_of_getElem? hi⟩
  · rw [List.nodup_append]
    exact ⟨s0.nd, by simp, fun x hx y hy => by simp at hy; subst hy; exact fun e => na (e ▸ hx)⟩
  · rcases get_app_cases h1 with h1 | ⟨rfl, rfl⟩
    · rcases get_app_cases h2 with h2 | ⟨rfl, rfl⟩
      · exact (s0.cell m a' d h1 h2).grow g l
      · exact absurd (List.getElem?_eq_some_iff.mp h1).1 (by rw [s0.len]; omega)
    · rcases get_app_cases h2 with h2 | ⟨_, rfl⟩
      · exact absurd (List.getElem?_eq_some_iff.mp h2).1 (by rw [s0.len]; omega)
      · have q := s.cell n a' d hi hc
        cases d with
        | dead => trivial
        | lstF xs => exact q
        | dct xs => exact q
        | dti xs => exact q
        | lstW xs => obtain ⟨n, vs, e, r⟩ := q; exact ⟨n, vs, e, (r.cut hl).mono l⟩
        | ins c fs => obtain ⟨n, dx, fvs, e, hk, r⟩ := q; exact ⟨n, dx, fvs, e, hk, (r.cut hl).mono l⟩
  · rcases List.mem_append.mp ha with ha | ha
    · exact s0.there a' ha
    · simp at ha
      subst ha
      exact s.there _ (List.mem_of_getElem? hi)
theorem retW_ok {K : PySem.W.Frag} {Z Z' H' : Hp} {ι ι' : List Addr} {st' : Store} {w : W} {v : V} {Q : VK} {b : Nat} (hb : ι.length = b) (l : Le Z ι Z' ι') (s : SimS K T Z' ι' st' H') (r : RepW K T Z' ι' v w)
    (h : Post K T E Z ι (retW b w st') fun w _ H' Z' ι' => ∀ v, RepW K T Z' ι' v w → Q v H') : Q v H' := by
  have hle : b ≤ st'.length := by
    rw [← s.len]
    by_cases h0 : b = 0
    · omega
    · have : ι[b - 1]? = some ι[b - 1] := by simp
      have := (List.getElem?_eq_some_iff.mp (l.i _ _ this)).1
      omega
  have lc : Le Z ι Z' (ι'.take b) := l.cut (by omega)
  have hlen : (ι'.take b).length = b := by rw [List.length_take, s.len]; omega
  unfold retW at h
  cases q : clean b (st'.take b) with
  | false => rw [q] at h; exact h H' Z' ι' l s v r
  | true =>
    rw [q] at h
    cases r with
    | f r => exact h H' Z' _ lc (s.cut q) v (.f r)
    | loc e =>
      rename_i a n
      have h : Post K T E Z ι (if n < b then Res.ok (W.loc n) (st'.take b) else retC b n st' st'[n]?) _ := h
      by_cases hn : n < b
      · rw [if_pos hn] at h
        exact h H' Z' _ lc (s.cut q) _ (.loc (by rw [List.getElem?_take_of_lt hn]; exact e))
      · rw [if_neg hn] at h
        cases qc : st'[n]? with
        | none => rw [qc] at h; exact h H' Z' ι' l s _ (.loc e)
        | some c =>
          rw [qc] at h
          unfold retC at h
          by_cases hx : c.below b = true
          · simp only [hx, if_true] at h
            exact h H' Z' (ι'.take b ++ [a]) (lc.trans ⟨Same.refl _, fun _ _ h => get_app h⟩) (s.cutTo hle q (by omega) e qc hx) _ (.loc (by rw [List.getElem?_append_right (by omega), hlen]; simp))
          · simp only [hx] at h
            exact h H' Z' ι' l s _ (.loc e)
theorem env_start {K : PySem.W.Frag} {Z : Hp} {ι : List Addr} {N : List Str} {vs : List V} {ws : List W} (r : RepWs K T Z ι vs ws) : EnvR K T Z ι (L2.start N vs) (ws.map some ++ List.replicate (N.length - ws.length) none) := by
  refine ⟨by unfold L2.start; simp [r.length], fun i w h => ?_⟩
  by_cases hi : i < ws.length
  · rw [List.getElem?_append_left (by simp; exact hi), List.getElem?_map] at h
    have hw : ws[i]? = some w := by
      cases q : ws[i]? with
      | none => rw [q] at h; cases h
      | some u => rw [q] at h; simp at h; rw [h]
    obtain ⟨v, e, rv⟩ := r.get hw
    refine ⟨v, ?_, rv⟩
    unfold L2.start
    rw [List.getElem?_append_left (by simp; rw [r.length]; exact hi), List.getElem?_map, e]
    rfl
  · rw [List.getElem?_append_right (by simp; omega)] at h
    have := List.mem_of_getElem? h
    rw [List.mem_replicate] at this
    cases this.2
theorem rd_fn {K : PySem.W.Frag} {N : List Str} {n : Nat} {vs : List V} {H : Hp} {Q : VK} {t : TSv} (h : spV K T n (runFn N.length t) vs H Q E) : RdS K T E t { nx := fun _ H' => Q .non H', rt := Q } (L2.start N vs) H := by
  obtain ⟨Z, ι, ws, st, s, r, hl, p⟩ := h
  refine ⟨Z, ι, _, st, s, env_start (N := N) r, ?_⟩
  unfold runFn at p
  cases q : t (ws.map some ++ List.replicate (N.length - ws.length) none) st with
  | nx env1 st1 => simp only [q] at p; exact fun σ' H' Z' ι' l s' _ => retW_ok s.len l s' (.f .non) p
  | rt w st1 => simp only [q] at p; exact fun v H' Z' ι' l s' rv => retW_ok s.len l s' rv p
  | bk env1 st1 => simp only [q] at p; exact p.elim
  | ct env1 st1 => simp only [q] at p; exact p.elim
  | exc c fs st1 => simp only [q] at p; exact p
  | stuck => simp only [q] at p; exact p.elim
end
end VS

set_option Elab.async false
set_option linter.all false
set_option maxRecDepth 100000
set_option maxHeartbeats 4000000
set_option autoImplicit false
/-! VD: defs and their calls, objects, cells that become data. -/
namespace VS
open PySem PySem.Spec PyProof.Rows L2

/-- a def by its body: np parameters, n names -/
def fnM (np n : Nat) (t : TSv) : FnM := fun ws st => if ws.length = np then runFn n t ws st else .stuck
def spM (K : PySem.W.Frag) (T : Tab) (m : FnM) : Sp := fun vs H Q E => ∃ Z ι ws st, SimS K T Z ι st H ∧ RepWs K T Z ι vs ws ∧ Post K T E Z ι (m ws st) fun w _ H' Z' ι' => ∀ v, RepW K T Z' ι' v w → Q v H'
/-- the def at f, called with positional arguments, does m -/
structure Fn (P : Program) (w : World) (K : PySem.W.Frag) (mg : Str → Option Value) (base : Heap) (T : Tab) (CX : CXT) (k : Nat) (f : Addr) (m : FnM) : Prop where
  ex : ∃ (fd : FuncData) (ps : List Str) (ds : List Value) (dvs : List V) (dfs : List F) (m0 : FnM), FnOk P w K mg base CX k f fd ps (spM K T m0) ∧ Binds K fd ps ds ∧ Vals dvs ds ∧ (∀ Z, RepFs K T Z dvs dfs) ∧ m = fun ws st => m0 (ws ++ dfs.map W.f) st
  kp : PySem.W.keepIn K (.ref f) = true
section
variable {P : Program} {w : World} {K : PySem.W.Frag} {mg : Str → Option Value} {base : Heap} {T : Tab} {x qual : Str} {params : Arguments} {body : List Stmt} {scope : Scope} {dvs : List V} {kws : List (Str × V)} {f : Addr} {fd : FuncData} {N ps : List Str} {k : Nat} {t : TSv}
theorem spM_len {np n : Nat} {vs : List V} {H : Hp} {Q : VK} {E : XK} (h : spM K T (fnM np n t) vs H Q E) : vs.length = np := by
  obtain ⟨Z, ι, ws, st, s, r, p⟩ := h
  unfold fnM at p
  by_cases hl : ws.length = np
  · rw [r.length, hl]
  · rw [if_neg hl] at p
    exact p.elim
theorem fn_v0 (F : FunD K x qual params body scope dvs kws f fd) (S : FnScope N ps scope)
    (hb : ∀ (cdv : Value) (A : Around) (outer : List PySem.Env) (s : Shared) (H : Hp) (E E' : XK), Room k (A.deeper (envOfC qual scope s.heap.objs.size f cdv)) → VB (cxOf CX0 P w K mg base N qual scope f cdv A outer s H E).nox T E' body t) :
    FnOk P w K mg base CX0 (k + 1) f fd ps (spM K T (fnM ps.length N.length t)) := by
  refine F.ok S (fun vs H Q E h => spM_len h) (fun cdv A outer s H vs Q E hr h => ⟨_, (hb cdv A outer s H E E hr).nox, ?_⟩)
  refine rd_fn (n := ps.length) ?_
  have hl := spM_len h
  obtain ⟨Z, ι, ws, st, s, r, p⟩ := h
  have hw : ws.length = ps.length := by rw [← r.length]; exact hl
  unfold fnM at p
  rw [if_pos hw] at p
  exact ⟨Z, ι, ws, st, s, r, hw, p⟩
theorem Fn.mono {CX : CXT} {j : Nat} {m : FnM} (F : Fn P w K mg base T CX j f m) (h : j ≤ k) : Fn P w K mg base T CX k f m := by
  obtain ⟨fd, ps, ds, dvs, dfs, m0, F0, b, v, r, e⟩ := F.ex
  exact ⟨⟨fd, ps, ds, dvs, dfs, m0, F0.mono h, b, v, r, e⟩, F.kp⟩
theorem Fn.plain {CX : CXT} {m : FnM} (F : FnOk P w K mg base CX k f fd ps (spM K T m)) (b : Binds K fd ps []) (kp : PySem.W.keepIn K (.ref f) = true) : Fn P w K mg base T CX k f m :=
  ⟨⟨fd, ps, [], [], [], m, F, b, .nil, fun _ => .nil, by simp⟩, kp⟩
theorem Fn.dfl {CX : CXT} {m : FnM} {ds : List Value} {dvs : List V} (dfs : List F) (F : FnOk P w K mg base CX k f fd ps (spM K T m)) (b : Binds K fd ps ds) (v : Vals dvs ds) (r : ∀ Z, RepFs K T Z dvs dfs) (kp : PySem.W.keepIn K (.ref f) = true) :
    Fn P w K mg base T CX k f (fun ws st => m (ws ++ dfs.map W.f) st) := ⟨⟨fd, ps, ds, dvs, dfs, m, F, b, v, r, rfl⟩, kp⟩
theorem RepWs.map_f {Z : Hp} {ι : List Addr} {vs : List V} {xs : List F} (h : RepFs K T Z vs xs) : RepWs K T Z ι vs (xs.map W.f) := RepWs.ofFs h
end

section
variable {X : Cx} {T : Tab} {E : XK} {CX : CXT} {k : Nat} {f C : Addr} {m : FnM} {x mn : Str} {p pos apos pos' : Pos} {e o value : Expr} {es : List Expr} {te to tv : TEv} {tr : TAv}
/-! ### calls -/
def eCall (m : FnM) (t : TAv) : TEv := fun env st => (t env st).bind fun ws st1 => m ws st1
theorem ve_call (F : Fn X.prog X.w X.K X.mg X.base T CX k f m) (hr : Room k X.A) (hg : Gl X x) (hm : X.mg x = some (.ref f)) (hx : Passes CX X E)
    (ha : VA X T E (e :: es) tr) (hdb : (x == ("__debug__" : Str)) = false := by decide) (he : starEach (e :: es) X.env = (false, eval e X.env) :: starEach es X.env := by rfl) (hpl : (backTo pos (starEach es X.env)).any (·.1) = false := by rfl) :
    VE X T E (.Call (.Name x p) (e :: es) [] pos) (eCall m tr) := by
  obtain ⟨fd, ps, ds, dvs, dfs, m0, F0, b, v, r, rfl⟩ := F.ex
  refine pe_weak (pe_call F0 hr hg hm F.kp b v hx ha hdb he hpl) fun σ H Q h => ?_
  obtain ⟨Z, ι, env, st, s, re, p⟩ := h
  exact ⟨Z, ι, env, st, s, re, (Post.bind p).imp fun ws st1 H1 Z1 ι1 l1 s1 p1 vs rvs => ⟨Z1, ι1, _, st1, s1, rvs.append (RepWs.map_f (r Z1)), p1⟩⟩
/-! ### objects -/
def Tab.noF (T : Tab) (c : Nat) (m : Str) : Bool := match T.cls[c]? with
  | some ci => ci.flds.all fun i => decide (T.fn i ≠ m)
  | none => false
/-- of which class an object is -/
def clsW (st : Store) : W → Option Nat
  | .f (.obj c _) => some c
  | .loc n => match st[n]? with
    | some (.ins c _) => some c
    | _ => none
  | _ => none
theorem fd_look {K : PySem.W.Frag} (hT : TabOk K T) {Z : Hp} {c i : Nat} {x : F} (hi : T.okf c i = true) : ∀ {fvs : List (Str × V)} {fs : List (Nat × F)}, RepFd K T Z c fvs fs → fs.lookup i = some x → ∃ v, fvs.lookup (T.fn i) = some v ∧ RepF K T Z v x
  | _, _, .nil, h => by cases h
  | _, _, .cons (i := j) (v := v) (x := y) (xs := xs) (vs := vs) hj r t, h => by
    by_cases hij : i = j
    · subst hij
      simp only [List.lookup, beq_self_eq_true] at h
      cases h
      exact ⟨v, by simp [List.lookup], r⟩
    · have e1 : (i == j) = false := beq_eq_false_iff_ne.mpr hij
      simp only [List.lookup, e1] at h
      obtain ⟨v', e, r'⟩ := fd_look hT hi t h
      refine ⟨v', ?_, r'⟩
      have e2 : (T.fn i == T.fn j) = false := by
        refine beq_eq_false_iff_ne.mpr fun q => hij ?_
        have li : i < T.fld.length := by
          unfold Tab.okf at hi
          split at hi
          · rw [Bool.and_eq_true] at hi; exact of_decide_eq_true hi.2
          · cases hi
        have lj : j < T.fld.length := by
          unfold Tab.okf at hj
          split at hj
          · rw [Bool.and_eq_true] at hj; exact of_decide_eq_true hj.2
          · cases hj
        unfold Tab.fn at q
        rw [List.getD_eq_getElem?_getD, List.getD_eq_getElem?_getD, List.getElem?_eq_getElem li, List.getElem?_eq_getElem lj] at q
        exact (List.getElem_inj hT.nodup).mp q
      simp only [List.lookup, e2]
      exact e
theorem wd_look {K : PySem.W.Frag} (hT : TabOk K T) {Z : Hp} {ι : List Addr} {c i : Nat} {x : W} (hi : T.okf c i = true) : ∀ {fvs : List (Str × V)} {fs : List (Nat × W)}, RepWd K T Z ι c fvs fs → fs.lookup i = some x → ∃ v, fvs.lookup (T.fn i) = some v ∧ RepW K T Z ι v x
  | _, _, .nil, h => by cases h
  | _, _, .cons (i := j) (v := v) (x := y) (xs := xs) (vs := vs) hj r t, h => by
    by_cases hij : i = j
    · subst hij
      simp only [List.lookup, beq_self_eq_true] at h
      cases h
      exact ⟨v, by simp [List.lookup], r⟩
    · have e1 : (i == j) = false := beq_eq_false_iff_ne.mpr hij
      simp only [List.lookup, e1] at h
      obtain ⟨v', e, r'⟩ := wd_look hT hi t h
      refine ⟨v', ?_, r'⟩
      have e2 : (T.fn i == T.fn j) = false := by
        refine beq_eq_false_iff_ne.mpr fun q => hij ?_
        have li : i < T.fld.length := by
          unfold Tab.okf at hi
          split at hi
          · rw [Bool.and_eq_true] at hi; exact of_decide_eq_true hi.2
          · cases hi
        have lj : j < T.fld.length := by
          unfold Tab.okf at hj
          split at hj
          · rw [Bool.and_eq_true] at hj; exact of_decide_eq_true hj.2
          · cases hj
        unfold Tab.fn at q
        rw [List.getD_eq_getElem?_getD, List.getD_eq_getElem?_getD, List.getElem?_eq_getElem li, List.getElem?_eq_getElem lj] at q
        exact (List.getElem_inj hT.nodup).mp q
      simp only [List.lookup, e2]
      exact e
theorem fd_okf {K : PySem.W.Frag} {Z : Hp} {c i : Nat} {x : F} : ∀ {fvs : List (Str × V)} {fs : List (Nat × F)}, RepFd K T Z c fvs fs → fs.lookup i = some x → T.okf c i = true
  | _, _, .nil, h => by cases h
  | _, _, .cons (i := j) (xs := xs) hj r t, h => by
    by_cases hij : i = j
    · subst hij; exact hj
    · have e1 : (i == j) = false := beq_eq_false_iff_ne.mpr hij
      simp only [List.lookup, e1] at h
      exact fd_okf t h
theorem wd_okf {K : PySem.W.Frag} {Z : Hp} {ι : List Addr} {c i : Nat} {x : W} : ∀ {fvs : List (Str × V)} {fs : List (Nat × W)}, RepWd K T Z ι c fvs fs → fs.lookup i = some x → T.okf c i = true
  | _, _, .nil, h => by cases h
  | _, _, .cons (i := j) (xs := xs) hj r t, h => by
    by_cases hij : i = j
    · subst hij; exact hj
    · have e1 : (i == j) = false := beq_eq_false_iff_ne.mpr hij
      simp only [List.lookup, e1] at h
      exact wd_okf t h
theorem noF_ne {c i : Nat} {m : Str} (h : T.noF c m = true) (hi : T.okf c i = true) : T.fn i ≠ m := by
  unfold Tab.noF at h
  unfold Tab.okf at hi
  cases q : T.cls[c]? with
  | none => rw [q] at h; cases h
  | some ci =>
    simp only [q] at h hi
    rw [Bool.and_eq_true] at hi
    exact of_decide_eq_true (List.all_eq_true.mp h i (by simpa using hi.1))
theorem fd_no {K : PySem.W.Frag} {Z : Hp} {c : Nat} {m : Str} (h : T.noF c m = true) : ∀ {fvs : List (Str × V)} {fs : List (Nat × F)}, RepFd K T Z c fvs fs → fvs.lookup m = none
  | _, _, .nil => rfl
  | _, _, .cons (i := j) hj r t => by
    have e2 : (m == T.fn j) = false := beq_eq_false_iff_ne.mpr (Ne.symm (noF_ne h hj))
    simp only [List.lookup, e2]
    exact fd_no h t
theorem wd_no {K : PySem.W.Frag} {Z : Hp} {ι : List Addr} {c : Nat} {m : Str} (h : T.noF c m = true) : ∀ {fvs : List (Str × V)} {fs : List (Nat × W)}, RepWd K T Z ι c fvs fs → fvs.lookup m = none
  | _, _, .nil => rfl
  | _, _, .cons (i := j) hj r t => by
    have e2 : (m == T.fn j) = false := beq_eq_false_iff_ne.mpr (Ne.symm (noF_ne h hj))
    simp only [List.lookup, e2]
    exact wd_no h t
/-- an object as it stands in the heap -/
theorem obj_at {K : PySem.W.Frag} {Z H : Hp} {ι : List Addr} {st : Store} {v : V} {w : W} {c : Nat} (s : SimS K T Z ι st H) (r : RepW K T Z ι v w) (h : clsW st w = some c) :
    ∃ a dx fvs, v = .ref a ∧ H a = some (.ins (T.ca K c) dx fvs) ∧ (T.cls[c]?).isSome = true ∧ ∀ m, T.noF c m = true → fvs.lookup m = none := by
  cases r with
  | f r =>
    cases r with
    | obj e hc rd => cases h; exact ⟨_, _, _, rfl, s.sub _ _ e, hc, fun m hm => fd_no hm rd⟩
    | _ => cases h
  | loc e =>
    rename_i a n
    have h : (match st[n]? with
      | some (.ins c _) => some c
      | _ => none) = some c := h
    cases q : st[n]? with
    | none => rw [q] at h; cases h
    | some cl =>
      have k := s.cell n a cl e q
      cases cl with
      | ins c' fs =>
        rw [q] at h; cases h
        obtain ⟨_, dx, fvs, e1, hc, rd⟩ := k
        exact ⟨a, dx, fvs, rfl, e1, hc, fun m hm => wd_no hm rd⟩
      | dead => rw [q] at h; cases h
      | lstF xs => rw [q] at h; cases h
      | lstW xs => rw [q] at h; cases h
      | dct xs => rw [q] at h; cases h
      | dti xs => rw [q] at h; cases h
def attrW (st : Store) (i : Nat) : W → Option W
  | .f (.obj _ fs) => (fs.lookup i).map W.f
  | .loc n => match st[n]? with
    | some (.ins _ fs) => fs.lookup i
    | _ => none
  | _ => none
def ofW (o : Option W) (st : Store) : Res W := match o with
  | some w => .ok w st
  | none => .stuck
def eAttr (i : Nat) (t : TEv) : TEv := fun env st => (t env st).bind fun w st1 => ofW (attrW st1 i w) st1
theorem ve_attr {i : Nat} {fn : Str} (hT : TabOk X.K T) (he : VE X T E e te) (hf : T.fn i = fn) (hb : attributeBase e fn X.env (eval e X.env) = eval e X.env := by rfl) : VE X T E (.Attribute e fn pos) (eAttr i te) := by
  subst hf
  refine pe_weak (pe_fld he hb) fun σ H Q h => ?_
  obtain ⟨Z, ι, env, st, s, re, p⟩ := h
  refine ⟨Z, ι, env, st, s, re, (Post.bind p).imp fun w st1 H1 Z1 ι1 l1 s1 p1 v rv => ?_⟩
  cases q : attrW st1 i w with
  | none => rw [q] at p1; exact p1.elim
  | some u =>
    rw [q] at p1
    have fin : ∀ v', RepW X.K T Z1 ι1 v' u → Q v' H1 := fun v' r' => p1 H1 Z1 ι1 Le.refl s1 v' r'
    cases rv with
    | f r =>
      cases r with
      | obj e hc rd =>
        rename_i a dx fvs c fs
        have q : (fs.lookup i).map W.f = some u := q
        cases q2 : fs.lookup i with
        | none => rw [q2] at q; cases q
        | some y =>
          rw [q2] at q; cases q
          have hi := fd_okf rd q2
          obtain ⟨v', e', r'⟩ := fd_look hT hi rd q2
          exact ⟨a, _, dx, fvs, v', rfl, s1.sub _ _ e, hT.cls c hc, hT.noat c i hi, e', fin _ (.f r')⟩
      | _ => cases q
    | loc e =>
      rename_i a n
      have q : (match st1[n]? with
        | some (.ins _ fs) => fs.lookup i
        | _ => none) = some u := q
      cases q2 : st1[n]? with
      | none => rw [q2] at q; cases q
      | some cl =>
        have k := s1.cell n a cl e q2
        cases cl with
        | ins c fs =>
          rw [q2] at q
          obtain ⟨_, dx, fvs, e1, hc, rd⟩ := k
          have hi := wd_okf rd q
          obtain ⟨v', e', r'⟩ := wd_look hT hi rd q
          exact ⟨a, _, dx, fvs, v', rfl, e1, hT.cls c hc, hT.noat c i hi, e', fin _ r'⟩
        | dead => rw [q2] at q; cases q
        | lstF xs => rw [q2] at q; cases q
        | lstW xs => rw [q2] at q; cases q
        | dct xs => rw [q2] at q; cases q
        | dti xs => rw [q2] at q; cases q
/-- o.m(..), o of the class c -/
def eMeth (c : Nat) (m : FnM) (to : TEv) (t : TAv) : TEv := fun env st => (to env st).bind fun w st1 => if clsW st1 w = some c then (t env st1).bind fun ws st2 => m (w :: ws) st2 else .stuck
theorem rd_meth {c : Nat} (hn : T.noF c mn = true) {dvs : List V} {dfs : List F} (r : ∀ Z, RepFs X.K T Z dvs dfs) {σ : L2.St} {H : Hp} {Q : VK} (h : RdE X.K T E (eMeth c (fun ws st => m (ws ++ dfs.map W.f) st) to tr) σ H Q) :
    tMeth (T.ca X.K c) mn (spM X.K T m) dvs E (RdE X.K T E to) (RdA X.K T E tr) σ H Q := by
  obtain ⟨Z, ι, env, st, s, re, p⟩ := h
  refine ⟨Z, ι, env, st, s, re, (Post.bind p).imp fun w st1 H1 Z1 ι1 l1 s1 p1 v rv => ?_⟩
  by_cases hc : clsW st1 w = some c
  · rw [if_pos hc] at p1
    obtain ⟨a, dx, fvs, rfl, e1, hcl, no⟩ := obj_at s1 rv hc
    exact ⟨a, dx, fvs, rfl, e1, no mn hn, Z1, ι1, env, st1, s1, re.mono l1, (Post.bind p1).imp fun ws st2 H2 Z2 ι2 l2 s2 p2 vs rvs => ⟨Z2, ι2, _, st2, s2, .cons (rv.mono l2) (rvs.append (RepWs.map_f (r Z2))), p2⟩⟩
  · rw [if_neg hc] at p1
    exact p1.elim
theorem ve_meth {pl : Sem Bool} {c : Nat} (hT : TabOk X.K T) (hc : (T.cls[c]?).isSome = true) (hn : T.noF c mn = true) (ho : VE X T E o to) (hm : Meth X.K (T.ca X.K c) mn f) (F : Fn X.prog X.w X.K X.mg X.base T CX k f m) (hr : Room k X.A) (hx : Passes CX X E) (ha : VA X T E (e :: es) tr)
    (hst : starEach (e :: es) X.env = (false, eval e X.env) :: starEach es X.env := by rfl) (hpl : (backTo pos (starEach es X.env)).any (·.1) = false := by rfl)
    (ht : eval (.Call (.Attribute o mn apos) (e :: es) [] pos) X.env = (do
      let ov ← eval o X.env
      standAt apos.atName
      let (f, first) ← holding [ov] (getMethod ov mn pl)
      callWith pos f first (backTo pos (starEach (e :: es) X.env)) (backToKw pos (keywordEach [] X.env))) := by rfl) :
    VE X T E (.Call (.Attribute o mn apos) (e :: es) [] pos) (eMeth c m to tr) := by
  obtain ⟨fd, ps, ds, dvs, dfs, m0, F0, b, v, r, rfl⟩ := F.ex
  exact pe_weak (pe_meth (pl := pl) ho (hT.cls c hc) hm F0 hr b v hx ha hst hpl ht) fun σ H Q h => rd_meth hn r h
theorem ve_meth0 {pl : Sem Bool} {c : Nat} (hT : TabOk X.K T) (hc : (T.cls[c]?).isSome = true) (hn : T.noF c mn = true) (ho : VE X T E o to) (hm : Meth X.K (T.ca X.K c) mn f) (F : Fn X.prog X.w X.K X.mg X.base T CX k f m) (hr : Room k X.A) (hx : Passes CX X E)
    (ht : eval (.Call (.Attribute o mn apos) [] [] pos) X.env = (do
      let ov ← eval o X.env
      standAt apos.atName
      let (f, first) ← holding [ov] (getMethod ov mn pl)
      callWith pos f first (backTo pos (starEach [] X.env)) (backToKw pos (keywordEach [] X.env))) := by rfl) :
    VE X T E (.Call (.Attribute o mn apos) [] [] pos) (eMeth c m to aNil) := by
  obtain ⟨fd, ps, ds, dvs, dfs, m0, F0, b, v, r, rfl⟩ := F.ex
  refine pe_weak (pe_meth0 (pl := pl) ho (hT.cls c hc) hm F0 hr b v hx ht) fun σ H Q h => ?_
  obtain ⟨Z, ι, env, st, s, re, p⟩ := rd_meth hn r h
  refine ⟨Z, ι, env, st, s, re, p.imp fun w st1 H1 Z1 ι1 l1 s1 p1 v rv => ?_⟩
  obtain ⟨a, dx, fs, e1, e2, e3, Z2, ι2, env2, st2, s2, re2, p2⟩ := p1 v rv
  exact ⟨a, dx, fs, e1, e2, e3, p2 H1 Z2 ι2 Le.refl s2 _ .nil⟩
/-- self.f = v -/
def putA (i : Nat) (w : W) : List (Nat × W) → List (Nat × W)
  | [] => [(i, w)]
  | (j, u) :: r => if j = i then (i, w) :: r else (j, u) :: putA i w r
def setA (T : Tab) (i : Nat) (w : W) (st : Store) : W → Option Store
  | .loc n => match st[n]? with
    | some (.ins c fs) => if T.okf c i = true ∧ fs.length < 1000 then some (st.set n (.ins c (putA i w fs))) else none
    | _ => none
  | _ => none
theorem okf_lt {c i : Nat} (hi : T.okf c i = true) : i < T.fld.length := by
  unfold Tab.okf at hi
  split at hi
  · rw [Bool.and_eq_true] at hi; exact of_decide_eq_true hi.2
  · cases hi
theorem fn_inj {K : PySem.W.Frag} (hT : TabOk K T) {c i j : Nat} (hi : T.okf c i = true) (hj : T.okf c j = true) (q : T.fn i = T.fn j) : i = j := by
  unfold Tab.fn at q
  rw [List.getD_eq_getElem?_getD, List.getD_eq_getElem?_getD, List.getElem?_eq_getElem (okf_lt hi), List.getElem?_eq_getElem (okf_lt hj)] at q
  exact (List.getElem_inj hT.nodup).mp q
theorem wd_put {K : PySem.W.Frag} (hT : TabOk K T) {Z : Hp} {ι : List Addr} {c i : Nat} {v : V} {w : W} (hi : T.okf c i = true) (rv : RepW K T Z ι v w) : ∀ {fvs : List (Str × V)} {fs : List (Nat × W)}, RepWd K T Z ι c fvs fs → RepWd K T Z ι c (putF (T.fn i) v fvs) (putA i w fs)
  | _, _, .nil => .cons hi rv .nil
  | _, _, .cons (i := j) (v := u) (x := y) (xs := xs) (vs := vs) hj r t => by
    show RepWd K T Z ι c (if T.fn j = T.fn i then _ else _) (if j = i then _ else _)
    by_cases hij : j = i
    · subst hij
      rw [if_pos rfl, if_pos rfl]
      exact .cons hi rv t
    · rw [if_neg hij, if_neg fun q => hij (fn_inj hT hj hi q)]
      exact .cons hj r (wd_put hT hi rv t)
theorem wd_len {K : PySem.W.Frag} {Z : Hp} {ι : List Addr} {c : Nat} : ∀ {fvs : List (Str × V)} {fs : List (Nat × W)}, RepWd K T Z ι c fvs fs → fvs.length = fs.length
  | _, _, .nil => rfl
  | _, _, .cons _ _ t => by rw [List.length_cons, List.length_cons, wd_len t]
theorem setA_ok {K : PySem.W.Frag} (hT : TabOk K T) {Z H : Hp} {ι : List Addr} {st st' : Store} {i : Nat} {v y : V} {w o : W} (s : SimS K T Z ι st H) (ro : RepW K T Z ι v o) (ry : RepW K T Z ι y w) (h : setA T i w st o = some st') :
    ∃ a C dx fs, v = .ref a ∧ H a = some (.ins C dx fs) ∧ Cls K C ∧ NoAttr K C (T.fn i) ∧ fs.length < 1000 ∧ SimS K T Z ι st' (upd H a (.ins C dx (putF (T.fn i) y fs))) := by
  cases ro with
  | f r => cases h
  | loc e =>
    rename_i a n
    have h : (match st[n]? with
      | some (.ins c fs) => if T.okf c i = true ∧ fs.length < 1000 then some (st.set n (.ins c (putA i w fs))) else none
      | _ => none) = some st' := h
    cases q : st[n]? with
    | none => rw [q] at h; cases h
    | some cl =>
      have k := s.cell n a cl e q
      cases cl with
      | ins c fs =>
        rw [q] at h
        obtain ⟨hz, dx, fvs, e1, hc, rd⟩ := k
        by_cases hk : T.okf c i = true ∧ fs.length < 1000
        · have h : (if T.okf c i = true ∧ fs.length < 1000 then some (st.set n (.ins c (putA i w fs))) else none) = some st' := h
          rw [if_pos hk] at h
          cases h
          exact ⟨a, _, dx, fvs, rfl, e1, hT.cls c hc, hT.noat c i hk.1, by rw [wd_len rd]; exact hk.2, s.write e hz ⟨hz, dx, _, upd_same, hc, wd_put hT hk.1 ry rd⟩⟩
        · have h : (if T.okf c i = true ∧ fs.length < 1000 then some (st.set n (.ins c (putA i w fs))) else none) = some st' := h
          rw [if_neg hk] at h
          cases h
      | dead => rw [q] at h; cases h
      | lstF xs => rw [q] at h; cases h
      | lstW xs => rw [q] at h; cases h
      | dct xs => rw [q] at h; cases h
      | dti xs => rw [q] at h; cases h
end
end VS

set_option Elab.async false
set_option linter.all false
set_option maxRecDepth 100000
set_option maxHeartbeats 4000000
set_option autoImplicit false
/-! VF: displays, cells that become data, lists that change. -/
namespace VS
open PySem PySem.Spec PyProof.Rows L2

/-! ### cells become data -/
/-- a value as data; only cells from b on are opened -/
def deepF (b : Nat) (st : Store) : Nat → W → Option F
  | _, .f x => some x
  | 0, .loc _ => none
  | n + 1, .loc k => if b ≤ k then (match st[k]? with
    | some (.lstF xs) => some (.lst xs)
    | some (.dct kvs) => some (.dct kvs)
    | some (.lstW ws) => (ws.mapM (deepF b st n)).map F.lst
    | some (.ins c fs) => (fs.mapM fun p => (deepF b st n p.2).map fun x => (p.1, x)).map (F.obj c)
    | _ => none) else none
theorem RepWs.take {K : PySem.W.Frag} {T : Tab} {Z : Hp} {ι : List Addr} : ∀ {vs : List V} {xs : List W} (n : Nat), RepWs K T Z ι vs xs → RepWs K T Z ι (vs.take n) (xs.take n)
  | _, _, 0, _ => .nil
  | _, _, _ + 1, .nil => .nil
  | _, _, n + 1, .cons r t => .cons r (RepWs.take n t)
theorem RepWs.drop {K : PySem.W.Frag} {T : Tab} {Z : Hp} {ι : List Addr} : ∀ {vs : List V} {xs : List W} (n : Nat), RepWs K T Z ι vs xs → RepWs K T Z ι (vs.drop n) (xs.drop n)
  | _, _, 0, r => r
  | _, _, _ + 1, .nil => .nil
  | _, _, n + 1, .cons _ t => RepWs.drop n t
def frz (b : Nat) (w : W) (st : Store) : Res W := match deepF b st 3 w with
  | some x => if clean b (st.take b) = true then .ok (.f x) (st.take b) else .stuck
  | none => .stuck
/-- the value of t as data; the cells that t has made are dropped -/
def eFrz (t : TEv) : TEv := fun env st => (t env st).bind fun w st1 => frz st.length w st1

section
variable {K : PySem.W.Frag} {T : Tab} {Z H : Hp} {ι : List Addr} {st : Store}
/-- the frozen heap with the cells from b on in it -/
def zAll (Z H : Hp) (ι : List Addr) (b : Nat) : Hp := fun a => if a ∈ ι.drop b then H a else Z a
theorem zAll_same (s : SimS K T Z ι st H) (b : Nat) : Same Z (zAll Z H ι b) := fun a o e => by
  unfold zAll
  by_cases h : a ∈ ι.drop b
  · rw [if_pos h]; exact s.sub a o e
  · rw [if_neg h]; exact e
theorem mapM_some {α β : Type} {f : α → Option β} : ∀ {l : List α} {m : List β}, l.mapM f = some m → l.length = m.length ∧ ∀ (i : Nat) x y, l[i]? = some x → m[i]? = some y → f x = some y
  | [], m, h => by
    simp [List.mapM_nil] at h
    subst h
    exact ⟨rfl, fun i x y h => by simp at h⟩
  | x :: l, m, h => by
    rw [List.mapM_cons] at h
    cases q : f x with
    | none => rw [q] at h; cases h
    | some y =>
      rw [q] at h
      cases q2 : l.mapM f with
      | none => simp [q2] at h
      | some m' =>
        simp [q2] at h
        subst h
        obtain ⟨h1, h2⟩ := mapM_some q2
        refine ⟨by simp [h1], fun i x' y' e1 e2 => ?_⟩
        cases i with
        | zero => simp at e1 e2; subst e1 e2; exact q
        | succ i => exact h2 i x' y' (by simpa using e1) (by simpa using e2)
theorem RepFs.of_get : ∀ {vs : List V} {xs : List F}, vs.length = xs.length → (∀ (i : Nat) v x, vs[i]? = some v → xs[i]? = some x → RepF K T Z v x) → RepFs K T Z vs xs
  | [], [], _, _ => .nil
  | [], _ :: _, h, _ => by simp at h
  | _ :: _, [], h, _ => by simp at h
  | v :: vs, x :: xs, h, k => .cons (k 0 v x rfl rfl) (RepFs.of_get (by simpa using h) fun i v' x' e1 e2 => k (i + 1) v' x' (by simpa using e1) (by simpa using e2))
theorem deep_fd {b : Nat} {n : Nat} (ih : ∀ {v : V} {w : W} {x : F}, RepW K T Z ι v w → deepF b st n w = some x → RepF K T (zAll Z H ι b) v x) : ∀ {c : Nat} {fvs : List (Str × V)} {fs : List (Nat × W)} {xs : List (Nat × F)}, RepWd K T Z ι c fvs fs →
    (fs.mapM fun p => (deepF b st n p.2).map fun x => (p.1, x)) = some xs → RepFd K T (zAll Z H ι b) c fvs xs
  | _, _, _, _, .nil, h => by
    simp [List.mapM_nil] at h
    subst h
    exact .nil
  | _, _, _, _, .cons (i := i) (x := w) (xs := fs) hi r t, h => by
    rw [List.mapM_cons] at h
    cases q : deepF b st n w with
    | none => simp [q] at h
    | some y =>
      cases q2 : (fs.mapM fun p => (deepF b st n p.2).map fun x => (p.1, x)) with
      | none => simp [q2] at h
      | some m' =>
        simp [q, q2] at h
        subst h
        exact .cons hi (ih r q) (deep_fd ih t q2)
theorem deepF_ok (s : SimS K T Z ι st H) (b : Nat) : ∀ (n : Nat) {v : V} {w : W} {x : F}, RepW K T Z ι v w → deepF b st n w = some x → RepF K T (zAll Z H ι b) v x := by
  have hs := zAll_same s b
  have at_ : ∀ {k : Nat} {a : Addr}, b ≤ k → ι[k]? = some a → zAll Z H ι b a = H a := fun {k a} hb e => by
    unfold zAll
    rw [if_pos]
    refine List.mem_of_getElem? (i := k - b) ?_
    rw [List.getElem?_drop, show b + (k - b) = k by omega]
    exact e
  intro n
  induction n with
  | zero =>
    intro v w x r h
    cases r with
    | f r => cases h; exact r.mono hs
    | loc e => cases h
  | succ n ih =>
    intro v w x r h
    cases r with
    | f r => cases h; exact r.mono hs
    | loc e =>
      rename_i a k
      unfold deepF at h
      by_cases hb : b ≤ k
      · rw [if_pos hb] at h
        have ha := at_ hb e
        cases q : st[k]? with
        | none => rw [q] at h; cases h
        | some cl =>
          have kk := s.cell k a cl e q
          cases cl with
          | dead => rw [q] at h; cases h
          | lstF xs => rw [q] at h; cases h; obtain ⟨_, vs, e1, r1⟩ := kk; exact .lst (ha.trans e1) (r1.mono hs)
          | dct xs => rw [q] at h; cases h; obtain ⟨_, vs, e1, r1⟩ := kk; exact .dct (ha.trans e1) (r1.mono hs)
          | dti xs => rw [q] at h; cases h
          | lstW ws =>
            rw [q] at h
            obtain ⟨_, vs, e1, r1⟩ := kk
            have h : (ws.mapM (deepF b st n)).map F.lst = some x := h
            cases q2 : ws.mapM (deepF b st n) with
            | none => rw [q2] at h; cases h
            | some xs =>
              rw [q2] at h; cases h
              obtain ⟨hl, hk⟩ := mapM_some q2
              refine .lst (ha.trans e1) (RepFs.of_get (by rw [r1.length, hl]) fun i v' x' e2 e3 => ?_)
              have hlt : i < ws.length := by rw [hl]; exact (List.getElem?_eq_some_iff.mp e3).1
              have e4 : ws[i]? = some ws[i] := by simp [hlt]
              obtain ⟨v2, e5, r5⟩ := r1.get e4
              rw [e2] at e5; cases e5
              exact ih r5 (hk i _ _ e4 e3)
          | ins c fs =>
            rw [q] at h
            obtain ⟨_, dx, fvs, e1, hc, r1⟩ := kk
            have h : (fs.mapM fun p => (deepF b st n p.2).map fun x => (p.1, x)).map (F.obj c) = some x := h
            cases q2 : (fs.mapM fun p => (deepF b st n p.2).map fun x => (p.1, x)) with
            | none => rw [q2] at h; cases h
            | some xs =>
              rw [q2] at h; cases h
              exact .obj (ha.trans e1) hc (deep_fd ih r1 q2)
      · rw [if_neg hb] at h; cases h
theorem SimS.zall (s : SimS K T Z ι st H) {b : Nat} (h : clean b (st.take b) = true) : SimS K T (zAll Z H ι b) (ι.take b) (st.take b) H := by
  have hs := zAll_same s b
  have s0 := s.cut h
  have l : Le Z (ι.take b) (zAll Z H ι b) (ι.take b) := ⟨hs, fun _ _ h => h⟩
  have hz : ∀ a, a ∈ ι.take b → zAll Z H ι b a = Z a := fun a ha => by
    unfold zAll
    rw [if_neg]
    intro hd
    have nd := s.nd
    rw [← List.take_append_drop b ι, List.nodup_append] at nd
    exact nd.2.2 a ha a hd rfl
  refine ⟨fun a o e => ?_, s0.len, s0.nd, fun n a c h1 h2 => ?_, s0.there, s.tab.step (fun a ps e => ?_) s0.tab.ct (fun _ _ e _ => e) fun a u e hn h0 => by
    unfold zAll
    rw [if_neg fun hd => hn (List.mem_of_mem_drop hd)]
    exact h0⟩
  rotate_right
  · unfold zAll at e
    by_cases hd : a ∈ ι.drop b
    · rw [if_pos hd] at e
      exact absurd rfl ((s.tab.ct a (List.mem_of_mem_drop hd) _ e).1 ps)
    · rw [if_neg hd] at e
      exact e
  · unfold zAll at e
    by_cases hd : a ∈ ι.drop b
    · rw [if_pos hd] at e; exact e
    · rw [if_neg hd] at e; exact s.sub a o e
  · have k := s0.cell n a c h1 h2
    have hza := hz a (List.mem_of_getElem? h1)
    cases c with
    | dead => trivial
    | lstF xs => obtain ⟨n, vs, e, r⟩ := k; exact ⟨hza.trans n, vs, e, r.mono hs⟩
    | lstW xs => obtain ⟨n, vs, e, r⟩ := k; exact ⟨hza.trans n, vs, e, r.mono l⟩
    | dct xs => obtain ⟨n, vs, e, r⟩ := k; exact ⟨hza.trans n, vs, e, r.mono hs⟩
    | dti xs => obtain ⟨n, vs, e, r⟩ := k; exact ⟨hza.trans n, vs, e, r.mono hs⟩
    | ins c fs => obtain ⟨n, dx, fvs, e, hk, r⟩ := k; exact ⟨hza.trans n, dx, fvs, e, hk, r.mono l⟩
theorem frz_ok {E : XK} {Z0 : Hp} {ι0 : List Addr} {b : Nat} {w : W} {v : V} {Q : VK} (hb : ι0.length = b) (l : Le Z0 ι0 Z ι) (s : SimS K T Z ι st H) (r : RepW K T Z ι v w)
    (h : Post K T E Z0 ι0 (frz b w st) fun w _ H' Z' ι' => ∀ v, RepW K T Z' ι' v w → Q v H') : Q v H := by
  unfold frz at h
  cases q : deepF b st 3 w with
  | none => rw [q] at h; exact h.elim
  | some x =>
    rw [q] at h
    by_cases hc : clean b (st.take b) = true
    · have h : Post K T E Z0 ι0 (if clean b (st.take b) = true then Res.ok (W.f x) (st.take b) else Res.stuck) _ := h
      rw [if_pos hc] at h
      have lc := l.cut (b := b) (by omega)
      exact h H (zAll Z H ι b) (ι.take b) (lc.trans ⟨zAll_same s b, fun _ _ h => h⟩) (s.zall hc) v (.f (deepF_ok s b 3 r q))
    · have h : Post K T E Z0 ι0 (if clean b (st.take b) = true then Res.ok (W.f x) (st.take b) else Res.stuck) _ := h
      rw [if_neg hc] at h
      exact h.elim
end

section
variable {X : Cx} {T : Tab} {E : XK} {e o i value : Expr} {es : List Expr} {te to ti tv : TEv} {tr : TAv} {pos pos' apos : Pos}
theorem rd_frz {K : PySem.W.Frag} {σ : L2.St} {H : Hp} {Q : VK} (h : RdE K T E (eFrz te) σ H Q) : RdE K T E te σ H Q := by
  obtain ⟨Z, ι, env, st, s, re, p⟩ := h
  refine ⟨Z, ι, env, st, s, re, ?_⟩
  unfold eFrz at p
  cases q : te env st with
  | ok w st1 => rw [q] at p; exact fun H' Z' ι' l s' v rv => frz_ok (Z0 := Z) (ι0 := ι) s.len l s' rv p
  | exc c fs st1 => rw [q] at p; exact p
  | stuck => rw [q] at p; exact p
theorem ve_frz (h : VE X T E e te) : VE X T E e (eFrz te) := pe_weak h fun _ _ _ q => rd_frz q

/-! ### displays -/
/-- all data, and not too many -/
def small (n : Nat) : Bool := decide (n ≤ 1000000)
theorem small_line {n : Nat} (h : small n = true) : n ≤ sizeLine := Nat.le_trans (of_decide_eq_true h) (by decide)
def eTup (t : TAv) : TEv := fun env st => (t env st).bind fun ws st1 => match allF ws with
  | some xs => if small xs.length = true then .ok (.f (.tup xs)) st1 else .stuck
  | none => .stuck
theorem ve_tup {x1 : Nat} (h : VA X T E es tr) : VE X T E (.Tuple es x1 pos) (eTup tr) := pe_weak (pe_tup h) fun σ H Q h => by
  obtain ⟨Z, ι, env, st, s, re, p⟩ := h
  refine ⟨Z, ι, env, st, s, re, (Post.bind p).imp fun ws st1 H1 Z1 ι1 l1 s1 p1 vs rvs => ?_⟩
  cases q : allF ws with
  | none => simp only [q] at p1; exact p1.elim
  | some xs =>
    simp only [q] at p1
    by_cases hs : small xs.length = true
    · rw [if_pos hs] at p1
      have rs := rvs.allF q
      refine ⟨small_line (by rw [rs.length]; exact hs), fun a ha => ?_⟩
      have g := Grow.laid (o := .tup vs) s1.sub ha
      exact p1 _ _ _ g.le (s1.grow g) _ (.f (.tup (SqT.of upd_same) (rs.mono g.z)))
    · rw [if_neg hs] at p1; exact p1.elim
/-- a list as data -/
def eLst (t : TAv) : TEv := fun env st => (t env st).bind fun ws st1 => match allF ws with
  | some xs => if small xs.length = true then .ok (.f (.lst xs)) st1 else .stuck
  | none => .stuck
theorem ve_lst (h : VA X T E es tr) : VE X T E (.List es pos) (eLst tr) := pe_weak (pe_lst h) fun σ H Q h => by
  obtain ⟨Z, ι, env, st, s, re, p⟩ := h
  refine ⟨Z, ι, env, st, s, re, (Post.bind p).imp fun ws st1 H1 Z1 ι1 l1 s1 p1 vs rvs => ?_⟩
  cases q : allF ws with
  | none => simp only [q] at p1; exact p1.elim
  | some xs =>
    simp only [q] at p1
    by_cases hs : small xs.length = true
    · rw [if_pos hs] at p1
      have rs := rvs.allF q
      refine ⟨small_line (by rw [rs.length]; exact hs), fun a ha => ?_⟩
      have g := Grow.laid (o := .lst vs) s1.sub ha
      exact p1 _ _ _ g.le (s1.grow g) _ (.f (.lst upd_same (rs.mono g.z)))
    · rw [if_neg hs] at p1; exact p1.elim
/-- a list as a cell -/
def cellOf (ws : List W) : Cell := match allF ws with
  | some xs => .lstF xs
  | none => .lstW ws
def eLstM (t : TAv) : TEv := fun env st => (t env st).bind fun ws st1 => if small ws.length = true then .ok (.loc st1.length) (st1 ++ [cellOf ws]) else .stuck
theorem last_get {α : Type} (l : List α) (a : α) : (l ++ [a])[l.length]? = some a := by simp
theorem ve_lstM (h : VA X T E es tr) : VE X T E (.List es pos) (eLstM tr) := pe_weak (pe_lst h) fun σ H Q h => by
  obtain ⟨Z, ι, env, st, s, re, p⟩ := h
  refine ⟨Z, ι, env, st, s, re, (Post.bind p).imp fun ws st1 H1 Z1 ι1 l1 s1 p1 vs rvs => ?_⟩
  by_cases hs : small ws.length = true
  · rw [if_pos hs] at p1
    refine ⟨small_line (by rw [rvs.length]; exact hs), fun a ha => ?_⟩
    have hz := free_sub s1.sub ha
    have s2 := s1.alloc (c := cellOf ws) (o := .lst vs) ha (by
      unfold cellOf
      cases q : allF ws with
      | none => exact ⟨hz, vs, upd_same, rvs.mono Le.alloc⟩
      | some xs => exact ⟨hz, vs, upd_same, rvs.allF q⟩)
    exact p1 _ _ _ Le.alloc s2 _ (.loc (by rw [← s1.len]; exact last_get _ _))
  · rw [if_neg hs] at p1; exact p1.elim

/-! ### methods of built-in types that change a cell -/
/-- what is handed back, the new cell -/
abbrev CellOp := Cell → List W → Option (W × Cell)
def isCell (d : Bool) : Option Cell → Bool
  | some (.lstF _) => !d
  | some (.lstW _) => !d
  | some (.dct _) => d
  | _ => false
def doCell (g : CellOp) (n : Nat) (ws : List W) (st : Store) : Res W := match st[n]? with
  | some c => (match g c ws with
    | some (w, c') => .ok w (st.set n c')
    | none => .stuck)
  | none => .stuck
/-- o.m(..), o a list's (d: a dict's) cell -/
def eMut (d : Bool) (g : CellOp) (to : TEv) (t : TAv) : TEv := fun env st => (to env st).bind fun o st1 => match o with
  | .loc n => if isCell d st1[n]? = true then (t env st1).bind fun ws st2 => doCell g n ws st2 else .stuck
  | _ => .stuck
/-- what a method's rule r does to a cell -/
def MutOk (X : Cx) (T : Tab) (r : V → List V → Hp → VK → Prop) (g : CellOp) : Prop :=
  ∀ (Z H : Hp) (ι : List Addr) (a : Addr) (c c' : Cell) (ws : List W) (w : W) (vs : List V) (Q : VK), Same Z H → CellOk X.K T Z ι H a c → RepWs X.K T Z ι vs ws → g c ws = some (w, c') →
    (∀ v o, RepW X.K T Z ι v w → CellOk X.K T Z ι (upd H a o) a c' → Z a = none → Hard o → Q v (upd H a o)) → r (.ref a) vs H Q
theorem tyV_cell {K : PySem.W.Frag} {Z H : Hp} {ι : List Addr} {a : Addr} {c : Cell} {d : Bool} (k : CellOk K T Z ι H a c) (h : isCell d (some c) = true) : tyV K (if d = true then "dict" else "list") (.ref a) H := by
  cases c with
  | dead => cases h
  | ins c fs => cases h
  | lstF xs => cases d with
    | true => cases h
    | false => obtain ⟨_, vs, e, _⟩ := k; exact .inl ⟨rfl, vs, SqL.of e⟩
  | lstW xs => cases d with
    | true => cases h
    | false => obtain ⟨_, vs, e, _⟩ := k; exact .inl ⟨rfl, vs, SqL.of e⟩
  | dti xs => cases h
  | dct xs => cases d with
    | false => cases h
    | true => obtain ⟨_, vs, e, _⟩ := k; exact .inr (.inr (.inl ⟨rfl, .inl ⟨vs, e⟩⟩))
theorem rd_mut {d : Bool} {r : V → List V → Hp → VK → Prop} {g : CellOp} (hm : MutOk X T r g) {σ : L2.St} {H : Hp} {Q : VK} (h : RdE X.K T E (eMut d g to tr) σ H Q) : tBM X.K (if d = true then "dict" else "list") r (RdE X.K T E to) (RdA X.K T E tr) σ H Q := by
  obtain ⟨Z, ι, env, st, s, re, p⟩ := h
  refine ⟨Z, ι, env, st, s, re, (Post.bind p).imp fun w st1 H1 Z1 ι1 l1 s1 p1 v rv => ?_⟩
  cases rv with
  | f rv => exact p1.elim
  | loc e =>
    rename_i a n
    have p1 : Post X.K T E Z1 ι1 (if isCell d st1[n]? = true then (tr env st1).bind fun ws st2 => doCell g n ws st2 else .stuck) _ := p1
    by_cases hc : isCell d st1[n]? = true
    · rw [if_pos hc] at p1
      cases q : st1[n]? with
      | none => rw [q] at hc; cases hc
      | some c =>
        rw [q] at hc
        refine ⟨tyV_cell (s1.cell n a c e q) hc, Z1, ι1, env, st1, s1, re.mono l1, (Post.bind p1).imp fun ws st2 H2 Z2 ι2 l2 s2 p2 vs rvs => ?_⟩
        have e2 := l2.i _ _ e
        unfold doCell at p2
        cases q2 : st2[n]? with
        | none => simp only [q2] at p2; exact p2.elim
        | some c2 =>
          simp only [q2] at p2
          cases q3 : g c2 ws with
          | none => simp only [q3] at p2; exact p2.elim
          | some wc =>
            obtain ⟨w, c'⟩ := wc
            simp only [q3] at p2
            exact hm Z2 H2 ι2 a c2 c' ws w vs Q s2.sub (s2.cell n a c2 e2 q2) rvs q3 fun v o rv ok hz hd => p2 _ Z2 ι2 Le.refl (s2.write e2 hz ok hd) v rv
    · rw [if_neg hc] at p1; exact p1.elim
variable {name : Str} {id : String} {cpos : Pos}
/-- o.m(e, ..) on a list's cell -/
theorem ve_mutL {r : V → List V → Hp → VK → Prop} {g : CellOp} (slot : Slot "list" name id) (hty : typeOf (.builtin id) = pure (.type "method_descriptor")) (hr : MtR X id r) (hm : MutOk X T r g) (ho : VE X T E o to) (ha : VA X T E (e :: es) tr)
    (hbase : attributeBase o name X.env (eval o X.env) = eval o X.env := by rfl)
    (hfew : ((backTo cpos (starEach (e :: es) X.env)).all (fun x => !x.1) && (backToKw cpos (keywordEach [] X.env)).all (fun x => x.1.isSome)
      && decide ((e :: es).length + ([] : List Keyword).length + (if ([] : List Keyword).isEmpty then 0 else 1) < 30)) = true := by rfl)
    (hline : (apos.endLine == cpos.line) = true := by rfl) (hs : starEach (e :: es) X.env = (false, eval e X.env) :: starEach es X.env := by rfl) (hplain : (backTo cpos (starEach es X.env)).any (·.1) = false := by rfl) :
    VE X T E (.Call (.Attribute o name apos) (e :: es) [] cpos) (eMut false g to tr) :=
  pe_weak (pe_bm PySem.F.plainAttrs_list slot hty hr ho ha hbase hfew hline hs hplain) fun _ _ _ h => rd_mut (d := false) hm h
/-! the operations -/
def cAppend : CellOp := fun c ws => match c, ws with
  | .lstF xs, [.f x] => if small (xs.length + 1) = true then some (.f .non, .lstF (xs ++ [x])) else none
  | .lstF xs, [.loc n] => if small (xs.length + 1) = true then some (.f .non, .lstW (xs.map W.f ++ [.loc n])) else none
  | .lstW xs, [w] => if small (xs.length + 1) = true then some (.f .non, .lstW (xs ++ [w])) else none
  | _, _ => none
theorem ifSome {α : Type} {p : Prop} [Decidable p] {a b : α} (h : (if p then some a else none) = some b) : p ∧ a = b := by
  by_cases hp : p
  · rw [if_pos hp] at h; exact ⟨hp, Option.some.inj h⟩
  · rw [if_neg hp] at h; cases h
theorem small_app {n : Nat} (h : small (n + 1) = true) : n < sizeLine := Nat.lt_of_lt_of_le (Nat.lt_succ_self n) (small_line h)
theorem mut_append : MutOk X T rAppend cAppend := by
  intro Z H ι a c c' ws w vs Q s k r h q
  cases c with
  | lstF xs =>
    obtain ⟨hz, us, e, ru⟩ := k
    cases r with
    | nil => cases h
    | cons r1 r2 =>
      cases r2 with
      | cons _ _ => cases r1 <;> cases h
      | nil =>
        cases r1 with
        | f r1 =>
          obtain ⟨hs, h⟩ := ifSome h
          cases h
          exact ⟨a, us, _, rfl, rfl, e, by rw [ru.length]; exact small_app hs, q _ _ (.f .non) ⟨hz, _, upd_same, ru.append (.cons r1 .nil)⟩ hz ⟨fun _ => nofun, fun _ => nofun⟩⟩
        | loc r1 =>
          obtain ⟨hs, h⟩ := ifSome h
          cases h
          exact ⟨a, us, _, rfl, rfl, e, by rw [ru.length]; exact small_app hs, q _ _ (.f .non) ⟨hz, _, upd_same, (RepWs.ofFs ru).append (.cons (.loc r1) .nil)⟩ hz ⟨fun _ => nofun, fun _ => nofun⟩⟩
  | lstW xs =>
    obtain ⟨hz, us, e, ru⟩ := k
    cases r with
    | nil => cases h
    | cons r1 r2 =>
      cases r2 with
      | cons _ _ => cases h
      | nil =>
        obtain ⟨hs, h⟩ := ifSome h
        cases h
        exact ⟨a, us, _, rfl, rfl, e, by rw [ru.length]; exact small_app hs, q _ _ (.f .non) ⟨hz, _, upd_same, ru.append (.cons r1 .nil)⟩ hz ⟨fun _ => nofun, fun _ => nofun⟩⟩
  | dead => cases h
  | dct _ => cases h
  | dti _ => cases h
  | ins _ _ => cases h
theorem ve_append (ho : VE X T E o to) (he : VE X T E e te) (hbase : attributeBase o "append" X.env (eval o X.env) = eval o X.env := by rfl)
    (hline : (apos.endLine == cpos.line) = true := by rfl) (hs : starEach [e] X.env = [(false, eval e X.env)] := by rfl) :
    VE X T E (.Call (.Attribute o "append" apos) [e] [] cpos) (eMut false cAppend to (aCons te aNil)) :=
  ve_mutL PySem.F.slot_list_append PySem.F.type_list_append mt_append mut_append ho (va_cons he va_nil hs) hbase (by rw [hs]; rfl) hline hs rfl
end
end VS

set_option Elab.async false
set_option linter.all false
set_option maxRecDepth 100000
set_option maxHeartbeats 4000000
set_option autoImplicit false
/-! VG: operations on plain data. -/
namespace VS
open PySem PySem.Spec PyProof.Rows L2
section
variable {K : PySem.W.Frag} {T : Tab} {Z H : Hp} {x : V}
theorem View.int {i : Int} (h : View K T Z H x (.int i)) : x = .int i := by cases h with | f r => cases r; rfl
theorem View.bl {i : Bool} (h : View K T Z H x (.bl i)) : x = .bl i := by cases h with | f r => cases r; rfl
theorem View.str {i : List Nat} (h : View K T Z H x (.str i)) : x = .str (S i) := by cases h with | f r => cases r; rfl
theorem View.non (h : View K T Z H x .non) : x = .non := by cases h with | f r => cases r; rfl
theorem View.lst' {xs : List F} (h : View K T Z H x (.lst xs)) (s : Same Z H) : ∃ a vs, x = .ref a ∧ H a = some (.lst vs) ∧ RepFs K T Z vs xs := by
  cases h with
  | f r => cases r with | lst e rs => exact ⟨_, _, rfl, s _ _ e, rs⟩
  | lst e rs => exact ⟨_, _, rfl, e, rs⟩
theorem View.tup' {xs : List F} (h : View K T Z H x (.tup xs)) : ∃ a vs, x = .ref a ∧ SqT K Z a vs ∧ RepFs K T Z vs xs := by
  cases h with | f r => cases r with | tup e rs => exact ⟨_, _, rfl, e, rs⟩
theorem View.dct' {xs : List (F × F)} (h : View K T Z H x (.dct xs)) (s : Same Z H) : ∃ a vs, x = .ref a ∧ H a = some (.dK vs) ∧ RepFk K T Z vs xs := by
  cases h with
  | f r => cases r with | dct e rs => exact ⟨_, _, rfl, s _ _ e, rs⟩
  | dct e rs => exact ⟨_, _, rfl, e, rs⟩
theorem S_len (l : List Nat) : (S l).length = l.length := by show l.toArray.size = _; simp
theorem S_app (a b : List Nat) : S a ++ S b = S (a ++ b) := by
  show Str.mk (a.toArray ++ b.toArray) = Str.mk (a ++ b).toArray
  simp
theorem S_inj {a b : List Nat} : S a = S b ↔ a = b := ⟨fun h => by
  have : a.toArray = b.toArray := congrArg Str.cps h
  simpa using this, fun h => by rw [h]⟩
theorem S_list (l : List Nat) : (S l).cps.toList = l := by show l.toArray.toList = l; simp
end

section
variable {X : Cx} {T : Tab}
/-! ### arithmetic -/
def addF : F → F → Option F
  | .int i, .int j => some (.int (i + j))
  | .str a, .str b => if small (a.length + b.length) = true then some (.str (a ++ b)) else none
  | .lst xs, .lst ys => if small (xs.length + ys.length) = true then some (.lst (xs ++ ys)) else none
  | .tup xs, .tup ys => if small (xs.length + ys.length) = true then some (.tup (xs ++ ys)) else none
  | _, _ => none
def rAddF (K : PySem.W.Frag) : R2 := fun x y H Q => (rI0 (fun i j => .int (i + j)) x y H Q ∨ ∃ i j, x = .str i ∧ y = .str j ∧ i.length + j.length ≤ sizeLine ∧ Q (.str (i ++ j)) H) ∨ (rCat x y H Q ∨ rCatA K x y H Q)
theorem or_add : OpR X (binaryOp .Add) (rAddF X.K) := OpR.or (OpR.or op_add op_add_str) (OpR.or op_cat op_catA)
theorem o2_add : Op2 X T (rAddF X.K) addF := by
  intro Z H x y fx fy z Q s vx vy h g
  cases fx with
  | int i => cases fy with
    | int j => cases h; cases vx.int; cases vy.int; exact .inl (.inl ⟨i, j, rfl, rfl, g.here s (.int _)⟩)
    | _ => cases h
  | str a => cases fy with
    | str b =>
      obtain ⟨hs, h⟩ := ifSome h
      cases h; cases vx.str; cases vy.str
      exact .inl (.inr ⟨_, _, rfl, rfl, by rw [S_len, S_len]; exact small_line hs, by rw [S_app]; exact g.here s (.str _)⟩)
    | _ => cases h
  | lst xs => cases fy with
    | lst ys =>
      obtain ⟨hs, h⟩ := ifSome h
      cases h
      obtain ⟨a, vs, rfl, e1, r1⟩ := vx.lst' s
      obtain ⟨b, us, rfl, e2, r2⟩ := vy.lst' s
      refine .inr (.inl ⟨a, b, vs, us, rfl, rfl, e1, e2, by rw [r1.length, r2.length]; exact small_line hs, fun p hp => g.new s hp ?_⟩)
      have gr := Grow.laid (o := .lst (vs ++ us)) s hp
      exact .lst upd_same ((r1.append r2).mono gr.z)
    | _ => cases h
  | tup xs => cases fy with
    | tup ys =>
      obtain ⟨hs, h⟩ := ifSome h
      cases h
      obtain ⟨a, vs, rfl, e1, r1⟩ := vx.tup'
      obtain ⟨b, us, rfl, e2, r2⟩ := vy.tup'
      refine .inr (.inr ⟨a, b, vs, us, rfl, rfl, same_sqt s e1, same_sqt s e2, by rw [r1.length, r2.length]; exact small_line hs, fun h0 => ?_, fun h0 h1 => ?_, fun h0 h1 p hp => ?_⟩)
      · subst h0
        cases r1
        exact g.here s (.tup e2 r2)
      · subst h1
        cases r2
        rw [List.append_nil] at g
        exact g.here s (.tup e1 r1)
      · have gr := Grow.laid (o := .tup (vs ++ us)) s hp
        exact g.new s hp (.tup (SqT.of upd_same) ((r1.append r2).mono gr.z))
    | _ => cases h
  | _ => cases h
def subF : F → F → Option F
  | .int i, .int j => some (.int (i - j))
  | _, _ => none
theorem o2_sub : Op2 X T (rI0 fun i j => .int (i - j)) subF := by
  intro Z H x y fx fy z Q s vx vy h g
  cases fx with
  | int i => cases fy with
    | int j => cases h; cases vx.int; cases vy.int; exact ⟨i, j, rfl, rfl, g.here s (.int _)⟩
    | _ => cases h
  | _ => cases h
/-- bits -/
def bitsI (i : Int) : Nat := i.natAbs.log2
def repS (n : Int) (s : List Nat) : List Nat := (List.replicate n.toNat s).flatten
def mulF : F → F → Option F
  | .int i, .int j => if (decide (-(2 ^ 64) < i) && decide (i < 2 ^ 64)) = true ∨ (decide (-(2 ^ 64) < j) && decide (j < 2 ^ 64)) = true ∨ bitsI i + bitsI j < 1000000 then some (.int (i * j)) else none
  | .str a, .int n => if decide (-1000000 ≤ n) = true ∧ decide (n ≤ 1000000) = true ∧ small (a.length * n.toNat) = true then some (.str (repS n a)) else none
  | .lst xs, .int n => if decide (-1000000 ≤ n) = true ∧ decide (n ≤ 1000000) = true ∧ small (xs.length * n.toNat) = true then some (.lst (List.replicate n.toNat xs).flatten) else none
  | _, _ => none
theorem foldl_app (l : List Nat) : ∀ (n : Nat) (acc : Array Nat), (List.replicate n l.toArray).foldl (· ++ ·) acc = acc ++ ((List.replicate n l).flatten).toArray
  | 0, acc => by simp
  | n + 1, acc => by
    rw [List.replicate_succ, List.foldl_cons, foldl_app l n, List.replicate_succ, List.flatten_cons]
    simp
theorem op_mul_str : OpR X (binaryOp .Mult) (fun x y H Q => ∃ (a : List Nat) (n : Int), x = .str (S a) ∧ y = .int n ∧ -1000000 ≤ n ∧ n ≤ 1000000 ∧ small (a.length * n.toNat) = true ∧ Q (.str (S (repS n a))) H) := by
  intro pins s σ H x y v u Q I rx ry h
  obtain ⟨a, n, rfl, rfl, h1, h2, hs, q⟩ := h
  obtain ⟨t, rfl⟩ := rx
  obtain ⟨t', rfl⟩ := ry
  have hl : (S a).length = a.length := S_len a
  have hz : a.length * n.toNat ≤ 1000000 := of_decide_eq_true hs
  have e0 : ∀ {z : Str}, z = S (repS n a) → ∀ (tk : Tok) (k : Nat), EP X pins σ Q (.str z tk) { s with toks := k } := fun {z} e tk k => ⟨.str z, H, I.tok _, ⟨tk, rfl⟩, by rw [e]; exact q⟩
  refine PySem.P.mul_str (by rw [decide_eq_false (by omega), decide_eq_false (by omega)]; rfl) (fun hn h01 => ?_) (fun hn h01 => ?_) ?_
  · intro hgt
    have hn0 : (0 : Int) < n := by omega
    have : (2 ^ 63 - 1 : Int) < ((S a).length : Int) * n := by
      have := Int.lt_mul_of_ediv_lt hn0 hgt
      exact this
    have e1 : ((S a).length : Int) * n = ((a.length * n.toNat : Nat) : Int) := by
      rw [hl, Int.natCast_mul, Int.toNat_of_nonneg (by omega)]
    rw [e1] at this
    omega
  · show Builtin.Str.tooLong ((S a).length * n.toNat) = false
    rw [hl]
    unfold Builtin.Str.tooLong
    exact decide_eq_false (by have : (1000000 : Nat) ≤ sizeLine := by decide
                              omega)
  · by_cases hn : n < 1
    · rw [if_pos hn]
      refine ⟨by decide, e0 ?_ _ _⟩
      have : n.toNat = 0 := by omega
      unfold repS
      rw [this]
      rfl
    · rw [if_neg hn]
      by_cases h01 : (n == 1 || (S a).length == 0) = true
      · rw [if_pos h01]
        have e1 : S a = S (repS n a) := by
          rw [Bool.or_eq_true] at h01
          unfold repS
          rcases h01 with h | h
          · have : n = 1 := by simpa using h
            subst this
            simp
          · have : a.length = 0 := by rw [← hl]; simpa using h
            have : a = [] := List.length_eq_zero_iff.mp this
            subst this
            simp
        exact e0 e1 t s.toks
      · rw [if_neg h01]
        refine ⟨?_, e0 ?_ _ _⟩
        · show (Str.mk _).cps.size ≤ sizeLine
          rw [show (S a).cps = a.toArray from rfl, foldl_app]
          have : ((List.replicate n.toNat a).flatten).length = n.toNat * a.length := by simp
          simp only [Array.empty_append, List.size_toArray, this]
          rw [Nat.mul_comm]
          have : (1000000 : Nat) ≤ sizeLine := by decide
          omega
        · unfold S repS
          rw [show (Str.mk a.toArray).cps = a.toArray from rfl, foldl_app]
          simp
def rMulF : R2 := fun x y H Q => (rI CMul (fun i j => .int (i * j)) x y H Q ∨ rI CMulW (fun i j => .int (i * j)) x y H Q) ∨ ((∃ (a : List Nat) (n : Int), x = .str (S a) ∧ y = .int n ∧ -1000000 ≤ n ∧ n ≤ 1000000 ∧ small (a.length * n.toNat) = true ∧ Q (.str (S (repS n a))) H) ∨ rRep x y H Q)
theorem or_mul : OpR X (binaryOp .Mult) rMulF := OpR.or (OpR.or op_mul op_mulW) (OpR.or op_mul_str op_rep)
theorem o2_mul : Op2 X T rMulF mulF := by
  intro Z H x y fx fy z Q s vx vy h g
  cases fx with
  | int i => cases fy with
    | int j =>
      obtain ⟨hc, h⟩ := ifSome h
      cases h; cases vx.int; cases vy.int
      rcases hc with hc | hc | hc
      · rw [Bool.and_eq_true] at hc
        exact .inl (.inl ⟨i, j, rfl, rfl, .inl ⟨of_decide_eq_true hc.1, of_decide_eq_true hc.2⟩, g.here s (.int _)⟩)
      · rw [Bool.and_eq_true] at hc
        exact .inl (.inl ⟨i, j, rfl, rfl, .inr ⟨of_decide_eq_true hc.1, of_decide_eq_true hc.2⟩, g.here s (.int _)⟩)
      · exact .inl (.inr ⟨i, j, rfl, rfl, hc, g.here s (.int _)⟩)
    | _ => cases h
  | str a => cases fy with
    | int n =>
      obtain ⟨hc, h⟩ := ifSome h
      cases h; cases vx.str; cases vy.int
      exact .inr (.inl ⟨a, n, rfl, rfl, of_decide_eq_true hc.1, of_decide_eq_true hc.2.1, hc.2.2, g.here s (.str _)⟩)
    | _ => cases h
  | lst xs => cases fy with
    | int n =>
      obtain ⟨hc, h⟩ := ifSome h
      cases h; cases vy.int
      obtain ⟨a, vs, rfl, e1, r1⟩ := vx.lst' s
      have b1 : -1000000 ≤ n := of_decide_eq_true hc.1
      have b2 : n ≤ 1000000 := of_decide_eq_true hc.2.1
      refine .inr (.inr ⟨a, n, vs, rfl, rfl, e1, by omega, by omega, by rw [r1.length]; exact small_line hc.2.2, fun p hp => g.new s hp ?_⟩)
      have gr := Grow.laid (o := .lst (List.replicate n.toNat vs).flatten) s hp
      exact .lst upd_same ((r1.rep n.toNat).mono gr.z)
    | _ => cases h
  | _ => cases h
def fdivF : F → F → Option F
  | .int i, .int j => if 0 < j ∧ bitsI j < 9000 then some (.int (i / j)) else none
  | _, _ => none
theorem o2_fdiv : Op2 X T (rI CDivW fun i j => .int (i / j)) fdivF := by
  intro Z H x y fx fy z Q s vx vy h g
  cases fx with
  | int i => cases fy with
    | int j => obtain ⟨hc, h⟩ := ifSome h; cases h; cases vx.int; cases vy.int; exact ⟨i, j, rfl, rfl, hc, g.here s (.int _)⟩
    | _ => cases h
  | _ => cases h
def modF : F → F → Option F
  | .int i, .int j => if 0 < j then some (.int (i % j)) else none
  | _, _ => none
theorem o2_mod : Op2 X T (rI (fun _ j => 0 < j) fun i j => .int (i % j)) modF := by
  intro Z H x y fx fy z Q s vx vy h g
  cases fx with
  | int i => cases fy with
    | int j => obtain ⟨hc, h⟩ := ifSome h; cases h; cases vx.int; cases vy.int; exact ⟨i, j, rfl, rfl, hc, g.here s (.int _)⟩
    | _ => cases h
  | _ => cases h
def powF : F → F → Option F
  | .int i, .int j => if 0 ≤ j ∧ j ≤ 1000 ∧ i.natAbs < 2 ^ 64 then some (.int (i ^ j.toNat)) else none
  | _, _ => none
theorem o2_pow : Op2 X T (rI CPow fun i j => .int (i ^ j.toNat)) powF := by
  intro Z H x y fx fy z Q s vx vy h g
  cases fx with
  | int i => cases fy with
    | int j =>
      obtain ⟨hc, h⟩ := ifSome h; cases h; cases vx.int; cases vy.int
      exact ⟨i, j, rfl, rfl, ⟨hc.1, by have := hc.2.1; omega, hc.2.2⟩, g.here s (.int _)⟩
    | _ => cases h
  | _ => cases h
def negF : F → Option F
  | .int i => some (.int (-i))
  | _ => none
theorem o1_neg : Op1 X T (rU fun i => .int (-i)) negF := by
  intro Z H x fx z Q s vx h g
  cases fx with
  | int i => cases h; cases vx.int; exact ⟨i, rfl, g.here s (.int _)⟩
  | _ => cases h
/-! ### comparisons -/
def cmpF (p : Int → Int → Bool) : F → F → Option F
  | .int i, .int j => some (.bl (p i j))
  | _, _ => none
theorem o2_cmp {p : Int → Int → Bool} : Op2 X T (rI0 fun i j => .bl (p i j)) (cmpF p) := by
  intro Z H x y fx fy z Q s vx vy h g
  cases fx with
  | int i => cases fy with
    | int j => cases h; cases vx.int; cases vy.int; exact ⟨i, j, rfl, rfl, g.here s (.bl _)⟩
    | _ => cases h
  | _ => cases h
abbrev ltF := cmpF fun i j => decide (i < j)
abbrev leF := cmpF fun i j => decide (i ≤ j)
abbrev gtF := cmpF fun i j => decide (j < i)
abbrev geF := cmpF fun i j => decide (j ≤ i)
/-! equality: scalars, and data of any depth -/
mutual
def toD : F → Option PyData
  | .non => some .none
  | .bl b => some (.bool b)
  | .int i => some (.int i)
  | .str s => some (.str (S s))
  | .lst xs => (toDs xs).map PyData.list
  | .tup xs => (toDs xs).map PyData.tuple
  | .dct _ => none
  | .dlk _ _ => none
  | .ktp _ => none
  | .obj _ _ => none
  | .scr _ => none
def toDs : List F → Option (List PyData)
  | [] => some []
  | x :: xs => (toD x).bind fun d => (toDs xs).map fun ds => d :: ds
end
theorem opt_map_some {α β : Type} {f : α → β} {o : Option α} {b : β} (h : o.map f = some b) : ∃ a, o = some a ∧ f a = b := by
  cases o with
  | none => cases h
  | some a => cases h; exact ⟨a, rfl, rfl⟩
theorem opt_bind_some {α β : Type} {f : α → Option β} {o : Option α} {b : β} (h : o.bind f = some b) : ∃ a, o = some a ∧ f a = some b := by
  cases o with
  | none => cases h
  | some a => exact ⟨a, rfl, h⟩
mutual
theorem RepF.dp {K : PySem.W.Frag} {Z H : Hp} (s : Same Z H) : ∀ {v : V} {x : F} {d : PyData}, RepF K T Z v x → toD x = some d → Dp K H v d
  | _, _, _, .non, h => by cases h; exact .non
  | _, _, _, .bl b, h => by cases h; exact .bl b
  | _, _, _, .int i, h => by cases h; exact .int i
  | _, _, _, .str z, h => by cases h; exact .str _
  | _, _, _, .tup e r, h => by
    obtain ⟨ds, e2, rfl⟩ := opt_map_some (show (toDs _).map PyData.tuple = some _ from by simpa only [toD] using h)
    exact .tup (same_sqt s e) (RepFs.dp s r e2)
  | _, _, _, .lst e r, h => by
    obtain ⟨ds, e2, rfl⟩ := opt_map_some (show (toDs _).map PyData.list = some _ from by simpa only [toD] using h)
    exact .lst (SqL.of (s _ _ e)) (RepFs.dp s r e2)
  | _, _, _, .dct _ _, h => by simp only [toD] at h; cases h
  | _, _, _, .dlt _ _, h => by simp only [toD] at h; cases h
  | _, _, _, .ktp _ _, h => by simp only [toD] at h; cases h
  | _, _, _, .dlu _ _, h => by simp only [toD] at h; cases h
  | _, _, _, .obj _ _ _, h => by simp only [toD] at h; cases h
  | _, _, _, .scr _, h => by simp only [toD] at h; cases h
theorem RepFs.dp {K : PySem.W.Frag} {Z H : Hp} (s : Same Z H) : ∀ {v : List V} {x : List F} {d : List PyData}, RepFs K T Z v x → toDs x = some d → DpAll K H v d
  | _, _, _, .nil, h => by cases h; exact .nil
  | _, _, _, .cons r t, h => by
    obtain ⟨d, e1, h⟩ := opt_bind_some (show (toD _).bind _ = some _ from by simpa only [toDs] using h)
    obtain ⟨ds, e2, rfl⟩ := opt_map_some h
    exact .cons (RepF.dp s r e1) (RepFs.dp s t e2)
end
theorem View.dp {K : PySem.W.Frag} {Z H : Hp} (s : Same Z H) {v : V} {x : F} {d : PyData} (h : View K T Z H v x) (e : toD x = some d) : Dp K H v d := by
  cases h with
  | f r => exact r.dp s e
  | lst e1 r =>
    obtain ⟨ds, e2, rfl⟩ := opt_map_some (show (toDs _).map PyData.list = some _ from by simpa only [toD] using e)
    exact .lst (SqL.of e1) (RepFs.dp s r e2)
  | dct _ _ => simp only [toD] at e; cases e
/-- == of data -/
def eqD (x y : F) : Option Bool := (toD x).bind fun a => (toD y).bind fun b => if (SeqAt.shaped a && SeqAt.shaped b) = true then some (PyData.eqv a b) else none
def eqB : F → F → Option Bool
  | .int i, .int j => some (decide (i = j))
  | .str a, .str b => some (decide (a = b))
  | .bl a, .bl b => some (decide (a = b))
  | x, y => eqD x y
def eqF (x y : F) : Option F := (eqB x y).map F.bl
def neF (x y : F) : Option F := (eqB x y).map fun b => F.bl (!b)
def rEqF (K : PySem.W.Frag) : R2 := fun x y H Q => rEq x y H Q ∨ rEqD K x y H Q
def rNeF (K : PySem.W.Frag) : R2 := fun x y H Q => rNe x y H Q ∨ rNeD K x y H Q
theorem or_eq (hu : X.A.units + 64 < cLine) : OpR X (compareOp .Eq) (rEqF X.K) := OpR.or op_eq (op_eqD hu)
theorem or_ne (hu : X.A.units + 64 < cLine) : OpR X (compareOp .NotEq) (rNeF X.K) := OpR.or op_ne (op_neD hu)
theorem eqB_cases {x y : F} {b : Bool} (h : eqB x y = some b) : (∃ i j, x = .int i ∧ y = .int j ∧ b = decide (i = j)) ∨ (∃ i j, x = .str i ∧ y = .str j ∧ b = decide (i = j)) ∨ (∃ i j, x = .bl i ∧ y = .bl j ∧ b = decide (i = j)) ∨ eqD x y = some b := by
  unfold eqB at h
  split at h
  · cases h; exact .inl ⟨_, _, rfl, rfl, rfl⟩
  · cases h; exact .inr (.inl ⟨_, _, rfl, rfl, rfl⟩)
  · cases h; exact .inr (.inr (.inl ⟨_, _, rfl, rfl, rfl⟩))
  · exact .inr (.inr (.inr h))
theorem eqD_some {x y : F} {b : Bool} (h : eqD x y = some b) : ∃ d e, toD x = some d ∧ toD y = some e ∧ SeqAt.shaped d = true ∧ SeqAt.shaped e = true ∧ PyData.eqv d e = b := by
  obtain ⟨d, e1, h⟩ := opt_bind_some h
  obtain ⟨e, e2, h⟩ := opt_bind_some h
  obtain ⟨hs, h⟩ := ifSome h
  rw [Bool.and_eq_true] at hs
  exact ⟨d, e, e1, e2, hs.1, hs.2, h⟩
theorem o2_eq : Op2 X T (rEqF X.K) eqF := by
  intro Z H x y fx fy z Q s vx vy h g
  obtain ⟨b, e, rfl⟩ := opt_map_some h
  rcases eqB_cases e with ⟨i, j, rfl, rfl, rfl⟩ | ⟨i, j, rfl, rfl, rfl⟩ | ⟨i, j, rfl, rfl, rfl⟩ | e
  · cases vx.int; cases vy.int
    refine .inl ⟨rfl, ?_⟩
    rw [show decide (V.int i = V.int j) = decide (i = j) from by simp]
    exact g.here s (.bl _)
  · cases vx.str; cases vy.str
    refine .inl ⟨rfl, ?_⟩
    rw [show decide (V.str (S i) = V.str (S j)) = decide (i = j) from by simp [S_inj]]
    exact g.here s (.bl _)
  · cases vx.bl; cases vy.bl
    refine .inl ⟨rfl, ?_⟩
    rw [show decide (V.bl i = V.bl j) = decide (i = j) from by simp]
    exact g.here s (.bl _)
  · obtain ⟨d, e', e1, e2, h1, h2, rfl⟩ := eqD_some e
    exact .inr ⟨d, e', vx.dp s e1, vy.dp s e2, h1, h2, g.here s (.bl _)⟩
theorem o2_ne : Op2 X T (rNeF X.K) neF := by
  intro Z H x y fx fy z Q s vx vy h g
  obtain ⟨b, e, rfl⟩ := opt_map_some h
  rcases eqB_cases e with ⟨i, j, rfl, rfl, rfl⟩ | ⟨i, j, rfl, rfl, rfl⟩ | ⟨i, j, rfl, rfl, rfl⟩ | e
  · cases vx.int; cases vy.int
    refine .inl ⟨rfl, ?_⟩
    rw [show decide (V.int i = V.int j) = decide (i = j) from by simp]
    exact g.here s (.bl _)
  · cases vx.str; cases vy.str
    refine .inl ⟨rfl, ?_⟩
    rw [show decide (V.str (S i) = V.str (S j)) = decide (i = j) from by simp [S_inj]]
    exact g.here s (.bl _)
  · cases vx.bl; cases vy.bl
    refine .inl ⟨rfl, ?_⟩
    rw [show decide (V.bl i = V.bl j) = decide (i = j) from by simp]
    exact g.here s (.bl _)
  · obtain ⟨d, e', e1, e2, h1, h2, rfl⟩ := eqD_some e
    exact .inr ⟨d, e', vx.dp s e1, vy.dp s e2, h1, h2, g.here s (.bl _)⟩
end
end VS

set_option Elab.async false
set_option linter.all false
set_option maxRecDepth 100000
set_option maxHeartbeats 4000000
set_option autoImplicit false
/-! VH: in, is, subscripts, slices, built-in functions, isinstance. -/
namespace VS
open PySem PySem.Spec PyProof.Rows L2
section
variable {X : Cx} {T : Tab}
/-! ### in -/
def flatF : F → Bool
  | .non | .bl _ | .int _ | .str _ => true
  | _ => false
theorem View.rep {K : PySem.W.Frag} {Z H : Hp} {v : V} {x : F} (h : View K T Z H v x) (hx : flatF x = true) : RepF K T Z v x := by
  cases h with
  | f r => exact r
  | lst _ _ => cases hx
  | dct _ _ => cases hx
/-! ### is None -/
def isNF : F → F → Option F
  | .non, .non => some (.bl true)
  | .scr _, _ => none
  | _, .non => some (.bl false)
  | .bl a, .bl b => some (.bl (decide (a = b)))
  | _, _ => none
def rIsF : R2 := fun x y H Q => (y = .non ∧ Q (.bl (decide (x = .non))) H) ∨ rIsB x y H Q
theorem or_is : OpR X (compareOp .Is) rIsF := OpR.or op_isN op_isBl
theorem View.ne_non {K : PySem.W.Frag} {Z H : Hp} {v : V} {x : F} (h : View K T Z H v x) (hx : x ≠ .non) : decide (v = .non) = false := by
  refine decide_eq_false fun e => ?_
  subst e
  cases h with
  | f r => cases r; exact hx rfl
theorem o2_is : Op2 X T rIsF isNF := by
  intro Z H x y fx fy z Q s vx vy h g
  unfold isNF at h
  split at h
  · cases h; cases vx.non; cases vy.non; exact .inl ⟨rfl, g.here s (.bl _)⟩
  · cases h
  · rename_i hx1 _
    cases h; cases vy.non
    exact .inl ⟨rfl, by rw [vx.ne_non (by intro e; exact hx1 e)]; exact g.here s (.bl _)⟩
  · cases h; cases vx.bl; cases vy.bl; exact .inr ⟨_, _, rfl, rfl, g.here s (.bl _)⟩
  · cases h
end
section
variable {X : Cx} {T : Tab} {E : XK} {a b c e o i value : Expr} {es : List Expr} {ta tb tc te to ti tv : TEv} {tr : TAv} {pos pos' apos cpos p2 : Pos}
/-! ### subscripts -/
def ixC (i : Int) : Option Cell → Option W
  | some (.lstF xs) => (atI xs i).map W.f
  | some (.lstW xs) => atI xs i
  | _ => none
def ixW (st : Store) : W → W → Option W
  | .f (.lst xs), .f (.int i) => (atI xs i).map W.f
  | .f (.tup xs), .f (.int i) => (atI xs i).map W.f
  | .f (.str s), .f (.int i) => if small s.length = true then (atI s i).map fun c => W.f (.str [c]) else none
  | .loc n, .f (.int i) => ixC i st[n]?
  | _, _ => none
def eIx (ta tb : TEv) : TEv := fun env st => (ta env st).bind fun w st1 => (tb env st1).bind fun u st2 => ofW (ixW st2 w u) st2
theorem atI_get {α : Type} {xs : List α} {i : Int} {x : α} (h : atI xs i = some x) : ∃ j, ixN xs.length i = some j ∧ xs[j]? = some x := opt_bind_some h
theorem RepFs.atI {K : PySem.W.Frag} {Z : Hp} {vs : List V} {xs : List F} {i : Int} {x : F} (r : RepFs K T Z vs xs) (h : L2.atI xs i = some x) : ∃ v, L2.atI vs i = some v ∧ RepF K T Z v x := by
  obtain ⟨j, e1, e2⟩ := atI_get h
  obtain ⟨v, e3, rv⟩ := r.get e2
  exact ⟨v, by unfold L2.atI; rw [r.length, e1]; exact e3, rv⟩
theorem RepWs.atI {K : PySem.W.Frag} {Z : Hp} {ι : List Addr} {vs : List V} {xs : List W} {i : Int} {x : W} (r : RepWs K T Z ι vs xs) (h : L2.atI xs i = some x) : ∃ v, L2.atI vs i = some v ∧ RepW K T Z ι v x := by
  obtain ⟨j, e1, e2⟩ := atI_get h
  obtain ⟨v, e3, rv⟩ := r.get e2
  exact ⟨v, by unfold L2.atI; rw [r.length, e1]; exact e3, rv⟩
theorem ve_ix (ha : VE X T E a ta) (hb : VE X T E b tb) (hs : PlainIx b := by exact fun _ _ => rfl) : VE X T E (.Subscript a b pos) (eIx ta tb) := pe_weak (pe_ix ix_seq ha hb hs) fun σ H Q h => by
  obtain ⟨Z, ι, env, st, s, re, p⟩ := h
  refine ⟨Z, ι, env, st, s, re, (Post.bind p).imp fun w st1 H1 Z1 ι1 l1 s1 p1 v rv => ?_⟩
  refine ⟨Z1, ι1, env, st1, s1, re.mono l1, (Post.bind p1).imp fun u st2 H2 Z2 ι2 l2 s2 p2 y ry => ?_⟩
  cases q : ixW st2 w u with
  | none => rw [q] at p2; exact p2.elim
  | some z =>
    rw [q] at p2
    have fin : ∀ v', RepW X.K T Z2 ι2 v' z → Q v' H2 := fun v' r' => p2 H2 Z2 ι2 Le.refl s2 v' r'
    replace rv := rv.mono l2
    clear p1
    unfold ixW at q
    split at q
    · obtain ⟨x, e1, rfl⟩ := opt_map_some q
      cases ry with | f ry =>
      cases ry
      cases rv with | f rv =>
      cases rv with | lst e rs =>
      obtain ⟨v', e2, r2⟩ := rs.atI e1
      exact .inl ⟨_, _, _, v', rfl, rfl, SqL.of (s2.sub _ _ e), e2, fin _ (.f r2)⟩
    · obtain ⟨x, e1, rfl⟩ := opt_map_some q
      cases ry with | f ry =>
      cases ry
      cases rv with | f rv =>
      cases rv with | tup e rs =>
      obtain ⟨v', e2, r2⟩ := rs.atI e1
      exact .inr (.inl ⟨_, _, _, v', rfl, rfl, same_sqt s2.sub e, e2, fin _ (.f r2)⟩)
    · rename_i z0 i0
      by_cases hsm : small z0.length = true
      · rw [if_pos hsm] at q
        obtain ⟨c, e1, rfl⟩ := opt_map_some q
        cases ry with | f ry =>
        cases ry
        cases rv with | f rv =>
        cases rv
        exact .inr (.inr ⟨_, _, c, rfl, rfl, by rw [S_len]; exact small_line hsm, by rw [S_list]; exact e1, fin _ (.f (.str [c]))⟩)
      · rw [if_neg hsm] at q; cases q
    · rename_i n0 i0
      cases ry with | f ry =>
      cases ry
      cases rv with | loc e =>
      rename_i a0
      cases q2 : st2[n0]? with
      | none => rw [q2] at q; cases q
      | some cl =>
        rw [q2] at q
        have k := s2.cell n0 a0 cl e q2
        cases cl with
        | lstF xs =>
          obtain ⟨x, e1, rfl⟩ := opt_map_some q
          obtain ⟨_, vs, e3, rs⟩ := k
          obtain ⟨v', e2, r2⟩ := rs.atI e1
          exact .inl ⟨_, _, _, v', rfl, rfl, SqL.of e3, e2, fin _ (.f r2)⟩
        | lstW xs =>
          obtain ⟨_, vs, e3, rs⟩ := k
          obtain ⟨v', e2, r2⟩ := rs.atI q
          exact .inl ⟨_, _, _, v', rfl, rfl, SqL.of e3, e2, fin _ r2⟩
        | dead => cases q
        | dct _ => cases q
        | dti _ => cases q
        | ins _ _ => cases q
    · cases q
/-! ### slices -/
abbrev TOv := Env → Store → Res (Option Int)
def RdO (K : PySem.W.Frag) (T : Tab) (E : XK) (t : TOv) : TO := fun σ H Q => ∃ Z ι env st, SimS K T Z ι st H ∧ EnvR K T Z ι σ env ∧ Post K T E Z ι (t env st) fun o _ H' _ _ => Q o H'
abbrev VO (X : Cx) (T : Tab) (E : XK) (e : Option Expr) (t : TOv) : Prop := PO X e (RdO X.K T E t)
theorem po_weak {eo : Option Expr} {t t' : TO} (h : PO X eo t) (w : ∀ σ H Q, t' σ H Q → t σ H Q) : PO X eo t' := ⟨fun pins s σ H Q I q => h.run pins s σ H Q I (w σ H Q q)⟩
def oNone : TOv := fun _ st => .ok none st
def oSome (t : TEv) : TOv := fun env st => (t env st).bind fun w st1 => match w with
  | .f (.int i) => .ok (some i) st1
  | _ => .stuck
theorem vo_none : VO X T E none oNone := po_weak po_none fun σ H Q h => by
  obtain ⟨Z, ι, env, st, s, re, p⟩ := h
  exact p H Z ι Le.refl s
theorem vo_some (h : VE X T E e te) : VO X T E (some e) (oSome te) := po_weak (po_some h) fun σ H Q h => by
  obtain ⟨Z, ι, env, st, s, re, p⟩ := h
  refine ⟨Z, ι, env, st, s, re, (Post.bind p).imp fun w st1 H1 Z1 ι1 l1 s1 p1 v rv => ?_⟩
  cases rv with
  | loc _ => exact p1.elim
  | f rv => cases rv with
    | int i => exact ⟨i, rfl, p1 H1 Z1 ι1 Le.refl s1⟩
    | _ => exact p1.elim
def cutL {α : Type} (xs : List α) (lo hi : Option Int) : List α := (xs.drop (HT.sIx xs.length 0 lo)).take (HT.sIx xs.length xs.length hi - HT.sIx xs.length 0 lo)
def slF (lo hi : Option Int) : F → Option F
  | .lst xs => some (.lst (cutL xs lo hi))
  | .tup xs => some (.tup (cutL xs lo hi))
  | .str s => if small s.length = true then some (.str (cutL s lo hi)) else none
  | _ => none
def rSlF (K : PySem.W.Frag) : V → Option Int → Option Int → Hp → VK → Prop := fun x lo hi H Q => rSlL K x lo hi H Q ∨ (rSlA K x lo hi H Q ∨ rSlS x lo hi H Q)
theorem sr_sl : SlR X (rSlF X.K) := SlR.or sl_list (SlR.or sl_tupA sl_str)
theorem sl_ok {Z H : Hp} {x : V} {fx z : F} {lo hi : Option Int} {Q : VK} (s : Same Z H) (vx : View X.K T Z H x fx) (h : slF lo hi fx = some z) (g : Give X.K T Z H z Q) : rSlF X.K x lo hi H Q := by
  cases fx with
  | lst xs =>
    cases h
    obtain ⟨a, vs, rfl, e1, r1⟩ := vx.lst' s
    refine .inl ⟨a, vs, rfl, SqL.of e1, fun p hp => g.new s hp ?_⟩
    have gr := Grow.laid (o := .lst (cutV vs lo hi)) s hp
    refine .lst upd_same (RepFs.mono gr.z ?_)
    unfold cutV cutL
    rw [r1.length]
    exact (r1.drop _).take _
  | tup xs =>
    cases h
    obtain ⟨a, vs, rfl, e1, r1⟩ := vx.tup'
    refine .inr (.inl ⟨a, vs, rfl, same_sqt s e1, fun hw => ?_, fun _ p hp => g.new s hp ?_⟩)
    · have e : cutL xs lo hi = xs := by
        unfold cutL
        rw [r1.length] at hw
        rw [hw.1, hw.2]
        simp
      rw [e] at g
      exact g.here s (.tup e1 r1)
    · have gr := Grow.laid (o := .tup (cutV vs lo hi)) s hp
      refine .tup (SqT.of upd_same) (RepFs.mono gr.z ?_)
      unfold cutV cutL
      rw [r1.length]
      exact (r1.drop _).take _
  | str z =>
    obtain ⟨hs, h⟩ := ifSome h
    cases h; cases vx.str
    refine .inr (.inr ⟨_, rfl, by rw [S_len]; exact small_line hs, ?_⟩)
    have e : cutS (S z) lo hi = S (cutL z lo hi) := by
      unfold cutS cutL
      rw [S_list, S_len]
      rfl
    rw [e]
    exact g.here s (.str _)
  | _ => cases h
def eSl (ta : TEv) (tl th : TOv) : TEv := fun env st => (ta env st).bind fun w st1 => (tl env st1).bind fun lo st2 => (th env st2).bind fun hi st3 => lk1 (slF lo hi) w st3
theorem ve_sl {lo hi : Option Expr} {tl th : TOv} (ha : VE X T E a ta) (hl : VO X T E lo tl) (hh : VO X T E hi th) : VE X T E (.Subscript a (.Slice lo hi none p2) pos) (eSl ta tl th) := pe_weak (pe_slice sr_sl ha hl hh) fun σ H Q h => by
  obtain ⟨Z, ι, env, st, s, re, p⟩ := h
  refine ⟨Z, ι, env, st, s, re, (Post.bind p).imp fun w st1 H1 Z1 ι1 l1 s1 p1 v rv => ?_⟩
  refine ⟨Z1, ι1, env, st1, s1, re.mono l1, (Post.bind p1).imp fun lo st2 H2 Z2 ι2 l2 s2 p2 => ?_⟩
  refine ⟨Z2, ι2, env, st2, s2, (re.mono l1).mono l2, (Post.bind p2).imp fun hi st3 H3 Z3 ι3 l3 s3 p3 => ?_⟩
  obtain ⟨x, z, e1, e2, g⟩ := lk1_ok s3 p3
  exact sl_ok s3.sub (((rv.mono l2).mono l3).view s3 e1) e2 g
/-! ### calls of built-in functions and types on data -/
inductive Views (K : PySem.W.Frag) (T : Tab) (Z H : Hp) : List V → List F → Prop
  | nil : Views K T Z H [] []
  | cons {v : V} {x : F} {vs : List V} {xs : List F} : View K T Z H v x → Views K T Z H vs xs → Views K T Z H (v :: vs) (x :: xs)
def looks (st : Store) : List W → Option (List F)
  | [] => some []
  | w :: ws => (look st w).bind fun x => (looks st ws).map fun xs => x :: xs
theorem RepWs.views {K : PySem.W.Frag} {Z H : Hp} {ι : List Addr} {st : Store} (s : SimS K T Z ι st H) : ∀ {vs : List V} {ws : List W} {xs : List F}, RepWs K T Z ι vs ws → looks st ws = some xs → Views K T Z H vs xs
  | _, _, _, .nil, h => by cases h; exact .nil
  | _, _, _, .cons r t, h => by
    obtain ⟨x, e1, h⟩ := opt_bind_some (show (look st _).bind _ = some _ from h)
    obtain ⟨xs, e2, rfl⟩ := opt_map_some h
    exact .cons (r.view s e1) (RepWs.views s t e2)
def OpN (X : Cx) (T : Tab) (r : List V → Hp → VK → Prop) (g : List F → Option F) : Prop := ∀ Z H vs fs z Q, Same Z H → Views X.K T Z H vs fs → g fs = some z → Give X.K T Z H z Q → r vs H Q
def lkN (g : List F → Option F) (ws : List W) (st : Store) : Res W := ofOpt ((looks st ws).bind g) st
def eCB (g : List F → Option F) (t : TAv) : TEv := fun env st => (t env st).bind fun ws st1 => lkN g ws st1
theorem lkN_ok {K : PySem.W.Frag} {Z H : Hp} {ι : List Addr} {g : List F → Option F} {ws : List W} {st : Store} {Q : VK} (s : SimS K T Z ι st H) (h : Post K T E Z ι (lkN g ws st) fun w _ H' Z' ι' => ∀ v, RepW K T Z' ι' v w → Q v H') :
    ∃ xs z, looks st ws = some xs ∧ g xs = some z ∧ Give K T Z H z Q := by
  unfold lkN at h
  cases q : looks st ws with
  | none => rw [q] at h; exact h.elim
  | some x =>
    rw [q] at h
    cases q1 : g x with
    | none => simp only [Option.bind_some, q1] at h; exact h.elim
    | some z =>
      simp only [Option.bind_some, q1] at h
      exact ⟨x, z, rfl, q1, fun v H' Z' gr r => h H' Z' ι gr.le (s.grow gr) v (.f r)⟩
theorem rd_cb {r : List V → Hp → VK → Prop} {g : List F → Option F} (ho : OpN X T r g) {σ : L2.St} {H : Hp} {Q : VK} (h : RdE X.K T E (eCB g tr) σ H Q) : tCB r (RdA X.K T E tr) σ H Q := by
  obtain ⟨Z, ι, env, st, s, re, p⟩ := h
  refine ⟨Z, ι, env, st, s, re, (Post.bind p).imp fun ws st1 H1 Z1 ι1 l1 s1 p1 vs rvs => ?_⟩
  obtain ⟨xs, z, e1, e2, g⟩ := lkN_ok s1 p1
  exact ho Z1 H1 vs xs z Q s1.sub (rvs.views s1 e1) e2 g
variable {r : List V → Hp → VK → Prop} {g : List F → Option F} {x : Str} {id Ty : String} {p : Pos}
theorem ve_callB (hr : CallR X (.builtin id) r) (ho : OpN X T r g) (hg : Gl X x) (hm : X.mg x = none) (hv : bootBuiltins x = some (.builtin id)) (ha : VA X T E (e :: es) tr) (hn : x ≠ "__name__" := by decide) (hdb : (x == ("__debug__" : Str)) = false := by decide)
    (he : starEach (e :: es) X.env = (false, eval e X.env) :: starEach es X.env := by rfl) (hpl : (backTo pos (starEach es X.env)).any (·.1) = false := by rfl) : VE X T E (.Call (.Name x p) (e :: es) [] pos) (eCB g tr) :=
  pe_weak (pe_callB hr hg hm hv ha hn hdb he hpl) fun _ _ _ h => rd_cb ho h
theorem ve_callTy (hr : CallR X (.type Ty) r) (ho : OpN X T r g) (hg : Gl X x) (hm : X.mg x = none) (hv : bootBuiltins x = some (.type Ty)) (ha : VA X T E (e :: es) tr) (hn : x ≠ "__name__" := by decide) (hdb : (x == ("__debug__" : Str)) = false := by decide)
    (he : starEach (e :: es) X.env = (false, eval e X.env) :: starEach es X.env := by rfl) (hpl : (backTo pos (starEach es X.env)).any (·.1) = false := by rfl) : VE X T E (.Call (.Name x p) (e :: es) [] pos) (eCB g tr) :=
  pe_weak (pe_callTy hr hg hm hv ha hn hdb he hpl) fun _ _ _ h => rd_cb ho h
end
end VS

set_option Elab.async false
set_option linter.all false
set_option maxRecDepth 100000
set_option maxHeartbeats 4000000
set_option autoImplicit false
/-! VI: the built-in functions by name, isinstance, methods of texts and lists on data. -/
namespace VS
open PySem PySem.Spec PyProof.Rows L2
section
variable {X : Cx} {T : Tab}
/-! ### one and two arguments -/
theorem Views.one {K : PySem.W.Frag} {Z H : Hp} {vs : List V} {x : F} (h : Views K T Z H vs [x]) : ∃ v, vs = [v] ∧ View K T Z H v x := by
  cases h with | cons h t => cases t; exact ⟨_, rfl, h⟩
theorem Views.two {K : PySem.W.Frag} {Z H : Hp} {vs : List V} {x y : F} (h : Views K T Z H vs [x, y]) : ∃ v u, vs = [v, u] ∧ View K T Z H v x ∧ View K T Z H u y := by
  cases h with | cons h t => obtain ⟨u, rfl, hu⟩ := t.one; exact ⟨_, u, rfl, h, hu⟩
/-- a function of one argument -/
def g1 (g : F → Option F) : List F → Option F
  | [x] => g x
  | _ => none
def g2 (g : F → F → Option F) : List F → Option F
  | [x, y] => g x y
  | _ => none
theorem on1 {r : List V → Hp → VK → Prop} {g : F → Option F} (h : ∀ Z H x fx z Q, Same Z H → View X.K T Z H x fx → g fx = some z → Give X.K T Z H z Q → r [x] H Q) : OpN X T r (g1 g) := by
  intro Z H vs fs z Q s v e gi
  match fs, v, e with
  | [x], v, e => obtain ⟨u, rfl, hu⟩ := v.one; exact h Z H u x z Q s hu e gi
  | [], _, e => cases e
  | _ :: _ :: _, _, e => cases e
theorem on2 {r : List V → Hp → VK → Prop} {g : F → F → Option F} (h : ∀ Z H x y fx fy z Q, Same Z H → View X.K T Z H x fx → View X.K T Z H y fy → g fx fy = some z → Give X.K T Z H z Q → r [x, y] H Q) : OpN X T r (g2 g) := by
  intro Z H vs fs z Q s v e gi
  match fs, v, e with
  | [x, y], v, e => obtain ⟨u, w, rfl, hu, hw⟩ := v.two; exact h Z H u w x y z Q s hu hw e gi
  | [], _, e => cases e
  | [_], _, e => cases e
  | _ :: _ :: _ :: _, _, e => cases e
/-! ### len -/
def lenF : F → Option F
  | .str s => if small s.length = true then some (.int s.length) else none
  | .lst xs => some (.int xs.length)
  | .tup xs => some (.int xs.length)
  | .dct xs => some (.int xs.length)
  | _ => none
def rLenF (K : PySem.W.Frag) : List V → Hp → VK → Prop := fun xs H Q => (∃ x n, xs = [x] ∧ LenV K x H n ∧ Q (.int n) H) ∨ (∃ a kvs, xs = [V.ref a] ∧ H a = some (.dK kvs) ∧ Q (.int kvs.length) H)
theorem cr_len : CallR X (.builtin "len") (rLenF X.K) := CallR.or call_len call_lenD
theorem RepFk.length {K : PySem.W.Frag} {Z : Hp} : ∀ {vs : List (Key × V)} {xs : List (F × F)}, RepFk K T Z vs xs → vs.length = xs.length
  | _, _, .nil => rfl
  | _, _, .cons _ _ t => by rw [List.length_cons, List.length_cons, RepFk.length t]
theorem on_len : OpN X T (rLenF X.K) (g1 lenF) := on1 fun Z H x fx z Q s vx h g => by
  cases fx with
  | str a =>
    obtain ⟨hs, h⟩ := ifSome h
    cases h; cases vx.str
    exact .inl ⟨_, a.length, rfl, ⟨by rw [S_len]; exact small_line hs, (S_len a).symm⟩, g.here s (.int _)⟩
  | lst xs =>
    cases h
    obtain ⟨a, vs, rfl, e1, r1⟩ := vx.lst' s
    exact .inl ⟨_, xs.length, rfl, .inl ⟨vs, SqL.of e1, r1.length.symm⟩, g.here s (.int _)⟩
  | tup xs =>
    cases h
    obtain ⟨a, vs, rfl, e1, r1⟩ := vx.tup'
    exact .inl ⟨_, xs.length, rfl, .inr ⟨vs, same_sqt s e1, r1.length.symm⟩, g.here s (.int _)⟩
  | dct xs =>
    cases h
    obtain ⟨a, vs, rfl, e1, r1⟩ := vx.dct' s
    exact .inr ⟨a, vs, rfl, e1, by rw [r1.length]; exact g.here s (.int _)⟩
  | _ => cases h
/-! ### max, min -/
def max2F : F → F → Option F
  | .int i, .int j => some (.int (if j > i then j else i))
  | _, _ => none
theorem on_max2 : OpN X T (fun xs H Q => ∃ i j, xs = [.int i, .int j] ∧ Q (.int (if j > i then j else i)) H) (g2 max2F) := on2 fun Z H x y fx fy z Q s vx vy h g => by
  cases fx with
  | int i => cases fy with
    | int j => cases h; cases vx.int; cases vy.int; exact ⟨i, j, rfl, g.here s (.int _)⟩
    | _ => cases h
  | _ => cases h
/-- the ints of a list -/
def intsOf : List F → Option (List Int)
  | [] => some []
  | .int i :: r => (intsOf r).map (i :: ·)
  | _ :: _ => none
theorem intsOf_eq : ∀ {xs : List F} {ns : List Int}, intsOf xs = some ns → xs = ns.map F.int
  | [], _, h => by cases h; rfl
  | .int i :: r, _, h => by
    obtain ⟨m, e, rfl⟩ := opt_map_some (show (intsOf r).map _ = some _ from h)
    rw [intsOf_eq e]
    rfl
  | .non :: _, _, h => by cases h
  | .bl _ :: _, _, h => by cases h
  | .str _ :: _, _, h => by cases h
  | .tup _ :: _, _, h => by cases h
  | .lst _ :: _, _, h => by cases h
  | .dct _ :: _, _, h => by cases h
  | .obj _ _ :: _, _, h => by cases h
  | .scr _ :: _, _, h => by cases h
theorem intsOf_map (ns : List Int) : intsOf (ns.map F.int) = some ns := by
  induction ns with
  | nil => rfl
  | cons n r ih => show (intsOf (r.map F.int)).map (n :: ·) = _; rw [ih]; rfl
def blsOf : List F → Option (List Bool)
  | [] => some []
  | .bl i :: r => (blsOf r).map (i :: ·)
  | _ :: _ => none
theorem blsOf_eq : ∀ {xs : List F} {ns : List Bool}, blsOf xs = some ns → xs = ns.map F.bl
  | [], _, h => by cases h; rfl
  | .bl i :: r, _, h => by
    obtain ⟨m, e, rfl⟩ := opt_map_some (show (blsOf r).map _ = some _ from h)
    rw [blsOf_eq e]
    rfl
  | .non :: _, _, h => by cases h
  | .int _ :: _, _, h => by cases h
  | .str _ :: _, _, h => by cases h
  | .tup _ :: _, _, h => by cases h
  | .lst _ :: _, _, h => by cases h
  | .dct _ :: _, _, h => by cases h
  | .obj _ _ :: _, _, h => by cases h
  | .scr _ :: _, _, h => by cases h
def minL : Int → List Int → Int
  | m, [] => m
  | m, x :: r => minL (if x < m then x else m) r
theorem minL_spec : ∀ (r : List Int) (m : Int), (minL m r ∈ m :: r) ∧ ∀ y ∈ m :: r, minL m r ≤ y
  | [], m => ⟨List.mem_cons_self, fun y hy => by simp at hy; subst hy; exact Int.le_refl _⟩
  | x :: r, m => by
    have e : minL m (x :: r) = minL (if x < m then x else m) r := rfl
    rw [e]
    obtain ⟨k, hk, h0⟩ : ∃ k, (if x < m then x else m) = k ∧ (k = x ∨ k = m) ∧ k ≤ x ∧ k ≤ m := ⟨_, rfl, by split <;> omega⟩
    rw [hk]
    obtain ⟨h1, h2⟩ := minL_spec r k
    have h3 := h2 _ List.mem_cons_self
    refine ⟨?_, fun y hy => ?_⟩
    · rcases List.mem_cons.mp h1 with h | h
      · rw [h]; rcases h0.1 with h | h <;> simp [h]
      · exact List.mem_cons_of_mem _ (List.mem_cons_of_mem _ h)
    · rcases List.mem_cons.mp hy with h | h
      · subst h; omega
      · rcases List.mem_cons.mp h with h | h
        · subst h; omega
        · exact h2 y (List.mem_cons_of_mem _ h)
def minF : F → Option F
  | .lst xs => (intsOf xs).bind fun ns => match ns with
    | [] => none
    | m :: r => some (.int (minL m r))
  | _ => none
theorem View.ints {K : PySem.W.Frag} {Z H : Hp} {v : V} {xs : List F} {ns : List Int} (s : Same Z H) (h : View K T Z H v (.lst xs)) (e : intsOf xs = some ns) : ∃ a, v = .ref a ∧ SqL K H a (ns.map V.int) := by
  obtain ⟨a, vs, rfl, e1, r1⟩ := h.lst' s
  have := intsOf_eq e
  subst this
  rw [r1.ints] at e1
  exact ⟨a, rfl, SqL.of e1⟩
theorem on_min : OpN X T (rMin X.K) (g1 minF) := on1 fun Z H x fx z Q s vx h g => by
  cases fx with
  | lst xs =>
    obtain ⟨ns, e, h⟩ := opt_bind_some h
    obtain ⟨a, rfl, hq⟩ := vx.ints s e
    cases ns with
    | nil => cases h
    | cons m r =>
      cases h
      refine ⟨a, m :: r, rfl, hq, by simp, fun k hk hm => ?_⟩
      obtain ⟨h1, h2⟩ := minL_spec r m
      have : k = minL m r := Int.le_antisymm (hm _ h1) (h2 k hk)
      rw [this]
      exact g.here s (.int _)
  | _ => cases h
/-! ### sum, any, all -/
theorem View.bls {K : PySem.W.Frag} {Z H : Hp} {v : V} {xs : List F} {ns : List Bool} (s : Same Z H) (h : View K T Z H v (.lst xs)) (e : blsOf xs = some ns) : ∃ a, v = .ref a ∧ SqL K H a (ns.map V.bl) := by
  obtain ⟨a, vs, rfl, e1, r1⟩ := h.lst' s
  have := blsOf_eq e
  subst this
  rw [r1.bls] at e1
  exact ⟨a, rfl, SqL.of e1⟩
def allB : F → Option F
  | .lst xs => (blsOf xs).map fun ns => .bl (ns.all id)
  | _ => none
theorem on_all : OpN X T (rAll X.K) (g1 allB) := on1 fun Z H x fx z Q s vx h g => by
  cases fx with
  | lst xs =>
    obtain ⟨ns, e, rfl⟩ := opt_map_some h
    obtain ⟨a, rfl, hq⟩ := vx.bls s e
    exact ⟨a, ns, rfl, hq, g.here s (.bl _)⟩
  | _ => cases h
/-! ### sorted of ints -/
/-! ### list(..), tuple(..), int(..), str(..), abs, bool -/
def listF : F → Option F
  | .lst xs => some (.lst xs)
  | .tup xs => some (.lst xs)
  | .scr ns => some (.lst (ns.map F.int))
  | _ => none
def tupleF : F → Option F
  | .lst xs => some (.tup xs)
  | .tup xs => some (.tup xs)
  | _ => none
def rTupleF (K : PySem.W.Frag) : List V → Hp → VK → Prop := fun xs H Q => ∃ p ys, xs = [.ref p] ∧ ((SqL K H p ys ∧ ∀ l, H l = none → Q (.ref l) (upd H l (.tup ys))) ∨ (SqT K H p ys ∧ Q (.ref p) H))
theorem on_tuple : OpN X T (rTupleF X.K) (g1 tupleF) := on1 fun Z H x fx z Q s vx h g => by
  cases fx with
  | lst xs =>
    cases h
    obtain ⟨a, vs, rfl, e1, r1⟩ := vx.lst' s
    exact ⟨a, vs, rfl, .inl ⟨SqL.of e1, fun p hp => g.new s hp (.tup (SqT.of upd_same) (r1.mono (Grow.laid (o := .tup vs) s hp).z))⟩⟩
  | tup xs =>
    cases h
    obtain ⟨a, vs, rfl, e1, r1⟩ := vx.tup'
    exact ⟨a, vs, rfl, .inr ⟨same_sqt s e1, g.here s (.tup e1 r1)⟩⟩
  | _ => cases h
def intF : F → Option F
  | .int i => some (.int i)
  | .bl k => some (.int (if k then 1 else 0))
  | _ => none
theorem on_int : OpN X T (fun xs H Q => (∃ i, xs = [.int i] ∧ Q (.int i) H) ∨ ∃ k, xs = [.bl k] ∧ Q (.int (if k then 1 else 0)) H) (g1 intF) := on1 fun Z H x fx z Q s vx h g => by
  cases fx with
  | int i => cases h; cases vx.int; exact .inl ⟨i, rfl, g.here s (.int _)⟩
  | bl i => cases h; cases vx.bl; exact .inr ⟨i, rfl, g.here s (.int _)⟩
  | _ => cases h
end
end VS

set_option Elab.async false
set_option linter.all false
set_option maxRecDepth 100000
set_option maxHeartbeats 4000000
set_option autoImplicit false
/-! VJ: what is walked; list comprehensions. -/
namespace VS
open PySem PySem.Spec PyProof.Rows L2
section
variable {X : Cx} {T : Tab} {E : XK} {a b c e tg : Expr} {es : List Expr} {ta tb tc te : TEv} {tr : TAv} {pos pos' p p2 : Pos}
/-! ### what is walked -/
theorem map_get {xs : List F} {i : Nat} {w : W} (h : (xs.map W.f)[i]? = some w) : ∃ x, xs[i]? = some x ∧ w = .f x := by
  rw [List.getElem?_map] at h
  obtain ⟨x, e, rfl⟩ := opt_map_some h
  exact ⟨x, e, rfl⟩
theorem map_none {xs : List F} {i : Nat} (h : (xs.map W.f)[i]? = none) : xs.length ≤ i := by
  have := List.getElem?_eq_none_iff.mp h
  simpa using this
theorem walks_list {K : PySem.W.Frag} {Z : Hp} {ι : List Addr} {a : Addr} {vs : List V} {xs : List F} (e : Z a = some (.lst vs)) (r : RepFs K T Z vs xs) : Walks K T Z ι (Itl K a) (xs.map W.f) := by
  intro i Z' ι' H' st' l s
  have e' := s.sub _ _ (l.z _ _ e)
  refine ⟨fun w h => ?_, fun h => ⟨vs, SqL.of e', by rw [r.length]; exact map_none h⟩⟩
  obtain ⟨x, hx, rfl⟩ := map_get h
  obtain ⟨v, hv, rv⟩ := r.get hx
  refine ⟨⟨vs, v, SqL.of e', hv⟩, fun y H2 hy => ?_⟩
  obtain ⟨rfl, hy⟩ := hy
  have := hy vs (SqL.of e')
  rw [hv] at this
  cases this
  exact ⟨Z', Grow.refl s.sub, .f (rv.mono l.z)⟩
theorem walks_tup {K : PySem.W.Frag} {Z : Hp} {ι : List Addr} {a : Addr} {vs : List V} {xs : List F} (e : SqT K Z a vs) (r : RepFs K T Z vs xs) : Walks K T Z ι (Itt K a) (xs.map W.f) := by
  intro i Z' ι' H' st' l s
  have e' := same_sqt s.sub (same_sqt l.z e)
  refine ⟨fun w h => ?_, fun h => ⟨vs, e', by rw [r.length]; exact map_none h⟩⟩
  obtain ⟨x, hx, rfl⟩ := map_get h
  obtain ⟨v, hv, rv⟩ := r.get hx
  refine ⟨⟨vs, v, e', hv⟩, fun y H2 hy => ?_⟩
  obtain ⟨rfl, hy⟩ := hy
  have := hy vs e'
  rw [hv] at this
  cases this
  exact ⟨Z', Grow.refl s.sub, .f (rv.mono l.z)⟩
/-- the signs of a text -/
def signs (s : List Nat) : List W := s.map fun c => W.f (.str [c])
theorem walks_str {K : PySem.W.Frag} {Z : Hp} {ι : List Addr} (s : List Nat) : Walks K T Z ι (Its (S s)) (signs s) := by
  intro i Z' ι' H' st' l sm
  have hz : (S s).cps.size = s.length := S_len s
  unfold signs
  refine ⟨fun w h => ?_, fun h => ?_⟩
  · rw [List.getElem?_map] at h
    obtain ⟨c, hc, rfl⟩ := opt_map_some h
    have hi := (List.getElem?_eq_some_iff.mp hc).1
    refine ⟨show i < (S s).cps.size by rw [hz]; exact hi, fun y H2 hy => ?_⟩
    obtain ⟨rfl, c', hc', rfl⟩ := hy
    have : s[i]? = some c' := by
      have := hc'
      rw [show (S s).cps = s.toArray from rfl] at this
      simpa using this
    rw [hc] at this
    cases this
    exact ⟨Z', Grow.refl sm.sub, .f (.str [c])⟩
  · have := List.getElem?_eq_none_iff.mp h
    show (S s).cps.size ≤ i
    rw [hz]
    simpa using this
/-- lo, lo + c, .. (n of them) -/
def rangeW (lo c : Int) (n : Nat) : List W := (List.range n).map fun i => W.f (.int (lo + (i : Nat) * c))
theorem walks_rangeC {K : PySem.W.Frag} {Z : Hp} {ι : List Addr} (lo c : Int) (n : Nat) : Walks K T Z ι (Itc lo c n) (rangeW lo c n) := by
  intro i Z' ι' H' st' l sm
  unfold rangeW
  refine ⟨fun w h => ?_, fun h => ?_⟩
  · rw [List.getElem?_map] at h
    obtain ⟨k, hk, rfl⟩ := opt_map_some h
    obtain ⟨hi, hk⟩ := List.getElem?_eq_some_iff.mp hk
    rw [List.getElem_range] at hk
    subst hk
    rw [List.length_range] at hi
    refine ⟨hi, fun y H2 hy => ?_⟩
    obtain ⟨rfl, rfl⟩ := hy
    exact ⟨Z', Grow.refl sm.sub, .f (.int _)⟩
  · have := List.getElem?_eq_none_iff.mp h
    show n ≤ i
    simpa using this
theorem walks_range {K : PySem.W.Frag} {Z : Hp} {ι : List Addr} (lo : Int) (n : Nat) : Walks K T Z ι (Itr lo n) (rangeW lo 1 n) := by
  have h := walks_rangeC (K := K) (T := T) (Z := Z) (ι := ι) lo 1 n
  intro i Z' ι' H' st' l sm
  obtain ⟨h1, h2⟩ := h i Z' ι' H' st' l sm
  refine ⟨fun w hw => ?_, h2⟩
  obtain ⟨g, y⟩ := h1 w hw
  refine ⟨g, fun x H2 hx => y x H2 ?_⟩
  obtain ⟨e1, e2⟩ := hx
  exact ⟨e1, by rw [e2, Int.mul_one]⟩
def smallI (i : Int) : Bool := decide (-(2 ^ 62) ≤ i) && decide (i < 2 ^ 62)
def rng1 (ws : List W) (st : Store) : Res (List W) := match ws with
  | [.f (.int j)] => if smallI j = true then .ok (rangeW 0 1 j.toNat) st else .stuck
  | _ => .stuck
def iRange1 (t : TAv) : TIv := fun env st => (t env st).bind rng1
theorem smallI_ok {i : Int} (h : smallI i = true) : -(2 ^ 62) ≤ i ∧ i < 2 ^ 62 := by
  unfold smallI at h
  rw [Bool.and_eq_true] at h
  exact ⟨of_decide_eq_true h.1, of_decide_eq_true h.2⟩
theorem rep_int {K : PySem.W.Frag} {Z : Hp} {ι : List Addr} {v : V} {i : Int} (h : RepW K T Z ι v (.f (.int i))) : v = .int i := by
  cases h with | f r => cases r; rfl
theorem vi_range1 (hg : Gl X "range") (hm : X.mg "range" = none) (ha : VA X T E [a] tr) (hs : starEach [a] X.env = [(false, eval a X.env)] := by rfl) : VI X T E tg (.Call (.Name "range" p) [a] [] pos) (iRange1 tr) := pi_weak (pi_range1 hg hm ha hs) fun σ H R h => by
  obtain ⟨Z, ι, env, st, s, re, p⟩ := h
  refine ⟨Z, ι, env, st, s, re, (Post.bind p).imp fun ws st1 H1 Z1 ι1 l1 s1 p1 vs rvs => ?_⟩
  unfold rng1 at p1
  split at p1
  · rename_i j
    by_cases hj : smallI j = true
    · rw [if_pos hj] at p1
      obtain ⟨b1, b2⟩ := smallI_ok hj
      cases rvs with | cons r t =>
      cases t
      cases rep_int r
      exact ⟨j, rfl, b1, b2, p1 H1 Z1 ι1 Le.refl s1 _ (walks_range 0 j.toNat)⟩
    · rw [if_neg hj] at p1; exact p1.elim
  · exact p1.elim
def rng2 (ws : List W) (st : Store) : Res (List W) := match ws with
  | [.f (.int i), .f (.int j)] => if (smallI i && smallI j) = true then .ok (rangeW i 1 (j - i).toNat) st else .stuck
  | _ => .stuck
def iRange2 (t : TAv) : TIv := fun env st => (t env st).bind rng2
theorem vi_range2 (hg : Gl X "range") (hm : X.mg "range" = none) (ha : VA X T E [a, b] tr) (hs : starEach [a, b] X.env = [(false, eval a X.env), (false, eval b X.env)] := by rfl) (hs2 : starEach [b] X.env = [(false, eval b X.env)] := by rfl) : VI X T E tg (.Call (.Name "range" p) [a, b] [] pos) (iRange2 tr) := pi_weak (pi_range2 hg hm ha hs hs2) fun σ H R h => by
  obtain ⟨Z, ι, env, st, s, re, p⟩ := h
  refine ⟨Z, ι, env, st, s, re, (Post.bind p).imp fun ws st1 H1 Z1 ι1 l1 s1 p1 vs rvs => ?_⟩
  unfold rng2 at p1
  split at p1
  · rename_i i j
    by_cases hj : (smallI i && smallI j) = true
    · rw [if_pos hj] at p1
      rw [Bool.and_eq_true] at hj
      obtain ⟨b1, b2⟩ := smallI_ok hj.1
      obtain ⟨b3, b4⟩ := smallI_ok hj.2
      cases rvs with | cons r t =>
      cases t with | cons r2 t =>
      cases t
      cases rep_int r
      cases rep_int r2
      exact ⟨i, j, rfl, ⟨b1, b2, b3, b4⟩, p1 H1 Z1 ι1 Le.refl s1 _ (walks_range i (j - i).toNat)⟩
    · rw [if_neg hj] at p1; exact p1.elim
  · exact p1.elim
/-- range(i, j, -1) -/
def rng3 (ws : List W) (st : Store) : Res (List W) := match ws with
  | [.f (.int i), .f (.int j), .f (.int c)] => if (smallI i && smallI j && decide (c = -1)) = true then .ok (rangeW i (-1) (i - j).toNat) st else .stuck
  | _ => .stuck
def iRange3 (t : TAv) : TIv := fun env st => (t env st).bind rng3
theorem vi_range3 (hg : Gl X "range") (hm : X.mg "range" = none) (ha : VA X T E [a, b, c] tr) (hs : starEach [a, b, c] X.env = (false, eval a X.env) :: starEach [b, c] X.env := by rfl) (hpl : (backTo pos (starEach [b, c] X.env)).any (·.1) = false := by rfl) : VI X T E tg (.Call (.Name "range" p) [a, b, c] [] pos) (iRange3 tr) := pi_weak (pi_range3 hg hm ha hs hpl) fun σ H R h => by
  obtain ⟨Z, ι, env, st, s, re, p⟩ := h
  refine ⟨Z, ι, env, st, s, re, (Post.bind p).imp fun ws st1 H1 Z1 ι1 l1 s1 p1 vs rvs => ?_⟩
  unfold rng3 at p1
  split at p1
  · rename_i i j c
    by_cases hj : (smallI i && smallI j && decide (c = -1)) = true
    · rw [if_pos hj] at p1
      rw [Bool.and_eq_true, Bool.and_eq_true] at hj
      obtain ⟨b1, b2⟩ := smallI_ok hj.1.1
      obtain ⟨b3, b4⟩ := smallI_ok hj.1.2
      have hc : c = -1 := of_decide_eq_true hj.2
      subst hc
      cases rvs with | cons r t =>
      cases t with | cons r2 t =>
      cases t with | cons r3 t =>
      cases t
      cases rep_int r
      cases rep_int r2
      cases rep_int r3
      exact ⟨i, j, -1, (i - j).toNat, rfl, RgC.neg b1 b2 b3 b4, p1 H1 Z1 ι1 Le.refl s1 _ (walks_rangeC i (-1) (i - j).toNat)⟩
    · rw [if_neg hj] at p1; exact p1.elim
  · exact p1.elim

/-! ### targets that set some slots alone -/
def RdGw (K : PySem.W.Frag) (T : Tab) (ss : List Nat) (g : TGv) : TG := fun v σ H Q => ∃ Z ι env st w env', SimS K T Z ι st H ∧ EnvR K T Z ι σ env ∧ RepW K T Z ι v w ∧ g w env = some env' ∧ ∀ σ', EnvR K T Z ι σ' env' → (∀ vs, (∀ i ∈ ss, i ∈ vs) → wipe σ' vs = wipe σ vs) → Q σ' H
def RdGsw (K : PySem.W.Frag) (T : Tab) (ss : List Nat) (g : TGsv) : TGs := fun vs σ H Q => ∃ Z ι env st xs env', SimS K T Z ι st H ∧ EnvR K T Z ι σ env ∧ RepFs K T Z vs xs ∧ g xs env = some env' ∧ ∀ σ', EnvR K T Z ι σ' env' → (∀ vs, (∀ i ∈ ss, i ∈ vs) → wipe σ' vs = wipe σ vs) → Q σ' H
abbrev VGw (X : Cx) (T : Tab) (e : Expr) (ss : List Nat) (g : TGv) : Prop := PG X e (RdGw X.K T ss g)
abbrev VGsw (X : Cx) (T : Tab) (es : List Expr) (ss : List Nat) (g : TGsv) : Prop := PGs X es (RdGsw X.K T ss g)
theorem wipe_set {σ : L2.St} {i : Nat} {o : Option V} : ∀ {vs : List Nat}, i ∈ vs → wipe (σ.set i o) vs = wipe σ vs
  | [], h => by cases h
  | v :: vs, h => by
    show (wipe (σ.set i o) vs).set v none = (wipe σ vs).set v none
    by_cases hv : i ∈ vs
    · rw [wipe_set hv]
    · have hi : i = v := by
        rcases List.mem_cons.mp h with e | e
        · exact e
        · exact absurd e hv
      subst hi
      have gen : ∀ (ws : List Nat) (σ : L2.St), i ∉ ws → (wipe (σ.set i o) ws).set i none = (wipe σ ws).set i none := by
        intro ws
        induction ws with
        | nil => intro σ _; show (σ.set i o).set i none = σ.set i none; rw [List.set_set]
        | cons u us ih =>
          intro σ hn
          rw [List.mem_cons, not_or] at hn
          show ((wipe (σ.set i o) us).set u none).set i none = ((wipe σ us).set u none).set i none
          rw [List.set_comm _ _ (Ne.symm hn.1), ih σ hn.2, List.set_comm _ _ hn.1]
      exact gen vs σ hv
theorem vgw_name {i : Nat} {x : Str} (hN : X.N.Nodup) (hi : X.N[i]? = some x) (hx : Loc X.env.scope x) (hf : X.fn x = true ∨ X.env.scope.names.lookup x = some .local := by first | exact .inl rfl | exact .inr rfl | assumption) : VGw X T (.Name x pos) [i] (gNm i) := pg_weak (pg_name hN hi hx hf) fun v σ H Q h => by
  obtain ⟨Z, ι, env, st, w, env', s, re, rv, e, k⟩ := h
  cases e
  exact k _ (re.set rv i) fun vs hv => wipe_set (hv i (by simp))
theorem vgsw_nil : VGsw X T [] [] gsNil := pgs_weak pgs_nil fun vs σ H Q h => by
  obtain ⟨Z, ι, env, st, xs, env', s, re, rv, e, k⟩ := h
  cases rv with
  | nil => cases e; exact ⟨rfl, k _ re fun _ _ => rfl⟩
  | cons _ _ => cases e
theorem vgsw_cons {es : List Expr} {g : TGv} {gs : TGsv} {s1 s2 : List Nat} (h1 : VGw X T e s1 g) (h2 : VGsw X T es s2 gs)
    (hs : (assignEach (e :: es) X.env).map (·.2) = assign e X.env :: (assignEach es X.env).map (·.2) := by rfl) : VGsw X T (e :: es) (s1 ++ s2) (gsCons g gs) := pgs_weak (pgs_cons h1 h2 hs) fun vs σ H Q h => by
  obtain ⟨Z, ι, env, st, xs, env', s, re, rv, e, k⟩ := h
  cases rv with
  | nil => cases e
  | cons r rr =>
    rename_i v x vs xs
    obtain ⟨env1, q, e⟩ := opt_bind_some (show (g (.f x) env).bind (fun env1 => gs xs env1) = some env' from e)
    refine ⟨_, _, rfl, Z, ι, env, st, _, env1, s, re, .f r, q, fun σ' re' hw => ⟨Z, ι, env1, st, xs, env', s, re', rr, e, fun σ2 re2 hw2 => k σ2 re2 fun vs hv => ?_⟩⟩
    rw [hw2 vs fun i hi => hv i (List.mem_append_right _ hi), hw vs fun i hi => hv i (List.mem_append_left _ hi)]
theorem vgw_tup {es : List Expr} {k : Nat} {gs : TGsv} {n : Nat} {ss : List Nat} (hc : X.calm = true) (h : VGsw X T es ss gs) (hl : ∀ xs env env', gs xs env = some env' → xs.length = n)
    (hn : (assignEach es X.env).length = n := by rfl) (hst : (assignEach es X.env).findIdx? (·.1) = none := by rfl) : VGw X T (.Tuple es k pos) ss (gTp gs) := pg_weak (pg_tup hc h hn hst) fun v σ H Q h => by
  obtain ⟨Z, ι, env, st, w, env', s, re, rv, e, k⟩ := h
  cases rv with
  | loc _ => cases e
  | f r =>
    cases r with
    | tup ht rs => exact ⟨_, _, rfl, same_sqt s.sub ht, by rw [rs.length]; exact hl _ _ _ e, Z, ι, env, st, _, env', s, re, rs, e, k⟩
    | _ => cases e

/-! ### list comprehensions -/
def wipeE (env : Env) : List Nat → Env
  | [] => env
  | v :: vs => (wipeE env vs).set v none
def lcL (g : TGv) (tt : TTv) (te : TEv) (L : Nat) (env : Env) : List W → Store → Res W
  | [], st => .ok (.loc L) st
  | w :: ws, st => match g w env with
    | none => .stuck
    | some env1 => (tt env1 st).bind fun b st1 => if b = true then (te env1 st1).bind fun y st2 => (doCell cAppend L [y] st2).bind fun _ st3 => lcL g tt te L env ws st3 else lcL g tt te L env ws st1
def eLc (ti : TIv) (g : TGv) (tt : TTv) (te : TEv) (vs : List Nat) : TEv := fun env st => (ti env st).bind fun ws st1 => lcL g tt te st1.length (wipeE env vs) ws (st1 ++ [.lstF []])
theorem env_wipe {K : PySem.W.Frag} {Z : Hp} {ι : List Addr} {σ : L2.St} {env : Env} (r : EnvR K T Z ι σ env) : ∀ vs : List Nat, EnvR K T Z ι (wipe σ vs) (wipeE env vs)
  | [] => r
  | v :: vs => by
    have ih := env_wipe r vs
    refine ⟨by show ((wipe σ vs).set v none).length = ((wipeE env vs).set v none).length; simp [ih.len], fun j u h => ?_⟩
    by_cases hj : v = j
    · subst hj
      have h : ((wipeE env vs).set v none)[v]? = some (some u) := h
      by_cases hl : v < (wipeE env vs).length
      · rw [List.getElem?_set_self hl] at h; cases h
      · rw [List.getElem?_eq_none (by simp; omega)] at h; cases h
    · have h : ((wipeE env vs).set v none)[j]? = some (some u) := h
      rw [List.getElem?_set_ne hj] at h
      obtain ⟨v', e, p⟩ := ih.get j u h
      exact ⟨v', by show ((wipe σ vs).set v none)[j]? = _; rw [List.getElem?_set_ne hj]; exact e, p⟩
theorem mut_append' {K : PySem.W.Frag} {Z H : Hp} {ι : List Addr} {a : Addr} {c c' : Cell} {w y : W} {v : V} (s : Same Z H) (k : CellOk K T Z ι H a c) (r : RepW K T Z ι v y) (h : cAppend c [y] = some (w, c')) :
    Z a = none ∧ ∃ acc, H a = some (.lst acc) ∧ acc.length < sizeLine ∧ CellOk K T Z ι (upd H a (.lst (acc ++ [v]))) a c' := by
  cases c with
  | lstF xs =>
    obtain ⟨hz, us, e, ru⟩ := k
    cases r with
    | f r1 =>
      obtain ⟨hs, h⟩ := ifSome h
      cases h
      exact ⟨hz, us, e, by rw [ru.length]; exact small_app hs, hz, _, upd_same, ru.append (.cons r1 .nil)⟩
    | loc r1 =>
      obtain ⟨hs, h⟩ := ifSome h
      cases h
      exact ⟨hz, us, e, by rw [ru.length]; exact small_app hs, hz, _, upd_same, (RepWs.ofFs ru).append (.cons (.loc r1) .nil)⟩
  | lstW xs =>
    obtain ⟨hz, us, e, ru⟩ := k
    obtain ⟨hs, h⟩ := ifSome h
    cases h
    exact ⟨hz, us, e, by rw [ru.length]; exact small_app hs, hz, _, upd_same, ru.append (.cons r .nil)⟩
  | dead => cases h
  | dct _ => cases h
  | dti _ => cases h
  | ins _ _ => cases h
variable {ti : TIv} {g : TGv} {tt : TTv} {vs ss : List Nat}
theorem rd_lc {K : PySem.W.Frag} (hss : ∀ i ∈ ss, i ∈ vs) {σ : L2.St} {H : Hp} {Q : VK} (h : RdE K T E (eLc ti g tt te vs) σ H Q) : tLc (RdI K T E ti) (RdGw K T ss g) (RdT K T E tt) (RdE K T E te) vs σ H Q := by
  obtain ⟨Z, ι, env, st, s, re, p⟩ := h
  refine ⟨Z, ι, env, st, s, re, (Post.bind p).imp fun ws st1 H1 Z1 ι1 l1 s1 p1 J wk D hD => ?_⟩
  have hz := free_sub s1.sub hD
  have s2 := s1.alloc (c := Cell.lstF []) (o := .lst []) hD ⟨hz, [], upd_same, .nil⟩
  have hL : (ι1 ++ [D])[st1.length]? = some D := by rw [← s1.len]; exact last_get _ _
  refine ⟨fun i m H => ∃ Z ι st, Le Z1 (ι1 ++ [D]) Z ι ∧ SimS K T Z ι st H ∧ m = ws.length - i ∧ Post K T E Z ι (lcL g tt te st1.length (wipeE env vs) (ws.drop i) st) fun w _ H' Z' ι' => ∀ v, RepW K T Z' ι' v w → Q v H',
    ⟨ws.length, Z1, ι1 ++ [D], _, Le.refl, s2, by simp, p1.le Le.alloc⟩, fun i m H h => ?_⟩
  obtain ⟨Z2, ι2, st2, l2, s2, hm, p2⟩ := h
  have l12 : Le Z1 ι1 Z2 ι2 := Le.alloc.trans l2
  have wki := wk i Z2 ι2 H st2 l12 s2
  by_cases hlt : i < ws.length
  · have e : ws[i]? = some ws[i] := by simp [hlt]
    have ed : ws.drop i = ws[i] :: ws.drop (i + 1) := (List.drop_eq_getElem_cons hlt)
    rw [ed] at p2
    obtain ⟨go, yl⟩ := wki.1 _ e
    refine .inr ⟨go, fun H' => ∃ Z ι st, Le Z1 (ι1 ++ [D]) Z ι ∧ SimS K T Z ι st H' ∧ Post K T E Z ι (lcL g tt te st1.length (wipeE env vs) (ws.drop (i + 1)) st) fun w _ H' Z' ι' => ∀ v, RepW K T Z' ι' v w → Q v H',
      fun H' ⟨Z, ι, st, l, s, p⟩ => ⟨ws.length - (i + 1), by omega, Z, ι, st, l, s, rfl, p⟩, fun x H' y => ?_⟩
    obtain ⟨Z3, gr, rx⟩ := yl x H' y
    have p2 : Post K T E Z2 ι2 (match g ws[i] (wipeE env vs) with
      | none => Res.stuck
      | some env1 => (tt env1 st2).bind fun b st1' => if b = true then (te env1 st1').bind fun y st2 => (doCell cAppend st1.length [y] st2).bind fun _ st3 => lcL g tt te st1.length (wipeE env vs) (ws.drop (i + 1)) st3 else lcL g tt te st1.length (wipeE env vs) (ws.drop (i + 1)) st1') _ := p2
    cases q : g ws[i] (wipeE env vs) with
    | none => rw [q] at p2; exact p2.elim
    | some env3 =>
      rw [q] at p2
      have re0 := env_wipe (re.mono l1) vs
      refine ⟨Z3, ι2, wipeE env vs, st2, _, env3, s2.grow gr, (re0.mono l12).mono gr.le, rx, q, fun σ4 re4 hw => ⟨?_, ?_⟩⟩
      · rw [hw vs hss]
        have wid : ∀ (us : List Nat) (σ : L2.St), (∀ i ∈ vs, i ∈ us) → wipe (wipe σ vs) us = wipe σ us := by
          intro us σ hu
          have : ∀ ws : List Nat, (∀ i ∈ ws, i ∈ us) → wipe (wipe σ ws) us = wipe σ us := by
            intro ws
            induction ws with
            | nil => intro _; rfl
            | cons v ws ih =>
              intro h
              show wipe ((wipe σ ws).set v none) us = _
              rw [wipe_set (h v (by simp)), ih fun i hi => h i (by simp [hi])]
          exact this vs hu
        exact wid vs σ fun _ h => h
      · have p3 := p2.le (gr.le (ι := ι2))
        refine ⟨Z3, ι2, env3, st2, s2.grow gr, re4, (Post.bind p3).imp fun b st5 H5 Z5 ι5 l5 s5 p5 => ?_⟩
        have l15 : Le Z1 (ι1 ++ [D]) Z5 ι5 := (l2.trans gr.le).trans l5
        cases b with
        | false => exact ⟨Z5, ι5, st5, l15, s5, p5⟩
        | true =>
          refine ⟨Z5, ι5, env3, st5, s5, re4.mono l5, (Post.bind p5).imp fun y st6 H6 Z6 ι6 l6 s6 p6 v rv => ?_⟩
          have l16 := l15.trans l6
          have hD6 := l16.i _ _ hL
          unfold doCell at p6
          cases qc : st6[st1.length]? with
          | none => simp only [qc] at p6; exact p6.elim
          | some cl =>
            simp only [qc] at p6
            cases qa : cAppend cl [y] with
            | none => simp only [qa] at p6; exact p6.elim
            | some wc =>
              obtain ⟨w', c'⟩ := wc
              simp only [qa] at p6
              obtain ⟨hzz, acc, e1, e2, ok⟩ := mut_append' s6.sub (s6.cell _ _ _ hD6 qc) rv qa
              exact ⟨acc, e1, e2, Z6, ι6, _, l16, s6.write hD6 hzz ok, p6⟩
  · have ed : ws.drop i = [] := by simp; omega
    rw [ed] at p2
    exact .inl ⟨wki.2 (by simp; omega), p2 H Z2 ι2 Le.refl s2 _ (.loc (l2.i _ _ hL))⟩
variable {elt iter : Expr} {ifs : List Expr} {scope : Scope} {own : List (Str × Nat)} {spos py : Pos}
abbrev VTs (X : Cx) (T : Tab) (E : XK) (ifs : List Expr) (t : TTv) : Prop := PTs X ifs (RdT X.K T E t)
def tYesV : TTv := fun _ st => .ok true st
theorem pts_weak {t t' : TT} (h : PTs X ifs t) (w : ∀ σ H Q, t' σ H Q → t σ H Q) : PTs X ifs t' := ⟨fun pins s σ H Q I q => h.run pins s σ H Q I (w σ H Q q)⟩
theorem vts_nil : VTs X T E [] tYesV := pts_weak pts_nil fun σ H Q h => by
  obtain ⟨Z, ι, env, st, s, re, p⟩ := h
  exact p H Z ι Le.refl s
theorem vts_one {t : TTv} (h : VT X T E c t) : VTs X T E [c] t := pts_one h
theorem ve_lc (hc : X.calm = true) (hN : X.N.Nodup) (hi : VI X T E tg iter ti) (ok : BlkOk X.N X.env.scope scope own) (hss : ∀ i ∈ ss, i ∈ own.map (·.2))
    (hg : ∀ (s : Shared) (H : Hp) (C : Addr) (cl : List (Str × Addr)) (fp : List Addr), VGw (X.blk s H scope (compEnvC scope cl C X.env) fp) T tg ss g)
    (ht : ∀ (s : Shared) (H : Hp) (C : Addr) (cl : List (Str × Addr)) (fp : List Addr), VTs (X.blk s H scope (compEnvC scope cl C X.env) fp) T E ifs tt)
    (he : ∀ (s : Shared) (H : Hp) (C : Addr) (cl : List (Str × Addr)) (fp : List Addr), VE (X.blk s H scope (compEnvC scope cl C X.env) fp) T E elt te) (hs : ∀ x, foldedSetIterable iter X.env x = pure x := by intro _; rfl) :
    VE X T E (.ListComp elt [⟨tg, iter, ifs, 0⟩] scope pos) (eLc ti g tt te (own.map (·.2))) :=
  pe_weak (pe_lc hc hN hi ok hg ht he hs) fun _ _ _ h => rd_lc hss h
/-- y = [..], where the store comes first in the machine -/
theorem vs_setLc {i : Nat} {y : Str} (hc : X.calm = true) (hN : X.N.Nodup) (hy : X.N[i]? = some y) (hyl : X.env.scope.names.lookup y = some .local)
    (hsw : swapsWith (.ListComp elt [⟨tg, iter, ifs, 0⟩] scope pos) (some (.Name y py)) spos.line X.env = pure true) (hi : VI X T E tg iter ti) (ok : BlkOk X.N X.env.scope scope own) (hss : ∀ i ∈ ss, i ∈ own.map (·.2))
    (hg : ∀ (s : Shared) (H : Hp) (C : Addr) (cl : List (Str × Addr)) (fp : List Addr), VGw (X.blk s H scope (compEnvC scope cl C X.env) fp) T tg ss g)
    (ht : ∀ (s : Shared) (H : Hp) (C : Addr) (cl : List (Str × Addr)) (fp : List Addr), VTs (X.blk s H scope (compEnvC scope cl C X.env) fp) T E ifs tt)
    (he : ∀ (s : Shared) (H : Hp) (C : Addr) (cl : List (Str × Addr)) (fp : List Addr), VE (X.blk s H scope (compEnvC scope cl C X.env) fp) T E elt te) (hs : ∀ x, foldedSetIterable iter X.env x = pure x := by intro _; rfl) :
    VS X T E (.Assign [.Name y py] (.ListComp elt [⟨tg, iter, ifs, 0⟩] scope pos) spos) (sSet i (eLc ti g tt te (own.map (·.2)))) :=
  ps_weak (ps_setLc hc hN hy hyl hsw hi ok hg ht he hs) fun D σ H h => by
    obtain ⟨Z, ι, env, st, s, re, p⟩ := h
    exact rd_lc hss ⟨Z, ι, env, st, s, re, (PostS.thenS p).imp fun w st1 H1 Z1 ι1 l1 s1 p1 v rv => p1 _ H1 Z1 ι1 Le.refl s1 ((re.mono l1).set rv i)⟩
theorem vs_setLcF {i : Nat} {y : Str} (hc : X.calm = true) (hN : X.N.Nodup) (hy : X.N[i]? = some y) (hyl : X.env.scope.names.lookup y = some .local)
    (hsw : swapsWith (.ListComp elt [⟨tg, iter, ifs, 0⟩] scope pos) (some (.Name y py)) spos.line X.env = pure true) (hi : VI X T E tg iter ti) (ok : BlkOk X.N X.env.scope scope own) (hss : ∀ i ∈ ss, i ∈ own.map (·.2))
    (hg : ∀ (s : Shared) (H : Hp) (C : Addr) (cl : List (Str × Addr)) (fp : List Addr), VGw (X.blk s H scope (compEnvC scope cl C X.env) fp) T tg ss g)
    (ht : ∀ (s : Shared) (H : Hp) (C : Addr) (cl : List (Str × Addr)) (fp : List Addr), VTs (X.blk s H scope (compEnvC scope cl C X.env) fp) T E ifs tt)
    (he : ∀ (s : Shared) (H : Hp) (C : Addr) (cl : List (Str × Addr)) (fp : List Addr), VE (X.blk s H scope (compEnvC scope cl C X.env) fp) T E elt te) (hs : ∀ x, foldedSetIterable iter X.env x = pure x := by intro _; rfl) :
    VS X T E (.Assign [.Name y py] (.ListComp elt [⟨tg, iter, ifs, 0⟩] scope pos) spos) (sSet i (eFrz (eLc ti g tt te (own.map (·.2))))) :=
  ps_weak (ps_setLc hc hN hy hyl hsw hi ok hg ht he hs) fun D σ H h => by
    obtain ⟨Z, ι, env, st, s, re, p⟩ := h
    exact rd_lc hss (rd_frz ⟨Z, ι, env, st, s, re, (PostS.thenS p).imp fun w st1 H1 Z1 ι1 l1 s1 p1 v rv => p1 _ H1 Z1 ι1 Le.refl s1 ((re.mono l1).set rv i)⟩)
end
end VS

set_option Elab.async false
set_option linter.all false
set_option maxRecDepth 100000
set_option maxHeartbeats 4000000
set_option autoImplicit false
/-! VK: stores to items, pop(i), insert, remove; methods of texts. -/
namespace VS
open PySem PySem.Spec PyProof.Rows L2
section
variable {X : Cx} {T : Tab} {E : XK} {a b c e o i value : Expr} {es : List Expr} {ta tb tc te to ti tv : TEv} {tr : TAv} {pos pos' apos cpos p p2 : Pos}
theorem RepFs.erase {K : PySem.W.Frag} {Z : Hp} : ∀ {vs : List V} {xs : List F} (n : Nat), RepFs K T Z vs xs → RepFs K T Z (vs.eraseIdx n) (xs.eraseIdx n)
  | _, _, _, .nil => .nil
  | _, _, 0, .cons _ t => t
  | _, _, n + 1, .cons r t => .cons r (RepFs.erase n t)
theorem RepWs.erase {K : PySem.W.Frag} {Z : Hp} {ι : List Addr} : ∀ {vs : List V} {xs : List W} (n : Nat), RepWs K T Z ι vs xs → RepWs K T Z ι (vs.eraseIdx n) (xs.eraseIdx n)
  | _, _, _, .nil => .nil
  | _, _, 0, .cons _ t => t
  | _, _, n + 1, .cons r t => .cons r (RepWs.erase n t)
/-- xs.pop(i) -/
def cPopAt : CellOp := fun c ws => match c, ws with
  | .lstF xs, [.f (.int i)] => if smallI i = true then (seqIndex? i xs.length).bind fun k => (xs[k]?).map fun x => (.f x, .lstF (xs.eraseIdx k)) else none
  | .lstW xs, [.f (.int i)] => if smallI i = true then (seqIndex? i xs.length).bind fun k => (xs[k]?).map fun x => (x, .lstW (xs.eraseIdx k)) else none
  | _, _ => none
theorem ifElse {α : Type} {p : Prop} [Decidable p] {a : Option α} {b : α} (h : (if p then a else none) = some b) : p ∧ a = some b := by
  by_cases hp : p
  · rw [if_pos hp] at h; exact ⟨hp, h⟩
  · rw [if_neg hp] at h; cases h
theorem mut_popAt : MutOk X T rPopAt cPopAt := by
  intro Z H ι a c c' ws w vs Q s k r h q
  cases c with
  | lstF xs =>
    obtain ⟨hz, us, e, ru⟩ := k
    cases r with
    | nil => cases h
    | cons r1 r2 =>
      cases r1 with
      | loc _ => cases h
      | f r1 =>
        cases r1 with
        | int i =>
          cases r2 with
          | cons _ _ => cases h
          | nil =>
            obtain ⟨hi, h⟩ := ifElse h
            obtain ⟨b1, b2⟩ := smallI_ok hi
            obtain ⟨k, ek, h⟩ := opt_bind_some h
            obtain ⟨x, ex, h⟩ := opt_map_some h
            cases h
            obtain ⟨v, ev, rv⟩ := ru.get ex
            exact ⟨a, us, i, k, v, rfl, rfl, e, by omega, by omega, by rw [ru.length]; exact ek, ev, q _ _ (.f rv) ⟨hz, _, upd_same, ru.erase k⟩ hz ⟨fun _ => nofun, fun _ => nofun⟩⟩
        | _ => cases h
  | lstW xs =>
    obtain ⟨hz, us, e, ru⟩ := k
    cases r with
    | nil => cases h
    | cons r1 r2 =>
      cases r1 with
      | loc _ => cases h
      | f r1 =>
        cases r1 with
        | int i =>
          cases r2 with
          | cons _ _ => cases h
          | nil =>
            obtain ⟨hi, h⟩ := ifElse h
            obtain ⟨b1, b2⟩ := smallI_ok hi
            obtain ⟨k, ek, h⟩ := opt_bind_some h
            obtain ⟨x, ex, h⟩ := opt_map_some h
            cases h
            obtain ⟨v, ev, rv⟩ := ru.get ex
            exact ⟨a, us, i, k, v, rfl, rfl, e, by omega, by omega, by rw [ru.length]; exact ek, ev, q _ _ rv ⟨hz, _, upd_same, ru.erase k⟩ hz ⟨fun _ => nofun, fun _ => nofun⟩⟩
        | _ => cases h
  | dead => cases h
  | dct _ => cases h
  | dti _ => cases h
  | ins _ _ => cases h
theorem ve_popAt (ho : VE X T E o to) (he : VE X T E e te) (hbase : attributeBase o "pop" X.env (eval o X.env) = eval o X.env := by rfl)
    (hline : (apos.endLine == cpos.line) = true := by rfl) (hs : starEach [e] X.env = [(false, eval e X.env)] := by rfl) :
    VE X T E (.Call (.Attribute o "pop" apos) [e] [] cpos) (eMut false cPopAt to (aCons te aNil)) :=
  ve_mutL PySem.F.slot_list_pop PySem.F.type_list_pop mt_popAt mut_popAt ho (va_cons he va_nil hs) hbase (by rw [hs]; rfl) hline hs rfl
/-! ### o[i] = v -/
def setC (i : Int) (w : W) : Cell → Option Cell
  | .lstF xs => (ixN xs.length i).map fun j => match w with
    | .f x => .lstF (xs.set j x)
    | .loc n => .lstW ((xs.map W.f).set j (.loc n))
  | .lstW xs => (ixN xs.length i).map fun j => .lstW (xs.set j w)
  | _ => none
def setI (w : W) (st : Store) : W → W → Option Store
  | .loc n, .f (.int i) => (st[n]?).bind fun c => (setC i w c).map fun c' => st.set n c'
  | _, _ => none
def sSub (to ti tv : TEv) : TSv := fun env st => (tv env st).thenS fun w st1 => (to env st1).thenS fun o st2 => (ti env st2).thenS fun i st3 => match setI w st3 o i with
  | some st4 => .nx env st4
  | none => .stuck
theorem setI_ok {K : PySem.W.Frag} {Z H : Hp} {ι : List Addr} {st st' : Store} {w o i : W} {x y v : V} (s : SimS K T Z ι st H) (ro : RepW K T Z ι x o) (ri : RepW K T Z ι y i) (rw' : RepW K T Z ι v w) (h : setI w st o i = some st') :
    ∃ p xs k j, x = .ref p ∧ y = .int k ∧ H p = some (.lst xs) ∧ ixN xs.length k = some j ∧ SimS K T Z ι st' (upd H p (.lst (xs.set j v))) := by
  cases ro with
  | f _ => cases i <;> cases h
  | loc e =>
    rename_i a n
    cases ri with
    | loc _ => cases h
    | f ri =>
      cases ri with
      | int k =>
        obtain ⟨c, ec, h⟩ := opt_bind_some (show (st[n]?).bind (fun c => (setC k w c).map fun c' => st.set n c') = some st' from h)
        obtain ⟨c', ec', rfl⟩ := opt_map_some h
        have kk := s.cell n a c e ec
        cases c with
        | lstF xs =>
          obtain ⟨hz, us, e1, ru⟩ := kk
          obtain ⟨j, ej, rfl⟩ := opt_map_some ec'
          refine ⟨a, us, k, j, rfl, rfl, e1, by rw [ru.length]; exact ej, s.write e hz ?_⟩
          cases rw' with
          | f r => exact ⟨hz, _, upd_same, ru.set r j⟩
          | loc r => exact ⟨hz, _, upd_same, RepWs.set (.loc r) j (RepWs.ofFs ru)⟩
        | lstW xs =>
          obtain ⟨hz, us, e1, ru⟩ := kk
          obtain ⟨j, ej, rfl⟩ := opt_map_some ec'
          exact ⟨a, us, k, j, rfl, rfl, e1, by rw [ru.length]; exact ej, s.write e hz ⟨hz, _, upd_same, ru.set rw' j⟩⟩
        | dead => cases ec'
        | dct _ => cases ec'
        | dti _ => cases ec'
        | ins _ _ => cases ec'
      | _ => cases h
theorem vs_sub (ho : VE X T E o to) (hi : VE X T E i ti) (hv : VE X T E value tv)
    (ha : ∀ v, assign (.Subscript o i pos') X.env v = (do
      let ov ← holding [v] (eval o X.env)
      let iv ← holding [v, ov] (eval i X.env)
      standAt pos'
      holding [v, ov, iv] (setItem ov iv v)
      release [v, ov, iv] []) := by intro _; rfl)
    (hs : swapsWithSole [.Subscript o i pos'] value pos.line X.env = pure false := by rfl) (hw : swappedStores [.Subscript o i pos'] value X.env = pure none := by rfl)
    (h1 : (assignEach [.Subscript o i pos'] X.env).map (·.2) = [assign (.Subscript o i pos') X.env] := by rfl) : VS X T E (.Assign [.Subscript o i pos'] value pos) (sSub to ti tv) :=
  ps_weak (ps_asg hv (pg_sub ho hi set_list ha) hs hw h1) fun D σ H h => by
    obtain ⟨Z, ι, env, st, s, re, p⟩ := h
    refine ⟨Z, ι, env, st, s, re, (PostS.thenS p).imp fun w st1 H1 Z1 ι1 l1 s1 p1 v rv => ?_⟩
    refine ⟨Z1, ι1, env, st1, s1, re.mono l1, (PostS.thenS p1).imp fun o st2 H2 Z2 ι2 l2 s2 p2 x rx => ?_⟩
    refine ⟨Z2, ι2, env, st2, s2, (re.mono l1).mono l2, (PostS.thenS p2).imp fun i st3 H3 Z3 ι3 l3 s3 p3 y ry => ?_⟩
    cases q : setI w st3 o i with
    | none => simp only [q] at p3; exact p3.elim
    | some st4 =>
      simp only [q] at p3
      obtain ⟨pa, xs, k, j, e1, e2, e3, e4, s4⟩ := setI_ok s3 (rx.mono l3) ry ((rv.mono l2).mono l3) q
      exact ⟨pa, xs, k, j, e1, e2, e3, e4, p3 σ _ Z3 ι3 Le.refl s4 (((re.mono l1).mono l2).mono l3)⟩
/-! ### methods on data -/
/-- of which built-in type -/
def tyF : F → String
  | .str _ => "str"
  | .int _ => "int"
  | .lst _ => "list"
  | .dct _ => "dict"
  | _ => ""
theorem View.ty {K : PySem.W.Frag} {Z H : Hp} {v : V} {x : F} {Ty : String} (s : Same Z H) (h : View K T Z H v x) (e : tyF x = Ty) (hne : Ty ≠ "") : tyV K Ty v H := by
  subst e
  cases x with
  | str z => cases h.str; rfl
  | int z => cases h.int; rfl
  | lst xs => obtain ⟨a, vs, rfl, e1, r1⟩ := h.lst' s; exact .inl ⟨rfl, vs, SqL.of e1⟩
  | dct xs => obtain ⟨a, vs, rfl, e1, r1⟩ := h.dct' s; exact .inr (.inr (.inl ⟨rfl, .inl ⟨vs, e1⟩⟩))
  | _ => exact absurd rfl hne
variable {name : Str} {id : String}
/-- sep.join(texts) -/
def joinL (sep : List Nat) : List (List Nat) → List Nat
  | [] => []
  | [x] => x
  | x :: y :: r => x ++ sep ++ joinL sep (y :: r)
end
end VS

set_option Elab.async false
set_option linter.all false
set_option maxRecDepth 100000
set_option maxHeartbeats 4000000
set_option autoImplicit false
/-! VL: a walk over a list, a tuple or a text; objects made as data; a cell becomes data where it stands; several targets. -/
namespace VS
open PySem PySem.Spec PyProof.Rows L2
section
variable {X : Cx} {T : Tab} {E : XK} {a b c e o i value tg : Expr} {es : List Expr} {ta tb tc te to ti tv : TEv} {tr : TAv} {pos pos' apos cpos p p2 : Pos}
/-! ### any sequence -/
def iAnyR (K : PySem.W.Frag) (tl : TE) : TI := fun σ H R => tl σ H fun x H1 => (∃ a, x = .ref a ∧ (∃ xs, SqL K H1 a xs) ∧ R (Itl K a) H1) ∨ (∃ a, x = .ref a ∧ (∃ xs, SqT K H1 a xs) ∧ R (Itt K a) H1) ∨ ∃ z, x = .str z ∧ R (Its z) H1
theorem pi_any {l : Expr} {tl : TE} (hl : PE X l tl) : PI X tg l (iAnyR X.K tl) := by
  refine ⟨fun pins s σ H R I h => ?_⟩
  refine thn (hl.run pins s σ H _ I h) fun v s1 ⟨x, H1, I1, r1, q1⟩ => ?_
  rcases q1 with ⟨a, e, ⟨xs, hq⟩, q⟩ | ⟨a, e, ⟨xs, hq⟩, q⟩ | ⟨z, e, q⟩
  · subst e
    cases r1
    obtain ⟨its, rv, p, hz⟩ := I1.list hq
    refine wpAny_pyIter_list p.isList ?_
    refine ⟨s1.heap.objs.size, [s1.heap.objs.size], _, _, H1, rfl, I1.kept (t' := s1.toks) fun b o e => Heap.get?_push_of_some _ e, turn_list a _, ⟨_, Heap.get?_push_size _ rfl, rfl, rfl⟩, fun b hb => ?_, q⟩
    have e : b = s1.heap.objs.size := by simpa using hb
    subst e
    exact I1.fpOk (Nat.le_refl _) (I1.hok.fresh (Nat.le_refl _))
  · subst e
    cases r1
    obtain ⟨its, rv, p, hz⟩ := I1.tuple hq
    refine wpAny_pyIter_tuple (show s1.heap.IsTuple a its.toArray from p) ?_
    refine ⟨s1.heap.objs.size, [s1.heap.objs.size], _, _, H1, rfl, I1.kept (t' := s1.toks) fun b o e => Heap.get?_push_of_some _ e, turn_tuple a _, ⟨_, Heap.get?_push_size _ rfl, rfl, rfl⟩, fun b hb => ?_, q⟩
    have e : b = s1.heap.objs.size := by simpa using hb
    subst e
    exact I1.fpOk (Nat.le_refl _) (I1.hok.fresh (Nat.le_refl _))
  · subst e
    obtain ⟨t, rfl⟩ := r1
    cases ha : z.cps.all (· < 128)
    · exact wpAny_pyIter_wide ha (pi_one (tk := s1.toks) I1 _ (turn_str _ z t "str_iterator" (.inr rfl)) ⟨_, Heap.get?_push_size _ rfl, rfl, rfl⟩ q)
    · exact wpAny_pyIter_ascii ha (pi_one (tk := s1.toks) I1 _ (turn_str _ z t "str_ascii_iterator" (.inl rfl)) ⟨_, Heap.get?_push_size _ rfl, rfl, rfl⟩ q)
/-- the items of data -/
def itemsF : F → Option (List W)
  | .lst xs => some (xs.map W.f)
  | .tup xs => some (xs.map W.f)
  | .str s => some (signs s)
  | _ => none
def itemsW : W → Option (List W)
  | .f x => itemsF x
  | .loc _ => none
def ofL (o : Option (List W)) (st : Store) : Res (List W) := match o with
  | some w => .ok w st
  | none => .stuck
def iAny (t : TEv) : TIv := fun env st => (t env st).bind fun w st1 => ofL (itemsW w) st1
theorem vi_any (h : VE X T E e te) : VI X T E tg e (iAny te) := pi_weak (pi_any h) fun σ H R h => by
  obtain ⟨Z, ι, env, st, s, re, p⟩ := h
  refine ⟨Z, ι, env, st, s, re, (Post.bind p).imp fun w st1 H1 Z1 ι1 l1 s1 p1 v rv => ?_⟩
  cases rv with
  | loc _ => exact p1.elim
  | f rv => cases rv with
    | lst e r => exact .inl ⟨_, rfl, ⟨_, SqL.of (s1.sub _ _ e)⟩, p1 H1 Z1 ι1 Le.refl s1 _ (walks_list e r)⟩
    | tup e r => exact .inr (.inl ⟨_, rfl, ⟨_, same_sqt s1.sub e⟩, p1 H1 Z1 ι1 Le.refl s1 _ (walks_tup e r)⟩)
    | str z => exact .inr (.inr ⟨_, rfl, p1 H1 Z1 ι1 Le.refl s1 _ (walks_str z)⟩)
    | _ => exact p1.elim
/-! ### a cell becomes data where it stands -/
def frzC (w : W) (st : Store) : Res W := match w with
  | .f x => .ok (.f x) st
  | .loc n => (match st[n]? with
    | some (.lstF xs) => .ok (.f (.lst xs)) (st.set n .dead)
    | some (.dct xs) => .ok (.f (.dct xs)) (st.set n .dead)
    | _ => .stuck)
def eFrzC (t : TEv) : TEv := fun env st => (t env st).bind frzC
theorem ve_frzC (h : VE X T E e te) : VE X T E e (eFrzC te) := pe_weak h fun σ H Q h => by
  obtain ⟨Z, ι, env, st, s, re, p⟩ := h
  refine ⟨Z, ι, env, st, s, re, (Post.bind p).imp fun w st1 H1 Z1 ι1 l1 s1 p1 v rv => ?_⟩
  cases rv with
  | f rv => exact p1 H1 Z1 ι1 Le.refl s1 v (.f rv)
  | loc e =>
    rename_i a n
    have p1 : Post X.K T E Z1 ι1 (match st1[n]? with
      | some (.lstF xs) => Res.ok (W.f (.lst xs)) (st1.set n .dead)
      | some (.dct xs) => Res.ok (W.f (.dct xs)) (st1.set n .dead)
      | _ => Res.stuck) _ := p1
    cases q : st1[n]? with
    | none => simp only [q] at p1; exact p1.elim
    | some cl =>
      have k := s1.cell n a cl e q
      cases cl with
      | lstF xs =>
        simp only [q] at p1
        obtain ⟨hz, vs, e1, r1⟩ := k
        have hs : Same Z1 (upd Z1 a (.lst vs)) := same_new hz
        exact p1 H1 _ ι1 ⟨hs, fun _ _ h => h⟩ (s1.freeze e hz e1) _ (.f (.lst upd_same (r1.mono hs)))
      | dct xs =>
        simp only [q] at p1
        obtain ⟨hz, vs, e1, r1⟩ := k
        have hs : Same Z1 (upd Z1 a (.dK vs)) := same_new hz
        exact p1 H1 _ ι1 ⟨hs, fun _ _ h => h⟩ (s1.freeze e hz e1) _ (.f (.dct upd_same (r1.mono hs)))
      | dti xs => simp only [q] at p1; exact p1.elim
      | lstW xs => simp only [q] at p1; exact p1.elim
      | dead => simp only [q] at p1; exact p1.elim
      | ins c fs => simp only [q] at p1; exact p1.elim
/-! ### objects made as data -/
variable {CX : CXT} {k : Nat} {f : Addr} {m : FnM} {x : Str}
def mkF (c : Nat) (m : FnM) : FnM := fun ws st => (m (.loc st.length :: ws) (st ++ [.ins c []])).bind fun w st2 => match w with
  | .f .non => frz st.length (.loc st.length) st2
  | _ => .stuck
theorem rd_mkF {K : PySem.W.Frag} {c : Nat} (hc : (T.cls[c]?).isSome = true) {dvs : List V} {dfs : List F} (r : ∀ Z, RepFs K T Z dvs dfs) {Z H : Hp} {ι : List Addr} {st : Store} {ws : List W} {vs : List V} {Q : VK} (s : SimS K T Z ι st H) (rvs : RepWs K T Z ι vs ws)
    (p : Post K T E Z ι (mkF c (fun ws st => m (ws ++ dfs.map W.f) st) ws st) fun w _ H' Z' ι' => ∀ v, RepW K T Z' ι' v w → Q v H') {x dx : Addr} (nx : H x = none) (nd : H dx = none) (ne : dx ≠ x) :
    spM K T m (.ref x :: (vs ++ dvs)) (upd (upd H dx (.own x)) x (.ins (T.ca K c) dx [])) (fun v H2 => v = .non ∧ Q (.ref x) H2) E := by
  have g1 : Grow Z H Z (upd H dx (.own x)) := ⟨Same.refl Z, same_new nd, s.sub.trans (same_new nd), fun _ _ _ => rfl, fun _ _ e => e⟩
  have s1 := s.grow g1
  have nx1 : (upd H dx (.own x)) x = none := by rw [upd_ne (Ne.symm ne)]; exact nx
  have hz : Z x = none := free_sub s.sub nx
  have s2 := s1.alloc (c := Cell.ins c []) (o := .ins (T.ca K c) dx []) nx1 ⟨hz, dx, [], upd_same, hc, .nil⟩
  have l2 : Le Z ι Z (ι ++ [x]) := Le.alloc
  have hl : (ι ++ [x])[st.length]? = some x := by rw [List.getElem?_append_right (by rw [s.len]; omega), s.len]; simp
  refine ⟨Z, ι ++ [x], W.loc st.length :: (ws ++ dfs.map W.f), st ++ [Cell.ins c []], s2, .cons (.loc hl) ((rvs.mono l2).append (RepWs.map_f (r Z))), ?_⟩
  unfold mkF at p
  have p : Post K T E Z ι ((m (W.loc st.length :: (ws ++ dfs.map W.f)) (st ++ [Cell.ins c []])).bind fun w st2 => match w with
    | .f .non => frz st.length (.loc st.length) st2
    | _ => .stuck) fun w _ H' Z' ι' => ∀ v, RepW K T Z' ι' v w → Q v H' := p
  cases q : m (W.loc st.length :: (ws ++ dfs.map W.f)) (st ++ [Cell.ins c []]) with
  | stuck => rw [q] at p; exact p.elim
  | exc c' fs st3 => rw [q] at p; exact PX.le l2 p
  | ok w st3 =>
    rw [q] at p
    intro H3 Z3 ι3 l3 s3 v rv
    cases rv with
    | loc e => exact p.elim
    | f rv =>
      cases rv with
      | non => exact ⟨rfl, frz_ok (Z0 := Z) (ι0 := ι) s.len (l2.trans l3) s3 (.loc (l3.i _ _ hl)) p⟩
      | _ => exact p.elim
theorem ve_mkF {c : Nat} (hc : (T.cls[c]?).isSome = true) (M : Mk X.K (T.ca X.K c) f) (F : Fn X.prog X.w X.K X.mg X.base T CX k f m) (hr : Room (k + 1) X.A) (hg : Gl X x) (hm : X.mg x = some (.ref (T.ca X.K c))) (hx : Passes CX X E)
    (ha : VA X T E (e :: es) tr) (hdb : (x == ("__debug__" : Str)) = false := by decide) (he : starEach (e :: es) X.env = (false, eval e X.env) :: starEach es X.env := by rfl) (hpl : (backTo pos (starEach es X.env)).any (·.1) = false := by rfl) :
    VE X T E (.Call (.Name x p) (e :: es) [] pos) (eCall (mkF c m) tr) := by
  obtain ⟨fd, ps, ds, dvs, dfs, m0, F0, b, v, r, rfl⟩ := F.ex
  refine pe_weak (pe_make M F0 hr hg hm b v hx ha hdb he hpl) fun σ H Q h => ?_
  obtain ⟨Z, ι, env, st, s, re, p⟩ := h
  refine ⟨Z, ι, env, st, s, re, (Post.bind p).imp fun ws st1 H1 Z1 ι1 l1 s1 p1 vs rvs x dx nx nd ne => ?_⟩
  exact rd_mkF (m := m0) hc r s1 rvs p1 nx nd ne
theorem ve_mkF0 {c : Nat} (hc : (T.cls[c]?).isSome = true) (M : Mk X.K (T.ca X.K c) f) (F : Fn X.prog X.w X.K X.mg X.base T CX k f m) (hr : Room (k + 1) X.A) (hg : Gl X x) (hm : X.mg x = some (.ref (T.ca X.K c))) (hx : Passes CX X E)
    (hdb : (x == ("__debug__" : Str)) = false := by decide) : VE X T E (.Call (.Name x p) [] [] pos) (eCall (mkF c m) aNil) := by
  obtain ⟨fd, ps, ds, dvs, dfs, m0, F0, b, v, r, rfl⟩ := F.ex
  refine pe_weak (pe_make0 M F0 hr hg hm b v hx hdb) fun σ H Q h => ?_
  obtain ⟨Z, ι, env, st, s, re, p⟩ := h
  intro x dx nx nd ne
  exact rd_mkF (m := m0) (ws := []) hc r s .nil p nx nd ne
/-! ### a, b, c = x, y, z -/
/-! ### (t1, .., tn) = (x1, .., xn): the tuple is made and taken apart; its items may be cells -/
abbrev TM := W → Env → Store → Option (Env × Store)
def RdM (K : PySem.W.Frag) (T : Tab) (g : TM) : TG := fun v σ H Q => ∃ Z ι env st w env' st', SimS K T Z ι st H ∧ EnvR K T Z ι σ env ∧ RepW K T Z ι v w ∧ g w env st = some (env', st') ∧ ∀ σ' H', SimS K T Z ι st' H' → EnvR K T Z ι σ' env' → Q σ' H'
abbrev VM (X : Cx) (T : Tab) (e : Expr) (g : TM) : Prop := PG X e (RdM X.K T g)
def mNm (i : Nat) : TM := fun w env st => some (env.set i (some w), st)
theorem vm_name {i : Nat} {x : Str} (hN : X.N.Nodup) (hi : X.N[i]? = some x) (hx : Loc X.env.scope x) (hf : X.fn x = true ∨ X.env.scope.names.lookup x = some .local := by first | exact .inl rfl | exact .inr rfl | assumption) : VM X T (.Name x pos) (mNm i) := pg_weak (pg_name hN hi hx hf) fun v σ H Q h => by
  obtain ⟨Z, ι, env, st, w, env', st', s, re, rv, e, k⟩ := h
  cases e
  exact k _ _ s (re.set rv i)
def msRun : List TM → List W → Env → Store → Option (Env × Store)
  | [], [], env, st => some (env, st)
  | g :: gs, w :: ws, env, st => (g w env st).bind fun r => msRun gs ws r.1 r.2
  | _, _, _, _ => none
def RdMs (K : PySem.W.Frag) (T : Tab) (gs : List TM) : TGs := fun vs σ H Q => ∃ Z ι env st ws env' st', SimS K T Z ι st H ∧ EnvR K T Z ι σ env ∧ RepWs K T Z ι vs ws ∧ msRun gs ws env st = some (env', st') ∧ ∀ σ' H', SimS K T Z ι st' H' → EnvR K T Z ι σ' env' → Q σ' H'
abbrev VMs (X : Cx) (T : Tab) (es : List Expr) (gs : List TM) : Prop := PGs X es (RdMs X.K T gs)
theorem vms_nil : VMs X T [] [] := pgs_weak pgs_nil fun vs σ H Q h => by
  obtain ⟨Z, ι, env, st, ws, env', st', s, re, rv, e, k⟩ := h
  cases rv with
  | nil => cases e; exact ⟨rfl, k _ _ s re⟩
  | cons _ _ => cases e
theorem vms_cons {es : List Expr} {g : TM} {gs : List TM} (h1 : VM X T e g) (h2 : VMs X T es gs)
    (hs : (assignEach (e :: es) X.env).map (·.2) = assign e X.env :: (assignEach es X.env).map (·.2) := by rfl) : VMs X T (e :: es) (g :: gs) := pgs_weak (pgs_cons h1 h2 hs) fun vs σ H Q h => by
  obtain ⟨Z, ι, env, st, ws, env', st', s, re, rv, e, k⟩ := h
  cases rv with
  | nil => cases e
  | cons r rr =>
    rename_i v w vs ws
    obtain ⟨⟨env1, st1⟩, q, e⟩ := opt_bind_some (show (g w env st).bind (fun r => msRun gs ws r.1 r.2) = some (env', st') from e)
    exact ⟨_, _, rfl, Z, ι, env, st, _, env1, st1, s, re, r, q, fun σ' H' s' re' => ⟨Z, ι, env1, st1, ws, env', st', s', re', rr, e, k⟩⟩
theorem ms_len : ∀ {gs : List TM} {ws : List W} {env : Env} {st : Store} {r : Env × Store}, msRun gs ws env st = some r → ws.length = gs.length
  | [], [], _, _, _, _ => rfl
  | [], _ :: _, _, _, _, h => by cases h
  | _ :: _, [], _, _, _, h => by cases h
  | g :: gs, w :: ws, env, st, r, h => by
    obtain ⟨r1, _, h⟩ := opt_bind_some (show (g w env st).bind (fun r => msRun gs ws r.1 r.2) = some r from h)
    rw [List.length_cons, List.length_cons, ms_len h]
def sUnp (gs : List TM) (t : TAv) : TSv := fun env st => (t env st).thenS fun ws st1 => if small ws.length = true then (match msRun gs ws env st1 with
  | some r => .nx r.1 r.2
  | none => .stuck) else .stuck
theorem vs_unp {ts : List Expr} {gs : List TM} {kt k2 : Nat} {pt pt2 : Pos} (hc : X.calm = true) (ha : VA X T E es tr) (hg : VMs X T ts gs)
    (hn : (assignEach ts X.env).length = gs.length := by rfl) (hst : (assignEach ts X.env).findIdx? (·.1) = none := by rfl)
    (hs : swapsWithSole [.Tuple ts kt pt] (.Tuple es k2 pt2) pos.line X.env = pure false := by rfl) (hw : swappedStores [.Tuple ts kt pt] (.Tuple es k2 pt2) X.env = pure none := by rfl)
    (h1 : (assignEach [.Tuple ts kt pt] X.env).map (·.2) = [assign (.Tuple ts kt pt) X.env] := by rfl) : VS X T E (.Assign [.Tuple ts kt pt] (.Tuple es k2 pt2) pos) (sUnp gs tr) :=
  ps_weak (ps_asg (pe_tup ha) (pg_tup hc hg hn hst) hs hw h1) fun D σ H h => by
    obtain ⟨Z, ι, env, st, s, re, p⟩ := h
    refine ⟨Z, ι, env, st, s, re, (PostS.thenS p).imp fun ws st1 H1 Z1 ι1 l1 s1 p1 vs rvs => ?_⟩
    by_cases hsm : small ws.length = true
    · rw [if_pos hsm] at p1
      refine ⟨small_line (by rw [rvs.length]; exact hsm), fun a ha => ?_⟩
      cases q : msRun gs ws env st1 with
      | none => simp only [q] at p1; exact p1.elim
      | some r =>
        simp only [q] at p1
        have g : Grow Z1 H1 Z1 (upd H1 a (.tup vs)) := ⟨Same.refl Z1, same_new ha, s1.sub.trans (same_new ha), fun _ _ _ => rfl, fun _ _ e => e⟩
        exact ⟨a, vs, rfl, SqT.of upd_same, by rw [rvs.length]; exact ms_len q, Z1, ι1, env, st1, ws, r.1, r.2, s1.grow g, re.mono l1, rvs, q, fun σ' H' s' re' => p1 σ' H' Z1 ι1 Le.refl s' re'⟩
    · rw [if_neg hsm] at p1; exact p1.elim
end
end VS

set_option Elab.async false
set_option linter.all false
set_option maxRecDepth 100000
set_option maxHeartbeats 4000000
set_option autoImplicit false
/-! VM: x op= e; list(..) as a cell; small helpers for the printed terms. -/
namespace VS
open PySem PySem.Spec PyProof.Rows L2
theorem hu64 {A : Around} {k : Nat} (hr : Room k A) : A.units + 64 < cLine := hr.units
theorem passV {X : Cx} {E : XK} : Passes CX0 X E := fun _ _ _ _ _ _ _ h => h.elim
section
variable {X : Cx} {T : Tab} {E : XK} {a b c e o i value tg : Expr} {es : List Expr} {ta tb tc te to ti tv : TEv} {tr : TAv} {pos pos' apos cpos p p2 : Pos}
/-- list(x) as a cell -/
def lstM (ws : List W) (st : Store) : Res W := match looks st ws with
  | some [x] => (match listF x with
    | some (.lst xs) => .ok (.loc st.length) (st ++ [.lstF xs])
    | _ => .stuck)
  | _ => .stuck
def eListM (t : TAv) : TEv := fun env st => (t env st).bind lstM
theorem ve_listM (hg : Gl X "list") (hm : X.mg "list" = none) (ha : VA X T E [e] tr)
    (he : starEach [e] X.env = (false, eval e X.env) :: starEach [] X.env := by rfl) (hpl : (backTo pos (starEach [] X.env)).any (·.1) = false := by rfl) : VE X T E (.Call (.Name "list" p) [e] [] pos) (eListM tr) :=
  pe_weak (pe_callTy call_list_of hg hm PyProof.Rows.boot_list ha (by decide) (by decide) he hpl) fun σ H Q h => by
    obtain ⟨Z, ι, env, st, s, re, p⟩ := h
    refine ⟨Z, ι, env, st, s, re, (Post.bind p).imp fun ws st1 H1 Z1 ι1 l1 s1 p1 vs rvs => ?_⟩
    unfold lstM at p1
    cases q : looks st1 ws with
    | none => simp only [q] at p1; exact p1.elim
    | some xs =>
      have vv := rvs.views s1 q
      match xs, vv, q with
      | [x], vv, q =>
        simp only [q] at p1
        obtain ⟨v, rfl, hv⟩ := vv.one
        cases q2 : listF x with
        | none => simp only [q2] at p1; exact p1.elim
        | some z =>
          have fin : ∀ (a : Addr) (us : List V) (ys : List F), z = .lst ys → RepFs X.K T Z1 us ys → v = .ref a → (SqL X.K H1 a us ∨ SqT X.K H1 a us) → ∃ p ys, [v] = [.ref p] ∧ (SqL X.K H1 p ys ∨ SqT X.K H1 p ys) ∧ ∀ l, H1 l = none → Q (.ref l) (upd H1 l (.lst ys)) := by
            intro a us ys ez r ev hq
            subst ev ez
            simp only [q2] at p1
            refine ⟨a, us, rfl, hq, fun l hl => ?_⟩
            have hz := free_sub s1.sub hl
            have s2 := s1.alloc (c := Cell.lstF ys) (o := .lst us) hl ⟨hz, us, upd_same, r⟩
            exact p1 _ _ _ Le.alloc s2 _ (.loc (by rw [← s1.len]; exact last_get _ _))
          cases x with
          | lst xs =>
            obtain ⟨a, us, ev, e1, r1⟩ := hv.lst' s1.sub
            cases q2
            exact fin a us xs rfl r1 ev (.inl (SqL.of e1))
          | tup xs =>
            obtain ⟨a, us, ev, e1, r1⟩ := hv.tup'
            cases q2
            exact fin a us xs rfl r1 ev (.inr (same_sqt s1.sub e1))
          | scr ns =>
            cases hv with | f r =>
            cases r with | scr e1 =>
            cases q2
            exact fin _ _ _ rfl (RepFs.ofInts ns) rfl (.inl (s1.sub.seq e1))
          | _ => cases q2
      | [], _, q => simp only [q] at p1; exact p1.elim
      | _ :: _ :: _, _, q => simp only [q] at p1; exact p1.elim
end
end VS

set_option Elab.async false
set_option linter.all false
set_option maxRecDepth 100000
set_option maxHeartbeats 4000000
set_option autoImplicit false
/-! VN: isinstance; what the table of classes must know of it. -/
namespace VS
open PySem PySem.Spec PyProof.Rows L2

/-- the type of a value -/
inductive Ty where
  | non | bl | int | str | tup | lst | dct | own (c : Nat)
/-- a class that is asked for -/
inductive Tg where
  | bl | int | str | tup | lst | dct | own (c : Nat)
def isT : Tg → Ty → Bool
  | .bl, .bl => true
  | .int, .int => true
  | .int, .bl => true
  | .str, .str => true
  | .tup, .tup => true
  | .lst, .lst => true
  | .dct, .dct => true
  | .own c, .own d => c == d
  | _, _ => false
def kyF : F → Ty
  | .non => .non
  | .bl _ => .bl
  | .int _ => .int
  | .str _ => .str
  | .tup _ => .tup
  | .lst _ => .lst
  | .dct _ => .dct
  | .dlk _ _ => .dct
  | .ktp _ => .tup
  | .obj c _ => .own c
  | .scr _ => .lst
def tyC : Option Cell → Option Ty
  | some (.lstF _) => some .lst
  | some (.lstW _) => some .lst
  | some (.dct _) => some .dct
  | some (.dti _) => some .dct
  | some (.ins c _) => some (.own c)
  | _ => none
def tyW (st : Store) : W → Option Ty
  | .f x => some (kyF x)
  | .loc n => tyC st[n]?
def tyVal (K : PySem.W.Frag) (T : Tab) : Ty → Value
  | .non => .type "NoneType"
  | .bl => .type "bool"
  | .int => .type "int"
  | .str => .type "str"
  | .tup => .type "tuple"
  | .lst => .type "list"
  | .dct => .type "dict"
  | .own c => .ref (T.ca K c)
def tgVal (K : PySem.W.Frag) (T : Tab) : Tg → Value
  | .bl => .type "bool"
  | .int => .type "int"
  | .str => .type "str"
  | .tup => .type "tuple"
  | .lst => .type "list"
  | .dct => .type "dict"
  | .own c => .ref (T.ca K c)
def insB (K : PySem.W.Frag) (C : Addr) : Bool :=
  decide (PySem.W.findIn K (.ref C) "__class__" = some (some (.builtin "object.__class__"))) && (decide (PySem.W.specialIn K (.builtin "object.__class__") "__get__" = some (some (.builtin "getset_descriptor.__get__"))) &&
    (decide (PySem.W.takesIn K (.builtin "object.__class__") = some true) && decide (PySem.W.mroIn K C (.type "object") = some true)))
structure IsiOk (K : PySem.W.Frag) (T : Tab) : Prop where
  ins : ∀ c, (T.cls[c]?).isSome = true → insB K (T.ca K c) = true
  one : ∀ t g, (∀ c, t = .own c → (T.cls[c]?).isSome = true) → (∀ c, g = .own c → (T.cls[c]?).isSome = true) → PySem.W.kitOne K (tyVal K T t) (tgVal K T g) = some (isT g t)
section
variable {X : Cx} {T : Tab} {E : XK} {Z H : Hp} {ι : List Addr} {st : Store}
theorem sqt_ty {K : PySem.W.Frag} {a : Addr} {vs : List V} (h : SqT K H a vs) : TyX K H (.ref a) (.type "tuple") := by
  rcases h with (h | ⟨o, h⟩) | ⟨o, its, n, e, c, _⟩
  · exact .base (.tup h)
  · exact .fTuple h
  · exact .kTuple e c
theorem sql_ty {K : PySem.W.Frag} {a : Addr} {vs : List V} (h : SqL K H a vs) : TyX K H (.ref a) (.type "list") := by
  rcases h with (h | ⟨o, h⟩) | ⟨o, its, n, e, c, _⟩
  · exact .base (.lst h)
  · exact .base (.frz h)
  · exact .kList e c
theorem ins_ty {K : PySem.W.Frag} {c : Nat} {a dx : Addr} {fs : List (Str × V)} (hT : TabOk K T) (hI : IsiOk K T) (hc : (T.cls[c]?).isSome = true) (e : H a = some (.ins (T.ca K c) dx fs)) : TyX K H (.ref a) (.ref (T.ca K c)) := by
  have h := hI.ins c hc
  unfold insB at h
  simp only [Bool.and_eq_true, decide_eq_true_eq] at h
  exact .base (.ins e (hT.cls c hc) h.1 h.2.1 h.2.2.1 h.2.2.2)
/-- .. or a locked dict with tuples as keys -/
inductive TyY (K : PySem.W.Frag) (H : Hp) : V → Value → Prop where
  | tx {x : V} {t : Value} (h : TyX K H x t) : TyY K H x t
  | fT {a : Addr} {o : Obj} {kvs : List (List Key × V)} (e : H a = some (.frz o (.dT kvs))) : TyY K H (.ref a) (.type "dict")
theorem kit_ofY {X : Cx} {pins : List (Addr × Obj)} {σ : L2.St} {H : Hp} {s : Shared} {x : V} {u t : Value} (I : Inv X pins σ H s) (rx : RelV x u) (ty : TyY X.K H x t) : ∃ P : Heap → Prop, PySem.W.KitX X.K u t P ∧ P s.heap ∧ u ≠ .builtin "__main__.__loader__#opaque" := by
  cases ty with
  | tx h => exact kit_of I rx h
  | @fT a ob kvs ea =>
    cases (show u = Value.ref a from rx)
    obtain ⟨_, _, _, xs, _, o, es, ep, h1, h2, _⟩ := (show ObjOk X.prog X.w H s.heap a (.frz ob (.dT kvs)) from I.hok a _ ea)
    exact ⟨_, PySem.W.kitx_dict, ⟨o, h1, h2.1⟩, fun z => nomatch z⟩
def rIsiY (K : PySem.W.Frag) : List V → Hp → VK → Prop := fun xs H Q => ∃ (x c : V) (t u : Value) (b : Bool), xs = [x, c] ∧ ClsV c u ∧ TyY K H x t ∧ PySem.W.kitOne K t u = some b ∧ Q (.bl b) H
def rIsiTY (K : PySem.W.Frag) : List V → Hp → VK → Prop := fun xs H Q => ∃ (x : V) (tp : Addr) (cs : List V) (t : Value) (us : List Value) (b : Bool), xs = [x, .ref tp] ∧ H tp = some (.tup cs) ∧ Paired ClsV cs us ∧ TyY K H x t ∧ PySem.W.kitAny K t us = some b ∧ Q (.bl b) H
theorem call_isiY {X : Cx} : CallR X (.builtin "isinstance") (rIsiY X.K) := by
  intro pins s σ H xs us Q I r h
  obtain ⟨x, c, t, u, b, rfl, k, ty, e, q⟩ := h
  obtain ⟨u1, u2, rfl, r1, r2⟩ := vals2 r
  have e2 := k.eq r2
  subst e2
  obtain ⟨P, Z, p, hx⟩ := kit_ofY I r1 ty
  exact PySem.W.kia_one Z I.kIn p e hx fun tk => ⟨.bl b, H, I.tok tk, rfl, q⟩
theorem call_isiTY {X : Cx} : CallR X (.builtin "isinstance") (rIsiTY X.K) := by
  intro pins s σ H xs us Q I r h
  obtain ⟨x, tp, cs, t, ws, b, rfl, hT, k, ty, e, q⟩ := h
  obtain ⟨u1, u2, rfl, r1, r2⟩ := vals2 r
  cases (show u2 = Value.ref tp from r2)
  obtain ⟨P, Z, p, hx⟩ := kit_ofY I r1 ty
  obtain ⟨_, its, rv, o, h1, h2, n, h3⟩ := (show ObjOk X.prog X.w H s.heap tp (.tup cs) from I.hok tp _ hT)
  have e3 := ClsV.all k rv
  subst e3
  obtain ⟨oc, od, dt, sl⟩ := o
  simp only at h2 h3
  subst h2 h3
  exact PySem.W.kia_tup Z I.kIn p h1 e hx fun tk => ⟨.bl b, H, I.tok tk, rfl, q⟩
theorem ty_ok {K : PySem.W.Frag} (hT : TabOk K T) (hI : IsiOk K T) (s : SimS K T Z ι st H) {v : V} {w : W} (r : RepW K T Z ι v w) {t : Ty} (h : tyW st w = some t) : TyY K H v (tyVal K T t) ∧ ∀ c, t = .own c → (T.cls[c]?).isSome = true := by
  cases r with
  | f r =>
    cases h
    cases r with
    | non => exact ⟨.tx (.base .non), fun _ q => nomatch q⟩
    | bl b => exact ⟨.tx (.base (.bl b)), fun _ q => nomatch q⟩
    | int b => exact ⟨.tx (.base (.int b)), fun _ q => nomatch q⟩
    | str b => exact ⟨.tx (.base (.str _)), fun _ q => nomatch q⟩
    | tup h r => exact ⟨.tx (sqt_ty (same_sqt s.sub h)), fun _ q => nomatch q⟩
    | lst h r => exact ⟨.tx (.base (.lst (s.sub _ _ h))), fun _ q => nomatch q⟩
    | dct h r => exact ⟨.tx (.base (.dK (s.sub _ _ h))), fun _ q => nomatch q⟩
    | ktp ks h => exact ⟨.tx (.base (.tup (s.sub _ _ h))), fun _ q => nomatch q⟩
    | dlt h r => exact ⟨.fT (s.sub _ _ h), fun _ q => nomatch q⟩
    | dlu h r => exact ⟨.tx (.fDict (s.sub _ _ h)), fun _ q => nomatch q⟩
    | obj h c r => exact ⟨.tx (ins_ty hT hI c (s.sub _ _ h)), fun _ q => by cases q; exact c⟩
    | scr h => exact ⟨.tx (sql_ty (s.sub.seq h)), fun _ q => nomatch q⟩
  | loc e =>
    rename_i a n
    have h : tyC st[n]? = some t := h
    cases q : st[n]? with
    | none => rw [q] at h; cases h
    | some c =>
      rw [q] at h
      have k := s.cell n a c e q
      cases c with
      | dead => cases h
      | lstF xs => cases h; obtain ⟨_, vs, e1, _⟩ := k; exact ⟨.tx (.base (.lst e1)), fun _ q => nomatch q⟩
      | lstW xs => cases h; obtain ⟨_, vs, e1, _⟩ := k; exact ⟨.tx (.base (.lst e1)), fun _ q => nomatch q⟩
      | dct xs => cases h; obtain ⟨_, vs, e1, _⟩ := k; exact ⟨.tx (.base (.dK e1)), fun _ q => nomatch q⟩
      | dti xs => cases h; obtain ⟨_, vs, e1, _⟩ := k; exact ⟨.tx (.base (.dT e1)), fun _ q => nomatch q⟩
      | ins c fs => cases h; obtain ⟨_, dx, fvs, e1, hc, _⟩ := k; exact ⟨.tx (ins_ty hT hI hc e1), fun _ q => by cases q; exact hc⟩
theorem tyx_mono {K : PySem.W.Frag} {H H' : Hp} (m : Same H H') {v : V} {t : Value} (h : TyX K H v t) : TyX K H' v t := by
  cases h with
  | base h =>
    cases h with
    | non => exact .base .non
    | bl b => exact .base (.bl b)
    | int b => exact .base (.int b)
    | str b => exact .base (.str b)
    | flt b => exact .base (.flt b)
    | lst e => exact .base (.lst (m _ _ e))
    | frz e => exact .base (.frz (m _ _ e))
    | tup e => exact .base (.tup (m _ _ e))
    | dK e => exact .base (.dK (m _ _ e))
    | dT e => exact .base (.dT (m _ _ e))
    | ins e a b c d f => exact .base (.ins (m _ _ e) a b c d f)
  | byt b => exact .byt b
  | set e => exact .set (m _ _ e)
  | kList e c => exact .kList e c
  | kTuple e c => exact .kTuple e c
  | kDict e c => exact .kDict e c
  | fTuple e => exact .fTuple (m _ _ e)
  | fDict e => exact .fDict (m _ _ e)
/-- a class, as it is written -/
theorem tyy_mono {K : PySem.W.Frag} {H H' : Hp} (m : Same H H') {v : V} {t : Value} (h : TyY K H v t) : TyY K H' v t := by
  cases h with
  | tx h => exact .tx (tyx_mono m h)
  | fT e => exact .fT (m _ _ e)
structure TgOk (X : Cx) (T : Tab) (e : Expr) (g : Tg) : Prop where
  ex : ∃ v, PE X e (tC v) ∧ ClsV v (tgVal X.K T g)
  ok : ∀ c, g = .own c → (T.cls[c]?).isSome = true
theorem tg_ty {x : Str} {pos : Pos} {g : Tg} (hg : Gl X x) (hm : X.mg x = none) (hv : bootBuiltins x = some (tgVal ([] : PySem.W.Frag) T g)) (ho : ∀ c, g ≠ .own c := by intro c; exact fun q => nomatch q) (hn : x ≠ "__name__" := by decide) (hd : (x == ("__debug__" : Str)) = false := by decide) : TgOk X T (.Name x pos) g := by
  refine ⟨?_, fun c q => absurd q (ho c)⟩
  cases g with
  | own c => exact absurd rfl (ho c)
  | bl => exact ⟨.ty "bool", pe_bltn hg hm hv rfl hn hd, .ty _⟩
  | int => exact ⟨.ty "int", pe_bltn hg hm hv rfl hn hd, .ty _⟩
  | str => exact ⟨.ty "str", pe_bltn hg hm hv rfl hn hd, .ty _⟩
  | tup => exact ⟨.ty "tuple", pe_bltn hg hm hv rfl hn hd, .ty _⟩
  | lst => exact ⟨.ty "list", pe_bltn hg hm hv rfl hn hd, .ty _⟩
  | dct => exact ⟨.ty "dict", pe_bltn hg hm hv rfl hn hd, .ty _⟩
theorem tg_own {x : Str} {pos : Pos} {c : Nat} (hc : (T.cls[c]?).isSome = true) (hg : Gl X x) (hm : X.mg x = some (.ref (T.ca X.K c))) (hd : (x == ("__debug__" : Str)) = false := by decide) : TgOk X T (.Name x pos) (.own c) :=
  ⟨⟨.ref (T.ca X.K c), pe_glob hg hm rfl hd, .own _⟩, fun _ q => by cases q; exact hc⟩
def isiAny (gs : List Tg) (t : Ty) : Bool := gs.any fun g => isT g t
def eIsi (gs : List Tg) (te : TEv) : TEv := fun env st => (te env st).bind fun w st1 => match tyW st1 w with
  | some t => .ok (.f (.bl (isiAny gs t))) st1
  | none => .stuck
variable {e c c1 c2 c3 : Expr} {te : TEv} {p pos p2 : Pos}
theorem rd_isi {gs : List Tg} {σ : L2.St} {Q : VK} (hT : TabOk X.K T) (hI : IsiOk X.K T) (h : RdE X.K T E (eIsi gs te) σ H Q) : RdE X.K T E te σ H (fun x H1 => ∃ t, TyY X.K H1 x (tyVal X.K T t) ∧ (∀ c, t = .own c → (T.cls[c]?).isSome = true) ∧ Q (.bl (isiAny gs t)) H1 ∧ ∀ l cs, H1 l = none → Q (.bl (isiAny gs t)) (upd H1 l (.tup cs))) := by
  obtain ⟨Z, ι, env, st, s, re, p⟩ := h
  refine ⟨Z, ι, env, st, s, re, (Post.bind p).imp fun w st1 H1 Z1 ι1 l1 s1 p1 v rv => ?_⟩
  cases q : tyW st1 w with
  | none => simp only [q] at p1; exact p1.elim
  | some t =>
    simp only [q] at p1
    obtain ⟨h1, h2⟩ := ty_ok hT hI s1 rv q
    refine ⟨t, h1, h2, p1 H1 Z1 ι1 Le.refl s1 _ (.f (.bl _)), fun l cs hl => ?_⟩
    have g : Grow Z1 H1 Z1 (upd H1 l (.tup cs)) := ⟨Same.refl Z1, same_new hl, s1.sub.trans (same_new hl), fun _ _ _ => rfl, fun _ _ e => e⟩
    exact p1 _ Z1 ι1 g.le (s1.grow g) _ (.f (.bl _))
theorem ve_isi {g : Tg} (hT : TabOk X.K T) (hI : IsiOk X.K T) (hg : Gl X "isinstance") (hm : X.mg "isinstance" = none) (he : VE X T E e te) (hc : TgOk X T c g)
    (hs : starEach [e, c] X.env = (false, eval e X.env) :: starEach [c] X.env := by rfl) (hs2 : starEach [c] X.env = (false, eval c X.env) :: starEach [] X.env := by rfl) (hpl : (backTo pos (starEach [c] X.env)).any (·.1) = false := by rfl) :
    VE X T E (.Call (.Name "isinstance" p) [e, c] [] pos) (eIsi [g] te) := by
  obtain ⟨v, hv, kv⟩ := hc.ex
  refine pe_weak (pe_callB call_isiY hg hm (by decide +kernel) (pa_cons he (pa_cons hv pa_nil hs2) hs) (by decide) (by decide) hs hpl) fun σ H Q h => ?_
  obtain ⟨Z, ι, env, st, s, re, p⟩ := rd_isi hT hI h
  refine ⟨Z, ι, env, st, s, re, p.imp fun w st1 H1 Z1 ι1 l1 s1 p1 x rx => ?_⟩
  obtain ⟨t, h1, h2, h3, _⟩ := p1 x rx
  refine ⟨x, v, _, _, _, rfl, kv, h1, hI.one t g h2 hc.ok, ?_⟩
  simpa [isiAny] using h3
theorem kit_any {K : PySem.W.Frag} (hI : IsiOk K T) {t : Ty} (ht : ∀ c, t = .own c → (T.cls[c]?).isSome = true) : ∀ {gs : List Tg}, (∀ g ∈ gs, ∀ c, g = Tg.own c → (T.cls[c]?).isSome = true) → PySem.W.kitAny K (tyVal K T t) (gs.map (tgVal K T)) = some (isiAny gs t)
  | [], _ => rfl
  | g :: gs, h => by
    refine kitAny_cons (b := isT g t) (hI.one t g ht (h g (by simp))) (fun hb => ?_) (fun hb => ?_)
    · rw [kit_any hI ht (gs := gs) fun g' m => h g' (by simp [m])]
      simp [isiAny, hb]
    · simp [isiAny, hb]
inductive TgsOk (X : Cx) (T : Tab) : List Expr → List Tg → Prop
  | nil : TgsOk X T [] []
  | cons {e : Expr} {es : List Expr} {g : Tg} {gs : List Tg} : TgOk X T e g → starEach (e :: es) X.env = (false, eval e X.env) :: starEach es X.env → TgsOk X T es gs → TgsOk X T (e :: es) (g :: gs)
theorem TgsOk.all {es : List Expr} {gs : List Tg} (h : TgsOk X T es gs) : ∃ vs, Paired ClsV vs (gs.map (tgVal X.K T)) ∧ (∀ g ∈ gs, ∀ c, g = Tg.own c → (T.cls[c]?).isSome = true) ∧ PA X es (fun _ H Q => Q vs H) ∧ vs.length = gs.length := by
  induction h with
  | nil => exact ⟨[], Paired.nil, fun g m => (List.not_mem_nil m).elim, pa_weak pa_nil (fun _ _ _ h => h), rfl⟩
  | @cons e es g gs a hs _ ih =>
    obtain ⟨vs, k, o, pa, hl⟩ := ih
    obtain ⟨v, hv, kv⟩ := a.ex
    refine ⟨v :: vs, .cons kv k, fun g' m => ?_, pa_weak (pa_cons hv pa hs) fun _ _ _ h => h, by simp [hl]⟩
    rcases List.mem_cons.mp m with rfl | m
    · exact a.ok
    · exact o g' m
theorem ve_isiT {es : List Expr} {gs : List Tg} {z : _} (hT : TabOk X.K T) (hI : IsiOk X.K T) (hg : Gl X "isinstance") (hm : X.mg "isinstance" = none) (he : VE X T E e te) (hc : TgsOk X T es gs) (hn : gs.length < 100 := by decide)
    (hs : starEach [e, .Tuple es z p2] X.env = (false, eval e X.env) :: starEach [.Tuple es z p2] X.env := by rfl) (hs2 : starEach [.Tuple es z p2] X.env = (false, eval (.Tuple es z p2) X.env) :: starEach [] X.env := by rfl) (hpl : (backTo pos (starEach [.Tuple es z p2] X.env)).any (·.1) = false := by rfl) :
    VE X T E (.Call (.Name "isinstance" p) [e, .Tuple es z p2] [] pos) (eIsi gs te) := by
  obtain ⟨vs, k, o, pa, hl⟩ := hc.all
  refine pe_weak (pe_callB call_isiTY hg hm (by decide +kernel) (pa_cons he (pa_cons (pe_tup pa) pa_nil hs2) hs) (by decide) (by decide) hs hpl) fun σ H Q h => ?_
  obtain ⟨Z, ι, env, st, s, re, p⟩ := rd_isi hT hI h
  refine ⟨Z, ι, env, st, s, re, p.imp fun w st1 H1 Z1 ι1 l1 s1 p1 x rx => ?_⟩
  obtain ⟨t, h1, h2, h3, h4⟩ := p1 x rx
  refine ⟨by rw [hl]; exact Nat.le_of_lt (Nat.lt_of_lt_of_le hn (by decide)), fun l hl0 => ?_⟩
  refine ⟨x, l, vs, _, _, _, rfl, upd_same, k, ?_, kit_any hI h2 o, h4 l vs hl0⟩
  exact tyy_mono (same_new hl0) h1
end
end VS

set_option Elab.async false
set_option linter.all false
set_option maxRecDepth 100000
set_option maxHeartbeats 4000000
set_option autoImplicit false
/-! VO: operators of own classes. -/
namespace VS
open PySem PySem.Spec PyProof.Rows L2

section
variable {P : Program} {w : World} {K : PySem.W.Frag} {mg : Str → Option Value} {base : Heap} {T : Tab} {CX : CXT} {k : Nat} {f : Addr} {m : FnM}
theorem Fn.raw (F : Fn P w K mg base T CX k f m) : FnR P w K mg base CX k f (spM K T m) := by
  obtain ⟨fd, ps, ds, dvs, dfs, m0, F0, b, v, r, rfl⟩ := F.ex
  refine (F0.raw b v).imp fun vs H Q E h => ?_
  obtain ⟨Z, ι, ws, st, s, rw, p⟩ := h
  exact ⟨Z, ι, ws ++ dfs.map W.f, st, s, rw.append (RepWs.map_f (r Z)), p⟩
end
/-- a value handed to sp: what is known of it -/
def OwnAt (H : Hp) (C : Addr) (x : V) : Prop := ∃ a dx fs, x = .ref a ∧ H a = some (.ins C dx fs)
section
variable {X : Cx} {T : Tab} {E : XK} {CX : CXT} {k : Nat} {g C : Addr} {m : FnM} {sp : Sp}
theorem own_inst {pins : List (Addr × Obj)} {σ : L2.St} {H : Hp} {s : Shared} {a dx : Addr} {fs : List (Str × V)} (I : Inv X pins σ H s) (e : H a = some (.ins C dx fs)) : ∃ ox od, PySem.W.InstAt s.heap a ox C (some od) := by
  obtain ⟨mA, O, _⟩ := ins_get I.hok e
  obtain ⟨od, J, _⟩ := O.look
  exact ⟨_, _, J⟩
/-! ### len -/
def rLenO (C : Addr) (sp : Sp) (E : XK) : List V → Hp → VK → Prop := fun xs H Q => ∃ x, xs = [x] ∧ OwnAt H C x ∧ sp [x] H (fun z H' => ∃ i : Int, z = .int i ∧ (0 ≤ i ∧ i < 2 ^ 63) ∧ Q z H') E
theorem call_lenO (hm : Meth X.K C "__len__" g) (F : FnR X.prog X.w X.K X.mg X.base CX k g sp) (hr : Room (k + 1) X.A) (hx : Passes CX X E) : CallR X (.builtin "len") (rLenO C sp E) := by
  intro pins s σ H xs us Q I r h
  obtain ⟨x, rfl, ⟨a, dx, fs, rfl, ea⟩, q⟩ := h
  obtain ⟨u, rfl, ru⟩ := r.one
  cases (show u = Value.ref a from ru)
  obtain ⟨ox, od, J⟩ := own_inst I ea
  obtain ⟨mm, hF⟩ := I.fr
  refine PySem.W.len_K hF I.ok.mod.kin J hm.at_ hm.fn (wpAny_mono (wpAny_call (SlX.run_at (us := [.ref a]) (ws := [.ref a]) F hr.in1 I.env0.in1 hx I (.cons rfl .nil) q)) (fun w s' z => ?_) fun _ _ x => x)
  obtain ⟨z', H', I', rz, i, rfl, hi, qz⟩ := z
  obtain ⟨t, e⟩ := (show ∃ t, w = Value.int i t from rz)
  cases e
  exact ⟨hi, .int i, H', I'.tok _, ⟨_, rfl⟩, qz⟩
/-! ### str -/
/-! ### two values, the first one's class has the def -/
def rOwn2 (C : Addr) (ok : V → Hp → Prop) (sp : Sp) (E : XK) : R2 := fun x y H Q => OwnAt H C x ∧ ok y H ∧ sp [x, y] H Q E
theorem op_ownEq (hm : Meth X.K C "__eq__" g) (F : FnR X.prog X.w X.K X.mg X.base CX k g sp) (hr : Room k X.A) (hx : Passes CX X E) :
    OpR X (compareOp .Eq) (rOwn2 C (fun y H => ∃ t, TyY X.K H y t ∧ PySem.W.notFirst X.K C t = true) sp E) := by
  intro pins s σ H x y v u Q I rx ry h
  obtain ⟨⟨a, dx, fs, rfl, ea⟩, ⟨t, ty, hn⟩, q⟩ := h
  cases (show v = Value.ref a from rx)
  obtain ⟨ox, od, J⟩ := own_inst I ea
  obtain ⟨Pk, kx, pk, _⟩ := kit_ofY I ry ty
  obtain ⟨mm, hF⟩ := I.fr
  refine PySem.W.cmp_K (op := .Eq) (tb := t) hr.units0 hF I.ok.mod.kin J (kx.ty _ _ I.kIn pk) hn hm.at_ hm.fn ?_
  refine wpAny_mono (wpAny_call (run_fnR (us := [.ref a, u]) (vs := [.ref a, y]) F hr hx I (.cons rfl (.cons ry .nil)) q)) (fun w s' z => ?_) fun _ _ x => x
  obtain ⟨z', H', I', rz, qz⟩ := z
  exact SlX.cmpback rz ⟨z', H', I', rz, qz⟩
/-- .. the second one an int or a text -/
structure BinT (K : PySem.W.Frag) (C : Addr) (nm : String) (Ty : String) : Prop where
  rc : ∃ rc, PySem.W.findIn K (.ref C) (PySem.dunderR nm) = some rc ∧ (rc = none ∨ ∃ g : Addr, rc = some (.ref g))
  fo : ∃ fo, PySem.W.findIn K (.type Ty) (PySem.dunder nm) = some fo
  ro : ∃ ro, PySem.W.findIn K (.type Ty) (PySem.dunderR nm) = some ro
  sub : PySem.W.subIn K (.type Ty) (.ref C) = some false
/-! ### x in y, y of the class -/
def rInO (C : Addr) (neg : Bool) (sp : Sp) (E : XK) : R2 := fun x y H Q => OwnAt H C y ∧ sp [y, x] H (fun z H' => ∃ b, z = .bl b ∧ Q (.bl (neg ^^ b)) H') E
theorem op_inO (hm : Meth X.K C "__contains__" g) (F : FnR X.prog X.w X.K X.mg X.base CX k g sp) (hr : Room k X.A) (hx : Passes CX X E) : OpR X (compareOp .In) (rInO C false sp E) := by
  intro pins s σ H x y v u Q I rx ry h
  obtain ⟨⟨b, dy, fs, rfl, eb⟩, q⟩ := h
  cases (show u = Value.ref b from ry)
  obtain ⟨ox, od, J⟩ := own_inst I eb
  obtain ⟨mm, hF⟩ := I.fr
  refine PySem.W.in_K hF I.ok.mod.kin J hm.at_ hm.fn ?_
  refine wpAny_mono (wpAny_call (run_fnR (us := [.ref b, v]) (vs := [.ref b, x]) F hr hx I (.cons rfl (.cons rx .nil)) q)) (fun w s' z => ?_) fun _ _ x => x
  obtain ⟨z', H', I', rz, c, rfl, qz⟩ := z
  cases (show w = Value.bool c from rz)
  exact wpAny_truthy_bool ⟨.bl c, H', I', rfl, by simpa using qz⟩
end

/-! ### over plain data -/
section
variable {X : Cx} {T : Tab} {E : XK} {CX : CXT} {k c : Nat} {g : Addr} {m : FnM} {a b e : Expr} {ta tb te : TEv} {pos p : Pos}
theorem own_at {K : PySem.W.Frag} {Z H : Hp} {ι : List Addr} {st : Store} {v : V} {w : W} (s : SimS K T Z ι st H) (r : RepW K T Z ι v w) (h : clsW st w = some c) : OwnAt H (T.ca K c) v := by
  obtain ⟨a, dx, fvs, e1, e2, _⟩ := obj_at s r h
  exact ⟨a, dx, fvs, e1, e2⟩
def backInt (r : Res W) : Res W := r.bind fun w st => match w with
  | .f (.int i) => if 0 ≤ i ∧ i < 2 ^ 63 then .ok (.f (.int i)) st else .stuck
  | _ => .stuck
def backBl (neg : Bool) (r : Res W) : Res W := r.bind fun w st => match w with
  | .f (.bl i) => .ok (.f (.bl (neg ^^ i))) st
  | _ => .stuck
def own1 (c : Nat) (m : FnM) (w : W) (st : Store) : Res W := if clsW st w = some c then m [w] st else .stuck
def own2 (c : Nat) (m : FnM) (w u : W) (st : Store) : Res W := if clsW st w = some c then m [w, u] st else .stuck
def eLenO (c : Nat) (m : FnM) (te : TEv) : TEv := fun env st => (te env st).bind fun w st1 => backInt (own1 c m w st1)
theorem own1_ok {K : PySem.W.Frag} {Z H : Hp} {ι : List Addr} {st : Store} {v : V} {w : W} {back : Res W → Res W} {f : W → Store → Res W} (hb : ∀ r, back r = r.bind f) {kk : W → Store → Hp → Hp → List Addr → Prop} (s : SimS K T Z ι st H) (rv : RepW K T Z ι v w)
    (p : Post K T E Z ι (back (own1 c m w st)) kk) : OwnAt H (T.ca K c) v ∧ Post K T E Z ι (m [w] st) (fun u st1 _ Z1 ι1 => Post K T E Z1 ι1 (f u st1) kk) := by
  rw [hb] at p
  unfold own1 at p
  by_cases hc : clsW st w = some c
  · rw [if_pos hc] at p
    exact ⟨own_at s rv hc, Post.bind p⟩
  · rw [if_neg hc] at p
    exact p.elim
theorem ve_lenO {f : Addr} (hm : Meth X.K (T.ca X.K c) "__len__" f) (F : Fn X.prog X.w X.K X.mg X.base T CX k f m) (hr : Room (k + 1) X.A) (hx : Passes CX X E) (hg : Gl X "len") (hn : X.mg "len" = none) (he : VE X T E e te)
    (hs : starEach [e] X.env = (false, eval e X.env) :: starEach [] X.env := by rfl) (hpl : (backTo pos (starEach [] X.env)).any (·.1) = false := by rfl) : VE X T E (.Call (.Name "len" p) [e] [] pos) (eLenO c m te) := by
  refine pe_weak (pe_callB (call_lenO hm F.raw hr hx) hg hn (by decide +kernel) (pa_cons he pa_nil hs) (by decide) (by decide) hs hpl) fun σ H Q h => ?_
  obtain ⟨Z, ι, env, st, s, re, p⟩ := h
  refine ⟨Z, ι, env, st, s, re, (Post.bind p).imp fun w st1 H1 Z1 ι1 l1 s1 p1 v rv => ?_⟩
  obtain ⟨ho, p2⟩ := own1_ok (fun r => rfl) s1 rv p1
  refine ⟨v, rfl, ho, Z1, ι1, [w], st1, s1, .cons rv .nil, p2.imp fun u st2 H2 Z2 ι2 l2 s2 p3 v2 rv2 => ?_⟩
  cases rv2 with
  | loc e => exact p3.elim
  | f r =>
    cases r with
    | int i =>
      have p3 : Post X.K T E Z2 ι2 (if 0 ≤ i ∧ i < 2 ^ 63 then Res.ok (W.f (.int i)) st2 else .stuck) _ := p3
      by_cases hi : 0 ≤ i ∧ i < 2 ^ 63
      · rw [if_pos hi] at p3
        exact ⟨i, rfl, hi, p3 H2 Z2 ι2 Le.refl s2 _ (.f (.int i))⟩
      · rw [if_neg hi] at p3
        exact p3.elim
    | _ => exact p3.elim
/-- x op y by the first one's class: ok tells which y -/
def eOwn2 (c : Nat) (ok : Store → W → Bool) (m : FnM) (ta tb : TEv) : TEv := fun env st => (ta env st).bind fun w st1 => (tb env st1).bind fun u st2 => if ok st2 u = true then own2 c m w u st2 else .stuck
def anyTy (st : Store) (u : W) : Bool := (tyW st u).isSome
theorem rd_own2 {ok : Store → W → Bool} {okV : V → Hp → Prop} (hok : ∀ Z H ι st v w, SimS X.K T Z ι st H → RepW X.K T Z ι v w → ok st w = true → okV v H) {σ : L2.St} {H : Hp} {Q : VK} (h : RdE X.K T E (eOwn2 c ok m ta tb) σ H Q) :
    tOp (rOwn2 (T.ca X.K c) okV (spM X.K T m) E) (RdE X.K T E ta) (RdE X.K T E tb) σ H Q := by
  obtain ⟨Z, ι, env, st, s, re, p⟩ := h
  refine ⟨Z, ι, env, st, s, re, (Post.bind p).imp fun w st1 H1 Z1 ι1 l1 s1 p1 v rv => ?_⟩
  refine ⟨Z1, ι1, env, st1, s1, re.mono l1, (Post.bind p1).imp fun u st2 H2 Z2 ι2 l2 s2 p2 v2 rv2 => ?_⟩
  by_cases hk : ok st2 u = true
  · rw [if_pos hk] at p2
    unfold own2 at p2
    by_cases hc : clsW st2 w = some c
    · rw [if_pos hc] at p2
      exact ⟨own_at s2 (rv.mono l2) hc, hok _ _ _ _ _ _ s2 rv2 hk, Z2, ι2, [w, u], st2, s2, .cons (rv.mono l2) (.cons rv2 .nil), p2⟩
    · rw [if_neg hc] at p2
      exact p2.elim
  · rw [if_neg hk] at p2
    exact p2.elim
theorem kit_first {K : PySem.W.Frag} (hI : IsiOk K T) (hc : (T.cls[c]?).isSome = true) {t : Ty} (ht : ∀ d, t = .own d → (T.cls[d]?).isSome = true) : PySem.W.notFirst K (T.ca K c) (tyVal K T t) = true := by
  have h := hI.one t (.own c) ht (fun d q => by cases q; exact hc)
  unfold PySem.W.notFirst
  rw [Bool.or_eq_true]
  unfold PySem.W.kitOne at h
  by_cases q : (tyVal K T t == tgVal K T (.own c)) = true
  · exact .inl q
  · rw [if_neg q] at h
    right
    have h2 : (if ((PySem.W.clsIn K (T.ca K c)).isSome && PySem.W.typeIn K (.ref (T.ca K c)) == some (.type "type")) = true then PySem.W.subIn K (tyVal K T t) (.ref (T.ca K c)) else none) = some (isT (.own c) t) := h
    split at h2
    · rw [h2]
      cases t with
      | own d =>
        have hd : (c == d) = false := by
          refine Bool.eq_false_iff.mpr fun e => q ?_
          have e := beq_iff_eq.mp e
          subst e
          exact beq_self_eq_true _
        simp [isT, hd]
      | _ => rfl
    · cases h2
theorem ve_ownEq {f : Addr} (hT : TabOk X.K T) (hI : IsiOk X.K T) (hc : (T.cls[c]?).isSome = true) (hm : Meth X.K (T.ca X.K c) "__eq__" f) (F : Fn X.prog X.w X.K X.mg X.base T CX k f m) (hr : Room k X.A) (hx : Passes CX X E) (ha : VE X T E a ta) (hb : VE X T E b tb) :
    VE X T E (.Compare a [.Eq] [b] pos) (eOwn2 c anyTy m ta tb) :=
  pe_weak (pe_cmpR (op_ownEq hm F.raw hr hx) ha hb (nomark _)) fun σ H Q h => rd_own2 (fun Z H ι st v w s r q => by
    obtain ⟨t, ht⟩ := Option.isSome_iff_exists.mp q
    obtain ⟨h1, h2⟩ := ty_ok hT hI s r ht
    exact ⟨_, h1, kit_first hI hc h2⟩) h
/-- x in y, y of the class -/
def eInO (c : Nat) (neg : Bool) (m : FnM) (ta tb : TEv) : TEv := fun env st => (ta env st).bind fun w st1 => (tb env st1).bind fun u st2 => backBl neg (own2 c m u w st2)
theorem rd_inO {neg : Bool} {σ : L2.St} {H : Hp} {Q : VK} (h : RdE X.K T E (eInO c neg m ta tb) σ H Q) : tOp (rInO (T.ca X.K c) neg (spM X.K T m) E) (RdE X.K T E ta) (RdE X.K T E tb) σ H Q := by
  obtain ⟨Z, ι, env, st, s, re, p⟩ := h
  refine ⟨Z, ι, env, st, s, re, (Post.bind p).imp fun w st1 H1 Z1 ι1 l1 s1 p1 v rv => ?_⟩
  refine ⟨Z1, ι1, env, st1, s1, re.mono l1, (Post.bind p1).imp fun u st2 H2 Z2 ι2 l2 s2 p2 v2 rv2 => ?_⟩
  unfold backBl own2 at p2
  by_cases hc : clsW st2 u = some c
  · rw [if_pos hc] at p2
    refine ⟨own_at s2 rv2 hc, Z2, ι2, [u, w], st2, s2, .cons rv2 (.cons (rv.mono l2) .nil), (Post.bind p2).imp fun y st3 H3 Z3 ι3 l3 s3 p3 v3 rv3 => ?_⟩
    cases rv3 with
    | loc e => exact p3.elim
    | f r =>
      cases r with
      | bl i => exact ⟨i, rfl, p3 H3 Z3 ι3 Le.refl s3 _ (.f (.bl _))⟩
      | _ => exact p3.elim
  · rw [if_neg hc] at p2
    exact p2.elim
theorem ve_inO {f : Addr} (hm : Meth X.K (T.ca X.K c) "__contains__" f) (F : Fn X.prog X.w X.K X.mg X.base T CX k f m) (hr : Room k X.A) (hx : Passes CX X E) (ha : VE X T E a ta) (hb : VE X T E b tb) (hmk : behindInMarks .In b = false) :
    VE X T E (.Compare a [.In] [b] pos) (eInO c false m ta tb) := pe_weak (pe_cmpR (op_inO hm F.raw hr hx) ha hb hmk) fun σ H Q h => rd_inO h
end
end VS

set_option Elab.async false
set_option linter.all false
set_option maxRecDepth 100000
set_option maxHeartbeats 4000000
set_option autoImplicit false
/-! VP: enumerate and zip over lists, tuples and texts. -/
namespace VS
open PySem PySem.Spec PyProof.Rows L2

/-- what an iterator goes over -/
inductive Sk where
  | lst (a : Addr) | tup (a : Addr) | str (x : Str)
def Sk.val : Sk → V
  | .lst a => .ref a
  | .tup a => .ref a
  | .str x => .str x
def Sk.ads : Sk → List Addr
  | .lst a => [a]
  | .tup a => [a]
  | .str _ => []
def Sk.At (K : PySem.W.Frag) (H : Hp) : Sk → List V → Prop
  | .lst a, vs => SqL K H a vs
  | .tup a, vs => SqT K H a vs
  | .str x, vs => vs = x.cps.toList.map fun c => V.str ⟨#[c]⟩
def So (u : Tok) (sk : Sk) (it : Addr) (i : Nat) (h : Heap) : Prop := match sk with
  | .lst a => h.IsListIter it a i
  | .tup a => h.IsTupleIter it a i
  | .str x => h.IsStrIter it (strIterType x) x u i
def Sk.obj (u : Tok) : Sk → Obj
  | .lst a => { cls := .type "list_iterator", data := .fields #[.ref a, .int 0 0] }
  | .tup a => { cls := .type "tuple_iterator", data := .fields #[.ref a, .int 0 0] }
  | .str x => { cls := .type (strIterType x), data := .fields #[.str x u, .int 0 0] }
theorem So.obj {u : Tok} {sk : Sk} {it : Addr} {i : Nat} {h : Heap} (st : So u sk it i h) : ∃ o, h.get? it = some o ∧ ∀ v, o.data ≠ .cell v := by
  cases sk <;> (obtain ⟨o, e, c, d⟩ := st; exact ⟨o, e, fun v q => by rw [d] at q; cases q⟩)
theorem So.keep {u : Tok} {sk : Sk} {it : Addr} {i : Nat} {h h' : Heap} (st : So u sk it i h) (k : ∀ o, h.get? it = some o → h'.get? it = some o) : So u sk it i h' := by
  cases sk <;> (obtain ⟨o, e, r⟩ := st; exact ⟨o, k o e, r⟩)
theorem So.first {u : Tok} {sk : Sk} {it : Addr} {h : Heap} (e : h.get? it = some (sk.obj u)) : So u sk it 0 h := by
  cases sk <;> exact ⟨_, e, rfl, rfl⟩
section
variable {X : Cx} {pins : List (Addr × Obj)} {σ : L2.St} {H : Hp} {s : Shared}
theorem sk_begins (I : Inv X pins σ H s) {sk : Sk} {vs : List V} {v : Value} (h : sk.At X.K H vs) (r : RelV sk.val v) : ∃ (u : Tok) (P : Heap → Prop), Begins v (sk.obj u) P ∧ P s.heap ∧ ∀ b ∈ sk.ads, b < s.heap.objs.size := by
  cases sk with
  | lst a =>
    cases (show v = Value.ref a from r)
    obtain ⟨its, rv, p, _⟩ := I.list h
    refine ⟨0, _, begins_list a its.toArray, p.isList, fun b hb => ?_⟩
    have e : b = a := by simpa [Sk.ads] using hb
    subst e
    exact p.lt
  | tup a =>
    cases (show v = Value.ref a from r)
    obtain ⟨its, rv, p, _⟩ := I.tuple h
    refine ⟨0, _, begins_tuple a its.toArray, (show s.heap.IsTuple a its.toArray from p), fun b hb => ?_⟩
    have e : b = a := by simpa [Sk.ads] using hb
    subst e
    obtain ⟨o, e, _⟩ := (show s.heap.IsTuple b its.toArray from p)
    exact Heap.lt_size e
  | str x =>
    obtain ⟨t, e⟩ := (show ∃ t, v = Value.str x t from r)
    cases e
    exact ⟨t, _, begins_text x t, trivial, fun b hb => by cases hb⟩
theorem sk_inj (I : Inv X pins σ H s) {sk : Sk} {vs us : List V} (h : sk.At X.K H vs) (h' : sk.At X.K H us) : vs = us := by
  cases sk with
  | lst a => exact I.list_inj h h'
  | tup a => exact I.tuple_inj h h'
  | str x => exact h.trans h'.symm
theorem sk_draws (I : Inv X pins σ H s) {A : Around} (hh : A.handled = none) {sk : Sk} {vs : List V} (h : sk.At X.K H vs) {u : Tok} {it : Addr} {i : Nat} (hn : ∀ b ∈ sk.ads, b ≠ it) (st : So u sk it i s.heap) :
    ∃ (fp : List Addr) (P : Nat → Value → Prop) (St : Nat → Heap → Prop), Draws X.prog X.w A it fp vs.length P St ∧ St i s.heap ∧ fp = it :: sk.ads ∧ (∀ j h, St j h → So u sk it j h) ∧ ∀ v x, P i v → vs[i]? = some x → RelV x v := by
  cases sk with
  | lst a =>
    obtain ⟨its, rv, p, _⟩ := I.list h
    have hl := rv.length
    refine ⟨[it, a], (fun i v => its.toArray[i]? = some v), (fun i h => h.IsListIter it a i ∧ h.IsList a its.toArray), ?_, ⟨st, p.isList⟩, rfl, fun j h q => q.1, fun v x pv hx => ?_⟩
    · have D := Draws.list (prog := X.prog) (w := X.w) hh it a (hn a (by simp [Sk.ads])) its.toArray
      rw [show its.toArray.size = vs.length from by simp [hl]] at D
      exact D
    · obtain ⟨u', hu, ru⟩ := rv.get hx
      have e : its.toArray[i]? = some v := pv
      have e : its[i]? = some v := by simpa using e
      rw [hu] at e
      cases e
      exact ru
  | tup a =>
    obtain ⟨its, rv, p, _⟩ := I.tuple h
    have hl := rv.length
    refine ⟨[it, a], (fun i v => its.toArray[i]? = some v), (fun i h => h.IsTupleIter it a i ∧ h.IsTuple a its.toArray), ?_, ⟨st, (show s.heap.IsTuple a its.toArray from p)⟩, rfl, fun j h q => q.1, fun v x pv hx => ?_⟩
    · have D := Draws.tuple (prog := X.prog) (w := X.w) hh it a (hn a (by simp [Sk.ads])) its.toArray
      rw [show its.toArray.size = vs.length from by simp [hl]] at D
      exact D
    · obtain ⟨u', hu, ru⟩ := rv.get hx
      have e : its.toArray[i]? = some v := pv
      have e : its[i]? = some v := by simpa using e
      rw [hu] at e
      cases e
      exact ru
  | str x =>
    have h : vs = x.cps.toList.map fun c => V.str ⟨#[c]⟩ := h
    subst h
    refine ⟨[it], (fun i v => ∃ c u, x.cps[i]? = some c ∧ v = .str ⟨#[c]⟩ u), (fun i h => h.IsStrIter it (strIterType x) x u i), ?_, st, rfl, fun j h q => q, fun v y pv hx => ?_⟩
    · have D := Draws.text (prog := X.prog) (w := X.w) hh it x u
      rw [show x.cps.size = (x.cps.toList.map fun c => V.str ⟨#[c]⟩).length from by simp] at D
      exact D
    · obtain ⟨c, t, hc, rfl⟩ := pv
      rw [List.getElem?_map] at hx
      obtain ⟨c', e', rfl⟩ := opt_map_some hx
      have hc : x.cps.toList[i]? = some c := by simpa using hc
      rw [hc] at e'
      cases e'
      exact ⟨t, rfl⟩
end
/-! ### zip -/
def ItzG (K : PySem.W.Frag) (k1 k2 : Sk) (n1 n2 : Nat) : It :=
  ⟨fun i H => ∃ (vs us : List V) (x y : V), k1.At K H vs ∧ k2.At K H us ∧ vs.length = n1 ∧ us.length = n2 ∧ vs[i]? = some x ∧ us[i]? = some y,
    fun i H v H' => ∃ T x y, v = .ref T ∧ H T = none ∧ H' = upd H T (.tup [x, y]) ∧ (∀ vs, k1.At K H vs → vs[i]? = some x) ∧ ∀ us, k2.At K H us → us[i]? = some y,
    fun i H => ∃ (vs us : List V), k1.At K H vs ∧ k2.At K H us ∧ vs.length = n1 ∧ us.length = n2 ∧ (n1 ≤ i ∨ n2 ≤ i)⟩
theorem turn_zipG {P : Program} {w : World} {K : PySem.W.Frag} {elts : List Expr} {kk : Nat} {tpos : Pos} {z TI TO i1 i2 : Addr} {k1 k2 : Sk} {n1 n2 : Nat} {u1 u2 : Tok} (D : ZipSep2 z TI TO i1 i2 (i1 :: k1.ads) (i2 :: k2.ads)) (hd1 : ∀ b ∈ k1.ads, b ≠ i1) (hd2 : ∀ b ∈ k2.ads, b ≠ i2) :
    Turn P w K (.Tuple elts kk tpos) (ItzG K k1 k2 n1 n2) [z, TI, TO, i1, i2] z (fun i h => IsZip h z TI TO .none ∧ IsTupOf2 h TI (.ref i1) (.ref i2) ∧ (∃ x y, IsTupOf2 h TO x y) ∧ So u1 k1 i1 i h ∧ So u2 k2 i2 i h ∧ i ≤ n1 ∧ i ≤ n2) where
  mem := by simp
  obj := fun i h st c hc => by
    obtain ⟨hz, hTI, ⟨x, y, hTO⟩, s1, s2, _⟩ := st
    have e' : c = z ∨ c = TI ∨ c = TO ∨ c = i1 ∨ c = i2 := by simpa using hc
    rcases e' with q | q | q | q | q
    · rw [q]; exact ⟨_, hz, fun v q => nomatch q⟩
    · rw [q]; exact ⟨_, hTI, fun v q => nomatch q⟩
    · rw [q]; exact ⟨_, hTO, fun v q => nomatch q⟩
    · rw [q]; exact s1.obj
    · rw [q]; exact s2.obj
  keep := fun i h h' st k => by
    obtain ⟨hz, hTI, ⟨x, y, hTO⟩, h1, h2, l⟩ := st
    exact ⟨k z (by simp) _ hz, k TI (by simp) _ hTI, ⟨x, y, k TO (by simp) _ hTO⟩, h1.keep fun o q => k i1 (by simp) o q, h2.keep fun o q => k i2 (by simp) o q, l⟩
  item := by
    intro X hP hw hK hc i pins s σ H E I hf st hg
    subst hP hw hK
    obtain ⟨hz, hTI, ⟨x0, y0, hTO⟩, h1, h2, l1, l2⟩ := st
    obtain ⟨vs, us, x, y, a1, a2, e1, e2, hx, hy⟩ := hg
    have hh : X.A.in1.handled = none := I.ok.hd hc
    obtain ⟨fp1, P1, St1, D1, st1, rfl, so1, r1⟩ := sk_draws I hh a1 hd1 h1
    obtain ⟨fp2, P2, St2, D2, st2, rfl, so2, r2⟩ := sk_draws I hh a2 hd2 h2
    have hi1 : i < vs.length := (List.getElem?_eq_some_iff.mp hx).1
    have hi2 : i < us.length := (List.getElem?_eq_some_iff.mp hy).1
    have hzl : z < s.heap.objs.size := Heap.lt_size hz
    refine wpAny_pyNext_zipD2_item D D1 D2 hz hTI hTO st1 st2 hi1 hi2 fun x1 x2 h' tk p1 p2 z' TO' h1' h2' hT hsz hk => ?_
    refine ⟨_, rfl, wpAny_letOwnedTupleGo_zip (s := { s with heap := h', toks := tk }) z' fun h'' z'' sb => ?_⟩
    have hT2 : h''.get? s.heap.objs.size = some { cls := .type "tuple", data := .seq #[x1, x2] } := (sb.2 _ (Nat.ne_of_gt hzl)).trans hT
    have new : ObjOk X.prog X.w (upd H s.heap.objs.size (.tup [x, y])) h'' s.heap.objs.size (.tup [x, y]) :=
      ⟨by show 2 ≤ sizeLine; decide, [x1, x2], .cons (r1 _ _ p1 hx) (.cons (r2 _ _ p2 hy) .nil), ⟨_, hT2, rfl, _, rfl⟩⟩
    have I1 : Inv X pins σ (upd H s.heap.objs.size (.tup [x, y])) { s with heap := h'', toks := tk } :=
      I.turnedNew (t' := tk) (ch := [z, TI, TO, i1, i2]) (fun c o hb q => (sb.2 c (fun q' => hb (by simp [q']))).trans (hk c o (fun q' => hb (by simp [q'])) (fun q' => hb (by simp [q'])) (fun q' => hb (by simp [q'])) (fun q' => hb (by simp [q'])) q)) hf (Nat.le_refl _) new
    refine ⟨.ref s.heap.objs.size, _, I1, rfl, ⟨_, x, y, rfl, I.hok.fresh (Nat.le_refl _), rfl, fun l hl => by rw [sk_inj I hl a1]; exact hx, fun l hl => by rw [sk_inj I hl a2]; exact hy⟩, ⟨z'', ?_, ⟨x1, x2, ?_⟩, ?_, ?_, by omega, by omega⟩, fun c hcm => ?_⟩
    · exact (sb.2 _ D.TIz).trans (hk _ _ D.TIz D.TITO D.TIi1 D.TIi2 hTI)
    · exact (sb.2 _ D.TOz).trans TO'
    · exact (so1 _ _ h1').keep fun o q => (sb.2 _ (Ne.symm D.zi1)).trans q
    · exact (so2 _ _ h2').keep fun o q => (sb.2 _ (Ne.symm D.zi2)).trans q
    · have hlt : c < s.heap.objs.size := by
        have e' : c = z ∨ c = TI ∨ c = TO ∨ c = i1 ∨ c = i2 := by simpa using hcm
        rcases e' with q | q | q | q | q
        · rw [q]; exact hzl
        · rw [q]; exact Heap.lt_size hTI
        · rw [q]; exact Heap.lt_size hTO
        · rw [q]; obtain ⟨o, e, _⟩ := h1.obj; exact Heap.lt_size e
        · rw [q]; obtain ⟨o, e, _⟩ := h2.obj; exact Heap.lt_size e
      rw [upd_ne (Nat.ne_of_lt hlt)]
      exact (hf c hcm).1
  done := by
    intro X hP hw hK hc i pins s σ H E I hf st hg
    subst hP hw hK
    obtain ⟨hz, hTI, ⟨x0, y0, hTO⟩, h1, h2, l1, l2⟩ := st
    obtain ⟨vs, us, a1, a2, e1, e2, he⟩ := hg
    have hh : X.A.in1.handled = none := I.ok.hd hc
    obtain ⟨fp1, P1, St1, D1, st1, rfl, so1, r1⟩ := sk_draws I hh a1 hd1 h1
    obtain ⟨fp2, P2, St2, D2, st2, rfl, so2, r2⟩ := sk_draws I hh a2 hd2 h2
    exact wpAny_pyNext_zipD2_end D D1 D2 hz hTI hTO st1 st2 (by omega) (by omega) (by omega) fun h' tk hk => ⟨rfl, I.turnedL (t' := tk) (ch := [z, TI, TO, i1, i2]) (fun c o hb q =>
      hk c o (fun q' => hb (by simp [q'])) (fun q' => hb (by simp [q'])) (fun q' => hb (by simp [q'])) (fun q' => hb (by simp [q'])) q) hf⟩
  self := fun A i s Q E st h => wpAny_pyIter_zip st.1 h
theorem not_in_new {N j i : Nat} {l : List Nat} (h : ∀ b ∈ l, b < N) (hj : j ≠ i) : N + j ∉ (N + i) :: l := fun hm => by
  rcases List.mem_cons.mp hm with q | q
  · omega
  · have := h _ q; omega
theorem ne_n {N i j : Nat} (h : i ≠ j) : N + i ≠ N + j := by omega
theorem sep_nat (N : Nat) (l1 l2 : List Nat) (h1 : ∀ b ∈ l1, b < N) (h2 : ∀ b ∈ l2, b < N) : ZipSep2 (N + 4) (N + 2) (N + 3) N (N + 1) (N :: l1) ((N + 1) :: l2) :=
  ⟨ne_n (by decide), ne_n (by decide), ne_n (by decide), ne_n (j := 0) (by decide), List.mem_cons_self .., not_in_new (i := 0) h1 (by decide), not_in_new (i := 0) h1 (by decide), ne_n (by decide), List.mem_cons_self .., not_in_new (i := 1) h2 (by decide), not_in_new (i := 1) h2 (by decide),
    not_in_new (j := 0) (i := 1) h2 (by decide), not_in_new (j := 1) (i := 0) h1 (by decide)⟩
theorem ge_five {N c : Nat} (h : c = N + 4 ∨ c = N + 2 ∨ c = N + 3 ∨ c = N ∨ c = N + 1) : N ≤ c := by omega
theorem ge_two {N c : Nat} (h : c = N + 1 ∨ c = N) : N ≤ c := by omega
def iZipG (K : PySem.W.Frag) (ta : TA) : TI := fun σ H R => ta σ H fun vs H1 => ∃ (k1 k2 : Sk) (xs ys : List V), vs = [k1.val, k2.val] ∧ k1.At K H1 xs ∧ k2.At K H1 ys ∧ R (ItzG K k1 k2 xs.length ys.length) H1
theorem pi_zipG {X : Cx} {e e2 : Expr} {ta : TA} {p pos tpos : Pos} {elts : List Expr} {kk : Nat} (hg : Gl X "zip") (hm : X.mg "zip" = none) (ha : PA X [e, e2] ta)
    (hs : starEach [e, e2] X.env = (false, eval e X.env) :: starEach [e2] X.env := by rfl) (hpl : (backTo pos (starEach [e2] X.env)).any (·.1) = false := by rfl) :
    PI X (.Tuple elts kk tpos) (.Call (.Name "zip" p) [e, e2] [] pos) (iZipG X.K ta) := by
  refine ⟨fun pins s σ H R I h => ?_⟩
  refine Call_ (ld_blt I hg hm PyProof.Rows.boot_zip (PyProof.Rows.callWith_type1 (thn (ha.run pos pins s σ H _ I h) fun us s1 ⟨vs, H1, I1, r1, q1⟩ => ?_) hs hpl))
  obtain ⟨k1, k2, xs, ys, ex, a1, a2, q⟩ := q1
  subst ex
  obtain ⟨v1, v2, rfl, rv1, rv2⟩ := vals2 r1
  obtain ⟨u1, P1, B1, p1, b1⟩ := sk_begins I1 a1 rv1
  obtain ⟨u2, P2, B2, p2, b2⟩ := sk_begins I1 a2 rv2
  refine zip_begins2 B1 B2 p1 p2 fun h' hz hTI hTO h1 h2 hsz hk => wpAny_pyIter_zip hz ?_
  have I2 : Inv X pins σ H1 { s1 with heap := h' } := I1.kept (t' := s1.toks) hk
  have D := sep_nat s1.heap.objs.size k1.ads k2.ads b1 b2
  refine ⟨s1.heap.objs.size + 4, [s1.heap.objs.size + 4, s1.heap.objs.size + 2, s1.heap.objs.size + 3, s1.heap.objs.size, s1.heap.objs.size + 1], _, _, H1, rfl, I2,
    turn_zipG (u1 := u1) (u2 := u2) D (fun b hb => Nat.ne_of_lt (b1 b hb)) (fun b hb => Nat.ne_of_lt (Nat.lt_succ_of_lt (b2 b hb))), ⟨hz, hTI, ⟨_, _, hTO⟩, So.first h1, So.first h2, Nat.zero_le _, Nat.zero_le _⟩, fun c hcm => ?_, q⟩
  have hle : s1.heap.objs.size ≤ c := by
    have e' : c = s1.heap.objs.size + 4 ∨ c = s1.heap.objs.size + 2 ∨ c = s1.heap.objs.size + 3 ∨ c = s1.heap.objs.size ∨ c = s1.heap.objs.size + 1 := by simpa using hcm
    exact ge_five e'
  exact I1.fpOk hle (I1.hok.fresh hle)
/-! ### enumerate -/
theorem meets_enum1 {v : Value} {o : Obj} {H : Heap → Prop} (B : Begins v o H) :
    Meets (Builtin.«enumerate.__new__» ⟨[.type "enumerate", v], []⟩) (fun _ R s => H s.heap ∧
      R (.ok (.ret (.ref (s.heap.push o).objs.size))) { s with heap := (s.heap.push o).push { cls := .type "enumerate", data := .fields #[.none, .bool false, .ref s.heap.objs.size, rawInt 0, .none, .none] } }) :=
  .of_wp fun prog w A R s h => by
    obtain ⟨hp, g, d, tk, os⟩ := s; obtain ⟨h1, h⟩ := h
    have hsub := sub_enumerate
    have q1 : ∀ {A' : Around} {E : Value → Shared → Prop} {Q : Value → Shared → Prop}, Q (.ref hp.objs.size) ⟨hp.push o, g, d, tk, os⟩ → wpAny (model prog w) A' (pyIter v) Q E ⟨hp, g, d, tk, os⟩ :=
      fun q => B.iter prog w _ _ ⟨hp, g, d, tk, os⟩ _ h1 q
    wp_walk using q1
    refine wpAny_stack_any fun st => wpAny_pure ?_
    split
    · rename_i c _ _ _ _ _
      cases (c == Value.type "enumerate")
      · wp_walk using q1
        exact ⟨_, rfl, h⟩
      · wp_walk using q1
        exact ⟨_, rfl, h⟩
    · wp_walk using q1
      exact ⟨_, rfl, h⟩
theorem enum_begins1 {prog : Program} {w : World} {A : Around} {E : Value → Shared → Prop} {s : Shared} {v : Value} {o : Obj} {H : Heap → Prop} {Q : Value → Shared → Prop} (B : Begins v o H) (h1 : H s.heap)
    (h : ∀ h', IsEnum h' (s.heap.objs.size + 1) s.heap.objs.size 0 .none → h'.get? s.heap.objs.size = some o → h'.objs.size = s.heap.objs.size + 2 →
      (∀ b o, s.heap.get? b = some o → h'.get? b = some o) → Q (.ref (s.heap.objs.size + 1)) { s with heap := h' }) :
    wpAny (model prog w) A (call (.type "enumerate") [v]) Q E s := by
  refine callType_new F.called_enumerate (by decide) (F.typeCall_enumerate_1 _) (F.newCall_enumerate_1 _) (fun obj => F.args_object_init_2 obj _) F.entry_enumerate_new (meets_enum1 B) ⟨h1, ?_⟩
  have hz : (s.heap.push o).objs.size = s.heap.objs.size + 1 := Heap.size_push ..
  show _ ∧ _
  rw [hz]
  have he : IsEnum ((s.heap.push o).push { cls := .type "enumerate", data := .fields #[.none, .bool false, .ref s.heap.objs.size, rawInt 0, .none, .none] }) (s.heap.objs.size + 1) s.heap.objs.size 0 .none := by
    have := Heap.get?_push_size (s.heap.push o) (o := { cls := .type "enumerate", data := .fields #[.none, .bool false, .ref s.heap.objs.size, rawInt 0, .none, .none] }) rfl
    rw [hz] at this; exact this
  exact ⟨⟨_, he, rfl⟩, h _ he (Heap.get?_push_of_some _ (Heap.get?_push_size _ B.free)) (by rw [Heap.size_push, hz]) fun b o x => Heap.get?_push_of_some _ (Heap.get?_push_of_some _ x)⟩
def IteG (K : PySem.W.Frag) (k : Sk) (n : Nat) : It :=
  ⟨fun i H => ∃ (vs : List V) (x : V), k.At K H vs ∧ vs.length = n ∧ vs[i]? = some x,
    fun i H v H' => ∃ T x, v = .ref T ∧ H T = none ∧ H' = upd H T (.tup [.int (i : Nat), x]) ∧ ∀ vs, k.At K H vs → vs[i]? = some x,
    fun i H => ∃ vs : List V, k.At K H vs ∧ vs.length = n ∧ n ≤ i⟩
theorem turn_enumG {P : Program} {w : World} {K : PySem.W.Frag} {elts : List Expr} {kk : Nat} {tpos : Pos} {e it : Addr} {k : Sk} {n : Nat} {u : Tok} (hne : e ≠ it) (hd : ∀ b ∈ k.ads, b ≠ it) (hd' : ∀ b ∈ k.ads, b ≠ e) :
    Turn P w K (.Tuple elts kk tpos) (IteG K k n) [e, it] e (fun i h => (∃ old, IsEnum h e it ((i : Nat) : Int) old) ∧ So u k it i h ∧ i ≤ n) where
  mem := by simp
  obj := fun i h st b hb => by
    obtain ⟨⟨old, he⟩, hs, _⟩ := st
    have e' : b = e ∨ b = it := by simpa using hb
    rcases e' with z | z
    · rw [z]; exact ⟨_, he, fun v q => nomatch q⟩
    · rw [z]; exact hs.obj
  keep := fun i h h' st k => let ⟨⟨old, he⟩, hi, hl⟩ := st; ⟨⟨old, k e (by simp) _ he⟩, hi.keep fun o q => k it (by simp) o q, hl⟩
  item := by
    intro X hP hw hK hc i pins s σ H E I hf st hg
    subst hP hw hK
    obtain ⟨⟨old, he⟩, h1, l1⟩ := st
    obtain ⟨vs, x, a1, e1, hx⟩ := hg
    have hh : X.A.in1.handled = none := I.ok.hd hc
    obtain ⟨fp1, P1, St1, D1, st1, rfl, so1, r1⟩ := sk_draws I hh a1 hd h1
    have hi1 : i < vs.length := (List.getElem?_eq_some_iff.mp hx).1
    have hel : e < s.heap.objs.size := Heap.lt_size he
    have hil : it < s.heap.objs.size := by obtain ⟨o, q, _⟩ := h1.obj; exact Heap.lt_size q
    have hef : e ∉ it :: k.ads := fun hm => by
      rcases List.mem_cons.mp hm with q | q
      · exact hne q
      · exact hd' e q rfl
    refine wpAny_pyNext_enum_itemC D1 he st1 hi1 hne hef fun x1 h' tk p1 ho hit' hT hsz hk => ?_
    refine ⟨_, rfl, wpAny_letOwnedTupleGo_enum (s := { s with heap := h', toks := tk + 1 }) ho fun h'' he' sb => ?_⟩
    have hT2 : h''.get? s.heap.objs.size = some { cls := .type "tuple", data := .seq #[.int i tk, x1] } := (sb.2 _ (Nat.ne_of_gt hel)).trans hT
    have new : ObjOk X.prog X.w (upd H s.heap.objs.size (.tup [.int (i : Nat), x])) h'' s.heap.objs.size (.tup [.int (i : Nat), x]) :=
      ⟨by show 2 ≤ sizeLine; decide, [.int i tk, x1], .cons ⟨_, rfl⟩ (.cons (r1 _ _ p1 hx) .nil), ⟨_, hT2, rfl, _, rfl⟩⟩
    have I1 : Inv X pins σ (upd H s.heap.objs.size (.tup [.int (i : Nat), x])) { s with heap := h'', toks := tk + 1 } :=
      I.turnedNew (ch := [e, it]) (fun b ob hb q => (sb.2 b (fun z => hb (by simp [z]))).trans (hk b ob (fun z => hb (by simp [z])) (fun z => hb (by simp [z])) q)) hf (Nat.le_refl _) new
    refine ⟨.ref s.heap.objs.size, _, I1, rfl, ⟨_, x, rfl, I.hok.fresh (Nat.le_refl _), rfl, fun ys hy => by rw [sk_inj I hy a1]; exact hx⟩, ⟨⟨x1, ?_⟩, (so1 _ _ hit').keep fun o q => (sb.2 it (Ne.symm hne)).trans q, by omega⟩, fun b hb => ?_⟩
    · have e1 : ((i + 1 : Nat) : Int) = (i : Int) + 1 := by omega
      rw [e1]; exact he'
    · have hb' : b < s.heap.objs.size := by
        have e' : b = e ∨ b = it := by simpa using hb
        rcases e' with z | z
        · rw [z]; exact hel
        · rw [z]; exact hil
      rw [upd_ne (Nat.ne_of_lt hb')]
      exact (hf b hb).1
  done := by
    intro X hP hw hK hc i pins s σ H E I hf st hg
    subst hP hw hK
    obtain ⟨⟨old, he⟩, h1, l1⟩ := st
    obtain ⟨vs, a1, e1, hx⟩ := hg
    have hh : X.A.in1.handled = none := I.ok.hd hc
    obtain ⟨fp1, P1, St1, D1, st1, rfl, so1, r1⟩ := sk_draws I hh a1 hd h1
    have e2 : i = vs.length := by omega
    rw [e2] at st1
    exact wpAny_pyNext_enum_endD D1 he st1 fun h' eb => ⟨rfl, I.turnedL (t' := s.toks) (ch := [e, it]) (fun b o hb q => eb b o (fun z => hb (by simp [z])) q) hf⟩
  self := fun A i s Q E st h => let ⟨⟨_, he⟩, _⟩ := st; wpAny_pyIter_enum he h
def iEnumG (K : PySem.W.Frag) (ta : TA) : TI := fun σ H R => ta σ H fun vs H1 => ∃ (k : Sk) (xs : List V), vs = [k.val] ∧ k.At K H1 xs ∧ R (IteG K k xs.length) H1
theorem pi_enumG {X : Cx} {e : Expr} {ta : TA} {p pos tpos : Pos} {elts : List Expr} {kk : Nat} (hg : Gl X "enumerate") (hm : X.mg "enumerate" = none) (ha : PA X [e] ta) (hs : starEach [e] X.env = [(false, eval e X.env)] := by rfl) :
    PI X (.Tuple elts kk tpos) (.Call (.Name "enumerate" p) [e] [] pos) (iEnumG X.K ta) := by
  refine ⟨fun pins s σ H R I h => ?_⟩
  refine Call_ (ld_blt I hg hm boot_enumerate (PyProof.Rows.callWith_type1 (thn (ha.run pos pins s σ H _ I h) fun us s1 ⟨vs, H1, I1, r1, q1⟩ => ?_) hs rfl))
  obtain ⟨k, xs, ex, a1, q⟩ := q1
  subst ex
  obtain ⟨v1, rfl, rv1⟩ := r1.one
  obtain ⟨u1, P1, B1, p1, b1⟩ := sk_begins I1 a1 rv1
  refine enum_begins1 B1 p1 fun h' he h1 hsz hk => wpAny_pyIter_enum he ?_
  have I2 : Inv X pins σ H1 { s1 with heap := h' } := I1.kept (t' := s1.toks) hk
  refine ⟨s1.heap.objs.size + 1, [s1.heap.objs.size + 1, s1.heap.objs.size], _, _, H1, rfl, I2, turn_enumG (u := u1) (Nat.succ_ne_self _) (fun b hb => Nat.ne_of_lt (b1 b hb)) (fun b hb => Nat.ne_of_lt (Nat.lt_succ_of_lt (b1 b hb))), ⟨⟨.none, he⟩, So.first h1, Nat.zero_le _⟩, fun b hb => ?_, q⟩
  have hle : s1.heap.objs.size ≤ b := by
    have e' : b = s1.heap.objs.size + 1 ∨ b = s1.heap.objs.size := by simpa using hb
    exact ge_two e'
  exact I1.fpOk hle (I1.hok.fresh hle)
end VS

set_option Elab.async false
set_option linter.all false
set_option maxRecDepth 100000
set_option maxHeartbeats 4000000
set_option autoImplicit false
/-! VQ: sorted(set(..)) of ints, what enumerate and zip walk, and other words. -/
namespace VS
section
open PySem PySem.Spec PyProof.Rows L2
variable {P : Program} {w : World} {A : Around} {E : Value → Shared → Prop} {s : Shared}
end
end VS

set_option Elab.async false
set_option linter.all false
set_option maxRecDepth 100000
set_option maxHeartbeats 4000000
set_option autoImplicit false
/-! VR: zip and enumerate over data, sorted(set(..)), stars, str.index, len(range(..)), constants of the module. -/
namespace VS
open PySem PySem.Spec PyProof.Rows L2
section
variable {X : Cx} {T : Tab} {E : XK} {a b c e o i value tg : Expr} {es : List Expr} {ta tb tc te to ti tv : TEv} {tr : TAv} {pos pos' apos cpos p p2 p3 : Pos}
/-! ### what zip and enumerate walk -/
def itemsD : F → Option (List F)
  | .lst xs => some xs
  | .tup xs => some xs
  | .str s => some (s.map fun c => .str [c])
  | _ => none
theorem rep_signs {K : PySem.W.Frag} {Z : Hp} : ∀ s : List Nat, RepFs K T Z ((S s).cps.toList.map fun c => V.str ⟨#[c]⟩) (s.map fun c => .str [c]) := by
  intro s
  show RepFs K T Z (s.toArray.toList.map fun c => V.str ⟨#[c]⟩) (s.map fun c => .str [c])
  rw [List.toList_toArray]
  induction s with
  | nil => exact .nil
  | cons c r ih => exact .cons (.str [c]) ih
theorem sk_of {K : PySem.W.Frag} {Z : Hp} {v : V} {x : F} {xs : List F} (r : RepF K T Z v x) (h : itemsD x = some xs) : ∃ k vs, v = Sk.val k ∧ (∀ H', Same Z H' → k.At K H' vs) ∧ RepFs K T Z vs xs := by
  cases r with
  | lst e r => cases h; exact ⟨.lst _, _, rfl, fun H' s => SqL.of (s _ _ e), r⟩
  | tup e r => cases h; exact ⟨.tup _, _, rfl, fun H' s => same_sqt s e, r⟩
  | str s => cases h; exact ⟨.str (S s), _, rfl, fun H' _ => rfl, rep_signs s⟩
  | _ => cases h
def zipW (ws : List W) (st : Store) : Res (List W) := match ws with
  | [.f x, .f y] => (match itemsD x, itemsD y with
    | some xs, some ys => .ok ((xs.zip ys).map fun q => W.f (.tup [q.1, q.2])) st
    | _, _ => .stuck)
  | _ => .stuck
def iZip (t : TAv) : TIv := fun env st => (t env st).bind zipW
theorem walks_zip {K : PySem.W.Frag} {Z : Hp} {ι : List Addr} {k1 k2 : Sk} {vs us : List V} {xs ys : List F} (a1 : ∀ H', Same Z H' → k1.At K H' vs) (a2 : ∀ H', Same Z H' → k2.At K H' us) (r1 : RepFs K T Z vs xs) (r2 : RepFs K T Z us ys) :
    Walks K T Z ι (ItzG K k1 k2 vs.length us.length) ((xs.zip ys).map fun q => W.f (.tup [q.1, q.2])) := by
  intro i Z' ι' H' st' l s
  have sh : Same Z H' := l.z.trans s.sub
  refine ⟨fun w h => ?_, fun h => ?_⟩
  · rw [List.getElem?_map] at h
    obtain ⟨⟨x, y⟩, hq, rfl⟩ := opt_map_some h
    obtain ⟨hx, hy⟩ := List.getElem?_zip_eq_some.mp hq
    obtain ⟨v, hv, rv⟩ := r1.get hx
    obtain ⟨u, hu, ru⟩ := r2.get hy
    refine ⟨⟨vs, us, v, u, a1 H' sh, a2 H' sh, rfl, rfl, hv, hu⟩, fun z H2 hz => ?_⟩
    obtain ⟨t, x', y', rfl, hn, rfl, h1, h2⟩ := hz
    have e1 := h1 vs (a1 H' sh)
    have e2 := h2 us (a2 H' sh)
    rw [hv] at e1; rw [hu] at e2
    cases e1; cases e2
    have hs := same_new (o := .tup [v, u]) (free_sub s.sub hn)
    exact ⟨_, Grow.laid s.sub hn, .f (.tup (SqT.of upd_same) (.cons ((rv.mono l.z).mono hs) (.cons ((ru.mono l.z).mono hs) .nil)))⟩
  · have hl := List.getElem?_eq_none_iff.mp h
    rw [List.length_map, List.length_zip] at hl
    exact ⟨vs, us, a1 H' sh, a2 H' sh, rfl, rfl, by rw [r1.length, r2.length]; omega⟩
theorem vi_zip {elts : List Expr} {kk : Nat} {e2 : Expr} {tpos : Pos} (hg : Gl X "zip") (hm : X.mg "zip" = none) (ha : VA X T E [e, e2] tr)
    (hs : starEach [e, e2] X.env = (false, eval e X.env) :: starEach [e2] X.env := by rfl) (hpl : (backTo pos (starEach [e2] X.env)).any (·.1) = false := by rfl) :
    VI X T E (.Tuple elts kk tpos) (.Call (.Name "zip" p) [e, e2] [] pos) (iZip tr) := pi_weak (pi_zipG hg hm ha hs hpl) fun σ H R h => by
  obtain ⟨Z, ι, env, st, s, re, p⟩ := h
  refine ⟨Z, ι, env, st, s, re, (Post.bind p).imp fun ws st1 H1 Z1 ι1 l1 s1 p1 vs rvs => ?_⟩
  cases rvs with
  | nil => exact p1.elim
  | cons rx rt =>
    cases rt with
    | nil => cases rx <;> exact p1.elim
    | cons ry rt =>
      cases rt with
      | cons _ _ => cases rx <;> cases ry <;> exact p1.elim
      | nil =>
        cases rx with
        | loc _ => exact p1.elim
        | f rx =>
          cases ry with
          | loc _ => exact p1.elim
          | f ry =>
            rename_i v u x y
            unfold zipW at p1
            cases q1 : itemsD x with
            | none => simp only [q1] at p1; exact p1.elim
            | some xs =>
              cases q2 : itemsD y with
              | none => simp only [q1, q2] at p1; exact p1.elim
              | some ys =>
                simp only [q1, q2] at p1
                obtain ⟨k1, vs1, rfl, a1, r1⟩ := sk_of rx q1
                obtain ⟨k2, vs2, rfl, a2, r2⟩ := sk_of ry q2
                exact ⟨k1, k2, vs1, vs2, rfl, a1 _ s1.sub, a2 _ s1.sub, p1 H1 Z1 ι1 Le.refl s1 _ (walks_zip a1 a2 r1 r2)⟩
def enumL : Nat → List F → List F
  | _, [] => []
  | n, x :: xs => .tup [.int (n : Int), x] :: enumL (n + 1) xs
theorem enumL_get : ∀ (xs : List F) (n i : Nat), (enumL n xs)[i]? = (xs[i]?).map fun x => .tup [.int ((n + i : Nat) : Int), x]
  | [], n, i => by simp [enumL]
  | x :: xs, n, 0 => by simp [enumL]
  | x :: xs, n, i + 1 => by
    simp only [enumL, List.getElem?_cons_succ]
    rw [enumL_get xs (n + 1) i, show n + 1 + i = n + (i + 1) from by omega]
def enumW (ws : List W) (st : Store) : Res (List W) := match ws with
  | [.f x] => (match itemsD x with
    | some xs => .ok ((enumL 0 xs).map W.f) st
    | _ => .stuck)
  | _ => .stuck
def iEnum (t : TAv) : TIv := fun env st => (t env st).bind enumW
theorem walks_enum {K : PySem.W.Frag} {Z : Hp} {ι : List Addr} {k1 : Sk} {vs : List V} {xs : List F} (a1 : ∀ H', Same Z H' → k1.At K H' vs) (r1 : RepFs K T Z vs xs) :
    Walks K T Z ι (IteG K k1 vs.length) ((enumL 0 xs).map W.f) := by
  intro i Z' ι' H' st' l s
  have sh : Same Z H' := l.z.trans s.sub
  refine ⟨fun w h => ?_, fun h => ?_⟩
  · rw [List.getElem?_map, enumL_get] at h
    obtain ⟨q, hq, rfl⟩ := opt_map_some h
    obtain ⟨x, hx, rfl⟩ := opt_map_some hq
    obtain ⟨v, hv, rv⟩ := r1.get hx
    refine ⟨⟨vs, v, a1 H' sh, rfl, hv⟩, fun z H2 hz => ?_⟩
    obtain ⟨t, x', rfl, hn, rfl, h1⟩ := hz
    have e1 := h1 vs (a1 H' sh)
    rw [hv] at e1
    cases e1
    have hs := same_new (o := .tup [.int (i : Nat), v]) (free_sub s.sub hn)
    refine ⟨_, Grow.laid s.sub hn, .f (.tup (SqT.of upd_same) (.cons ?_ (.cons ((rv.mono l.z).mono hs) .nil)))⟩
    rw [Nat.zero_add]
    exact .int _
  · have hl := List.getElem?_eq_none_iff.mp h
    have : xs.length ≤ i := by
      rw [List.length_map] at hl
      have h2 : (enumL 0 xs)[i]? = none := List.getElem?_eq_none_iff.mpr hl
      rw [enumL_get] at h2
      cases q : xs[i]? with
      | none => exact List.getElem?_eq_none_iff.mp q
      | some x => rw [q] at h2; cases h2
    exact ⟨vs, a1 H' sh, rfl, by rw [r1.length]; exact this⟩
theorem vi_enum {elts : List Expr} {kk : Nat} {tpos : Pos} (hg : Gl X "enumerate") (hm : X.mg "enumerate" = none) (ha : VA X T E [e] tr) (hs : starEach [e] X.env = [(false, eval e X.env)] := by rfl) :
    VI X T E (.Tuple elts kk tpos) (.Call (.Name "enumerate" p) [e] [] pos) (iEnum tr) := pi_weak (pi_enumG hg hm ha hs) fun σ H R h => by
  obtain ⟨Z, ι, env, st, s, re, p⟩ := h
  refine ⟨Z, ι, env, st, s, re, (Post.bind p).imp fun ws st1 H1 Z1 ι1 l1 s1 p1 vs rvs => ?_⟩
  cases rvs with
  | nil => exact p1.elim
  | cons rx rt =>
    cases rt with
    | cons _ _ => cases rx <;> exact p1.elim
    | nil =>
      cases rx with
      | loc _ => exact p1.elim
      | f rx =>
        rename_i v x
        unfold enumW at p1
        cases q1 : itemsD x with
        | none => simp only [q1] at p1; exact p1.elim
        | some xs =>
          simp only [q1] at p1
          obtain ⟨k1, vs1, rfl, a1, r1⟩ := sk_of rx q1
          exact ⟨k1, vs1, rfl, a1 _ s1.sub, p1 H1 Z1 ι1 Le.refl s1 _ (walks_enum a1 r1)⟩
/-! ### sorted(set(xs)) -/
/-! ### stars -/
/-! ### str.index -/
def sidxF : F → List F → Option F
  | .str a, [.str b] => (match Builtin.Str.occurrences (S a) (S b) 0 (S a).length 1 with
    | i :: _ => some (.int (i : Nat))
    | [] => none)
  | _, _ => none
/-! ### len(range(n)) -/
/-! ### constants of the module -/
/-! ### += -/
/-- any block, where it is never reached -/
def bStuck : TSv := fun _ _ => .stuck
theorem vb_stuck {body : List Stmt} : VB X T E body bStuck := ⟨fun pins s σ H Q I q => by
  obtain ⟨Z, ι, env, st, _, _, p⟩ := q
  exact p.elim⟩
end
end VS

set_option Elab.async false
set_option linter.all false
set_option maxRecDepth 100000
set_option maxHeartbeats 4000000
set_option autoImplicit false
namespace VS
open PySem PySem.Spec PyProof.Rows L2
@[irreducible] def fuel : Nat := 10 ^ 40
theorem Fn.full {P : Program} {w : World} {K : PySem.W.Frag} {mg : Str → Option Value} {base : Heap} {T : Tab} {CX : CXT} {k : Nat} {f : Addr} {fd : FuncData} {ps : List Str} {m : FnM} {ds : List Value} {dvs : List V} (F : FnOk P w K mg base CX k f fd ps (spM K T m)) (b : Binds K fd ps ds) (v : Vals dvs ds) (kp : PySem.W.keepIn K (.ref f) = true) (hd : dvs = [] := by rfl) :
    Fn P w K mg base T CX k f m := by
  subst hd
  cases v
  exact ⟨⟨fd, ps, [], [], [], m, F, b, .nil, fun _ => .nil, by simp⟩, kp⟩
end VS

set_option Elab.async false
set_option linter.all false
set_option maxRecDepth 100000
set_option maxHeartbeats 4000000
set_option autoImplicit false
/-! VY: what the head must have left, as one Bool; the law's own call. -/
namespace VS
open PySem PySem.Spec PyProof.Rows L2
/-! ### the table of classes -/
def clsB (K : PySem.W.Frag) (C : Addr) : Bool := PySem.W.plainGet K C Str.empty && (PySem.W.hasDictIn K C && (PySem.W.plainOver K C && He.eqO (PySem.W.findIn K (.ref C) "__setattr__") (some (some (.builtin "object.__setattr__")))))
theorem clsB_ok {K : PySem.W.Frag} {C : Addr} (c : clsB K C = true) : Cls K C := by
  obtain ⟨c1, c⟩ := He.ba c
  obtain ⟨c2, c⟩ := He.ba c
  obtain ⟨c3, c4⟩ := He.ba c
  exact ⟨c1, c2, c3, He.eqO_ok c4⟩
def tabB (K : PySem.W.Frag) (T : Tab) : Bool := (List.range T.cls.length).all fun c => clsB K (T.ca K c) && (List.range T.fld.length).all fun i => !T.okf c i || He.eqO (PySem.W.findIn K (.ref (T.ca K c)) (T.fn i)) (some none)
theorem some_lt {α : Type} {l : List α} {c : Nat} (h : (l[c]?).isSome = true) : c < l.length := by
  rcases Nat.lt_or_ge c l.length with q | q
  · exact q
  · rw [List.getElem?_eq_none q] at h; cases h
theorem okf_cls {T : Tab} {c i : Nat} (h : T.okf c i = true) : c < T.cls.length := by
  unfold Tab.okf at h
  cases q : T.cls[c]? with
  | none => rw [q] at h; cases h
  | some x => exact some_lt (by rw [q]; rfl)
theorem tabB_ok {K : PySem.W.Frag} {T : Tab} (hn : T.fld.Nodup) (h : tabB K T = true) : TabOk K T := by
  have h' := List.all_eq_true.mp h
  refine ⟨hn, fun c hc => ?_, fun c i hi => ?_⟩
  · exact clsB_ok (He.ba (h' c (List.mem_range.mpr (some_lt hc)))).1
  · have h2 := List.all_eq_true.mp (He.ba (h' c (List.mem_range.mpr (okf_cls hi)))).2 i (List.mem_range.mpr (okf_lt hi))
    rw [hi] at h2
    exact He.eqO_ok (by simpa using h2)
/-! ### isinstance -/
def isiAll (K : PySem.W.Frag) (T : Tab) (t : Ty) : Bool := ([Tg.bl, .int, .str, .tup, .lst, .dct].all fun g => decide (PySem.W.kitOne K (tyVal K T t) (tgVal K T g) = some (isT g t))) && (List.range T.cls.length).all fun c => decide (PySem.W.kitOne K (tyVal K T t) (tgVal K T (.own c)) = some (isT (.own c) t))
def isiB (K : PySem.W.Frag) (T : Tab) : Bool := ([Ty.non, .bl, .int, .str, .tup, .lst, .dct].all fun t => isiAll K T t) && (List.range T.cls.length).all fun c => insB K (T.ca K c) && isiAll K T (.own c)
theorem isiB_ok {K : PySem.W.Frag} {T : Tab} (h : isiB K T = true) : IsiOk K T := by
  obtain ⟨h1, h2⟩ := He.ba h
  have h1' := List.all_eq_true.mp h1
  have h2' := List.all_eq_true.mp h2
  have each : ∀ t g, isiAll K T t = true → (∀ c, g = .own c → (T.cls[c]?).isSome = true) → PySem.W.kitOne K (tyVal K T t) (tgVal K T g) = some (isT g t) := by
    intro t g ht hg
    obtain ⟨a, b⟩ := He.ba ht
    have a' := List.all_eq_true.mp a
    have b' := List.all_eq_true.mp b
    cases g with
    | own c => exact of_decide_eq_true (b' c (List.mem_range.mpr (some_lt (hg c rfl))))
    | _ => exact of_decide_eq_true (a' _ (by simp))
  refine ⟨fun c hc => (He.ba (h2' c (List.mem_range.mpr (some_lt hc)))).1, fun t g ht hg => ?_⟩
  cases t with
  | own c => exact each _ g (He.ba (h2' c (List.mem_range.mpr (some_lt (ht c rfl))))).2 hg
  | _ => exact each _ g (h1' _ (by simp)) hg
/-! ### the Hook: the defs, the facts by names, one Bool more -/
def SaysX (ex : PySem.W.Frag → Bool) (fa : List He.Fa) (fn : List He.DefD) (K : PySem.W.Frag) : Prop := He.SaysD fa fn K ∧ ex K = true
/-- the heap without the tables of code objects -/
def noTab (H : Hp) : Hp := fun b => match H b with
  | some (.tbl _) => none
  | o => o
theorem noTab_sub (H : Hp) : Same (noTab H) H := fun b o e => by
  unfold noTab at e
  cases q : H b with
  | none => rw [q] at e; cases e
  | some u => rw [q] at e; cases u <;> first | exact e | cases e
theorem noTab_at {H : Hp} {b : Addr} {o : HO} (h : H b = some o) (ht : ∀ ps, o ≠ .tbl ps) : noTab H b = some o := by
  unfold noTab
  rw [h]
  cases o <;> first | rfl | exact absurd rfl (ht _)
theorem noTab_tbl {H : Hp} {b : Addr} {ps : Array Value} : noTab H b ≠ some (.tbl ps) := fun e => by
  have h := noTab_sub H b _ e
  unfold noTab at e
  rw [h] at e
  cases e
theorem noTab_sq {K : PySem.W.Frag} {H : Hp} {a : Addr} {vs : List V} (h : SqL K H a vs) : SqL K (noTab H) a vs := by
  rcases h with (h | ⟨o, h⟩) | h
  · exact .inl (.inl (noTab_at h fun _ => nofun))
  · exact .inl (.inr ⟨o, noTab_at h fun _ => nofun⟩)
  · exact .inr h
/-- the law's promise from its mirror -/
theorem sp_lawT {K : PySem.W.Frag} {T : Tab} {m : FnM} (hm : ∀ ns : List Int, ns.length ≤ 63 → ∃ st, m [.f (.scr ns)] [] = .ok (.f (.bl true)) st) {H : Hp} {a : Addr} {ns : List Int} (hl : ns.length ≤ 63) (hS : SqL K H a (ns.map V.int)) (hT : ∀ p ∈ T.tbs K, LamX.TabS H p.1 p.2) :
    spM K T m [.ref a] H (fun v _ => v = .bl true) fun _ _ _ => False := by
  obtain ⟨st, e⟩ := hm ns hl
  refine ⟨noTab H, [], [.f (.scr ns)], [], ⟨noTab_sub H, rfl, .nil, fun n a c h => by simp at h, fun a h => (by cases h), ⟨fun _ _ => noTab_tbl, fun a h => (by cases h), fun p hp => ⟨?_, hT p hp⟩⟩⟩, .cons (.f (.scr (noTab_sq hS))) .nil, ?_⟩
  · obtain ⟨ps, e, _⟩ := hT p hp
    unfold noTab
    rw [e]
  · rw [e]
    intro H' Z' ι' _ _ v rv
    cases rv with
    | f r => cases r; rfl
theorem sp_law {K : PySem.W.Frag} {T : Tab} {m : FnM} (hm : ∀ ns : List Int, ns.length ≤ 63 → ∃ st, m [.f (.scr ns)] [] = .ok (.f (.bl true)) st) {H : Hp} {a : Addr} {ns : List Int} (hl : ns.length ≤ 63) (hS : SqL K H a (ns.map V.int)) (h0 : T.mks = [] := by rfl) :
    spM K T m [.ref a] H (fun v _ => v = .bl true) fun _ _ _ => False := sp_lawT hm hl hS fun p hp => by
  unfold Tab.tbs at hp
  rw [h0] at hp
  cases hp
end VS

set_option Elab.async false
set_option linter.all false
set_option maxRecDepth 100000
set_option maxHeartbeats 4000000
set_option autoImplicit false
/-! VZ: operators with an own object to the right. -/
namespace PySem.W
open PySem PySem.Calls PyProof.Rows
section
variable {prog : Program} {w : World} {M : Model} {A : Around} {E : Value → Shared → Prop} {s : Shared} {K : Frag} {x C L f f0 : Addr} {h₀ : Heap} {m : Str → Option Value} {ox : Obj} {od : Option Obj} {nm T : String}
end
end PySem.W
namespace VS
open PySem PySem.Spec PyProof.Rows L2
/-- what a class and a type must be for an operator that the right side answers -/
structure BinR (K : PySem.W.Frag) (C : Addr) (nm : String) (Ty : String) : Prop where
  hs : ∃ f0, PySem.W.findIn K (.ref C) (PySem.dunder nm) = some (some (.ref f0))
  ex : ∃ fo ro, PySem.W.findIn K (.type Ty) (PySem.dunder nm) = some fo ∧ PySem.W.findIn K (.type Ty) (PySem.dunderR nm) = some ro ∧ ((fo.isSome && !isSeqSlot fo) || (ro.isSome && !isSeqSlot ro)) = false
section
variable {X : Cx} {T : Tab} {E : XK} {a b e : Expr} {ta tb te : TEv} {pos : Pos} {CX : CXT} {k c : Nat} {g : Addr} {m : FnM} {C : Addr} {sp : Sp}
end
end VS

set_option Elab.async false
set_option linter.all false
set_option maxRecDepth 100000
set_option maxHeartbeats 4000000
set_option autoImplicit false
/-! WA: dicts. -/
namespace VS
open PySem PySem.Spec PyProof.Rows L2

theorem hu1 {n : Nat} (h : n + 64 < cLine) : n + 1 < cLine := Nat.lt_of_le_of_lt (Nat.add_le_add_left (by decide) n) h
/-! ### tables -/
def keyEq (x y : F) : Bool := match keyF x, keyF y with
  | some a, some b => decide (a = b)
  | _, _ => false
def lookF (kfs : List (F × F)) (y : F) : Option F := (kfs.find? fun p => keyEq p.1 y).map (·.2)
def putDF (kfs : List (F × F)) (y x : F) : List (F × F) :=
  if (kfs.any fun p => keyEq p.1 y) = true then kfs.map (fun p => if keyEq p.1 y = true then (p.1, x) else p) else kfs ++ [(y, x)]
def mergeF (kfs more : List (F × F)) : List (F × F) := more.foldl (fun acc p => putDF acc p.1 p.2) kfs
section
variable {K : PySem.W.Frag} {T : Tab} {Z : Hp}
theorem keyEq_of {x y : F} {a b : Key} (hx : keyF x = some a) (hy : keyF y = some b) : keyEq x y = decide (a = b) := by
  unfold keyEq; rw [hx, hy]
theorem RepFk.val {y : F} {k : Key} (hy : keyF y = some k) : ∀ {kvs : List (Key × V)} {kfs : List (F × F)}, RepFk K T Z kvs kfs →
    (∃ v x, valV kvs k = some v ∧ lookF kfs y = some x ∧ RepF K T Z v x) ∨ (valV kvs k = none ∧ lookF kfs y = none)
  | _, _, .nil => .inr ⟨rfl, rfl⟩
  | _, _, .cons (k := k') (v := v') (y := y') (x := x') (vs := vs) (xs := xs) h r t => by
    have e := keyEq_of h hy
    by_cases hk : k' = k
    · refine .inl ⟨v', x', valV_pos hk, ?_, r⟩
      unfold lookF
      rw [List.find?_cons_of_pos (by rw [e]; exact decide_eq_true hk)]
      rfl
    · have e1 : lookF ((y', x') :: xs) y = lookF xs y := by
        unfold lookF
        rw [List.find?_cons_of_neg (by rw [e]; simp [hk])]
      rw [valV_neg (p := (k', v')) hk, e1]
      exact RepFk.val hy t
theorem RepFk.any {y : F} {k : Key} (hy : keyF y = some k) : ∀ {kvs : List (Key × V)} {kfs : List (F × F)}, RepFk K T Z kvs kfs →
    (kvs.any fun kv => decide (kv.1 = k)) = kfs.any fun p => keyEq p.1 y
  | _, _, .nil => rfl
  | _, _, .cons h r t => by rw [List.any_cons, List.any_cons, RepFk.any hy t, keyEq_of h hy]
theorem RepFk.repl {y x : F} {k : Key} {v : V} (hy : keyF y = some k) (rx : RepF K T Z v x) : ∀ {kvs : List (Key × V)} {kfs : List (F × F)}, RepFk K T Z kvs kfs →
    RepFk K T Z (kvs.map fun kv => if kv.1 = k then (kv.1, v) else kv) (kfs.map fun p => if keyEq p.1 y = true then (p.1, x) else p)
  | _, _, .nil => .nil
  | _, _, .cons (k := k') h r t => by
    rw [List.map_cons, List.map_cons]
    have e := keyEq_of h hy
    by_cases hk : k' = k
    · rw [if_pos hk, if_pos (by rw [e]; exact decide_eq_true hk)]
      exact .cons h rx (RepFk.repl hy rx t)
    · rw [if_neg hk, if_neg (by rw [e]; simp [hk])]
      exact .cons h r (RepFk.repl hy rx t)
theorem RepFk.append : ∀ {vs ws : List (Key × V)} {xs ys : List (F × F)}, RepFk K T Z vs xs → RepFk K T Z ws ys → RepFk K T Z (vs ++ ws) (xs ++ ys)
  | _, _, _, _, .nil, s => s
  | _, _, _, _, .cons h r t, s => .cons h r (RepFk.append t s)
theorem RepFk.put {y x : F} {k : Key} {v : V} {kvs : List (Key × V)} {kfs : List (F × F)} (h : RepFk K T Z kvs kfs) (hy : keyF y = some k) (rx : RepF K T Z v x) : RepFk K T Z (putK kvs k v) (putDF kfs y x) := by
  unfold putK putDF
  rw [h.any hy]
  by_cases q : (kfs.any fun p => keyEq p.1 y) = true
  · rw [if_pos q, if_pos q]; exact h.repl hy rx
  · rw [if_neg q, if_neg q]; exact h.append (.cons hy rx .nil)
theorem RepFk.merge : ∀ {ms : List (Key × V)} {xs : List (F × F)} {kvs : List (Key × V)} {kfs : List (F × F)}, RepFk K T Z ms xs → RepFk K T Z kvs kfs → RepFk K T Z (mergeK kvs ms) (mergeF kfs xs)
  | _, _, _, _, .nil, h => h
  | _, _, _, _, .cons (k := k') (v := v') (y := y') (x := x') (vs := ms) (xs := xs) k r t, h => by
    have := RepFk.merge (ms := ms) (xs := xs) t (h.put k r)
    exact this
theorem rep_key {y : F} {k : Key} {v : V} (h : keyF y = some k) (r : RepF K T Z v y) : v = kV k := by
  cases r with
  | int i => cases h; rfl
  | str s => cases h; rfl
  | _ => cases h
end

/-! ### displays -/
def pairsV : List (TEv × TEv) → Env → Store → Res (List (W × W))
  | [], _, st => .ok [] st
  | (tk, tv) :: r, env, st => (tk env st).bind fun x st1 => (tv env st1).bind fun y st2 => (pairsV r env st2).bind fun ps st3 => .ok ((x, y) :: ps) st3
def RepPs (K : PySem.W.Frag) (T : Tab) (Z : Hp) (ι : List Addr) (qs : List (V × V)) (ps : List (W × W)) : Prop := RepWs K T Z ι (qs.map (·.1)) (ps.map (·.1)) ∧ RepWs K T Z ι (qs.map (·.2)) (ps.map (·.2))
theorem rd_pairs {K : PySem.W.Frag} {T : Tab} {E : XK} : ∀ (ts : List (TEv × TEv)) {σ : L2.St} {H : Hp} {Q : List (V × V) → Hp → Prop} {Z : Hp} {ι : List Addr} {env : Env} {st : Store}, SimS K T Z ι st H → EnvR K T Z ι σ env →
    Post K T E Z ι (pairsV ts env st) (fun ps _ H' Z' ι' => ∀ qs, RepPs K T Z' ι' qs ps → Q qs H') → tPairs (ts.map fun t => (RdE K T E t.1, RdE K T E t.2)) σ H Q
  | [], σ, H, Q, Z, ι, env, st, s, re, p => p H Z ι Le.refl s [] ⟨.nil, .nil⟩
  | (tk, tv) :: r, σ, H, Q, Z, ι, env, st, s, re, p =>
    ⟨Z, ι, env, st, s, re, (Post.bind p).imp fun x st1 H1 Z1 ι1 l1 s1 p1 vx rx => ⟨Z1, ι1, env, st1, s1, re.mono l1, (Post.bind p1).imp fun y st2 H2 Z2 ι2 l2 s2 p2 vy ry =>
      rd_pairs r s2 ((re.mono l1).mono l2) ((Post.bind p2).imp fun ps st3 H3 Z3 ι3 l3 s3 p3 qs rps => p3 H3 Z3 ι3 Le.refl s3 _ ⟨.cons ((rx.mono l2).mono l3) rps.1, .cons (ry.mono l3) rps.2⟩)⟩⟩
def pairsF : List (W × W) → Option (List (F × F))
  | [] => some []
  | (.f y, .f x) :: r => if (keyF y).isSome = true then (pairsF r).map ((y, x) :: ·) else none
  | _ :: _ => none
theorem pairsF_ok {K : PySem.W.Frag} {T : Tab} {Z : Hp} {ι : List Addr} : ∀ {qs : List (V × V)} {ps : List (W × W)} {fs : List (F × F)}, RepPs K T Z ι qs ps → pairsF ps = some fs → ∃ kvs : List (Key × V), qs = kvs.map (fun kv => (kV kv.1, kv.2)) ∧ RepFk K T Z kvs fs
  | [], [], fs, _, h => by cases h; exact ⟨[], rfl, .nil⟩
  | [], _ :: _, _, r, _ => by exact nomatch r.1
  | _ :: _, [], _, r, _ => by exact nomatch r.1
  | (v, u) :: qs, (x, y) :: ps, fs, r, h => by
    obtain ⟨r1, r2⟩ := r
    cases r1 with
    | cons rv t1 =>
    cases r2 with
    | cons ru t2 =>
    cases x with
    | loc n => cases h
    | f x =>
    cases y with
    | loc n => cases h
    | f y =>
    have h : (if (keyF x).isSome = true then (pairsF ps).map ((x, y) :: ·) else none) = some fs := h
    cases hk : keyF x with
    | none => rw [hk] at h; cases h
    | some k =>
      rw [hk] at h
      cases q : pairsF ps with
      | none => rw [q] at h; cases h
      | some gs =>
        rw [q] at h
        cases h
        obtain ⟨kvs, e, rk⟩ := pairsF_ok (qs := qs) (ps := ps) ⟨t1, t2⟩ q
        cases rv with
        | f rv =>
        cases ru with
        | f ru =>
        refine ⟨(k, u) :: kvs, ?_, .cons hk ru rk⟩
        rw [List.map_cons, ← e, ← rep_key hk rv]
def isEmptyD : Option Cell → Bool
  | some (.dct []) => true
  | _ => false
def fewP (n : Nat) : Bool := decide (n ≤ 15)
/-- {k: v, ..} as a cell -/
def eDisp (ts : List (TEv × TEv)) : TEv := fun env st => (pairsV ts env (st ++ [.dct []])).bind fun ps st1 => match pairsF ps with
  | some fs => if isEmptyD st1[st.length]? = true then (if fewP fs.length = true then .ok (.loc st.length) (st1.set st.length (.dct (mergeF [] fs))) else .stuck) else .stuck
  | none => .stuck
theorem RepFk.length' {K : PySem.W.Frag} {T : Tab} {Z : Hp} : ∀ {vs : List (Key × V)} {xs : List (F × F)}, RepFk K T Z vs xs → vs.length = xs.length
  | _, _, .nil => rfl
  | _, _, .cons _ _ t => by rw [List.length_cons, List.length_cons, RepFk.length' t]
section
variable {X : Cx} {T : Tab} {E : XK} {o e f i value : Expr} {to te tf ti tv : TEv} {pos pos' apos cpos : Pos} {ts : List (TEv × TEv)} {keys : List (Option Expr)} {values : List Expr}
abbrev VPs (X : Cx) (T : Tab) (E : XK) (pos : Pos) (keys : List (Option Expr)) (values : List Expr) (ts : List (TEv × TEv)) : Prop := PPs X pos keys values (ts.map fun t => (RdE X.K T E t.1, RdE X.K T E t.2))
theorem vps_nil : VPs X T E pos [] [] [] := pps_nil
theorem vps_cons {k v : Expr} {tk tv : TEv} (hk : VE X T E k tk) (hv : VE X T E v tv) (hr : VPs X T E pos keys values ts) : VPs X T E pos (some k :: keys) (v :: values) ((tk, tv) :: ts) := pps_cons hk hv hr
theorem ve_disp (h : VPs X T E pos keys values ts) (hall : keys.all (·.isSome) = true := by rfl) (hl : keys.length = values.length := by rfl) (h0 : keys ≠ [] := by simp) (h15 : keys.length ≤ 15 := by decide) : VE X T E (.Dict keys values pos) (eDisp ts) :=
  pe_weak (pe_disp h hall hl h0 h15) fun σ H Q q => by
    obtain ⟨Z, ι, env, st, s, re, p⟩ := q
    intro a ha
    have hz := free_sub s.sub ha
    have s2 := s.alloc (c := .dct []) (o := .dK []) ha ⟨hz, [], upd_same, .nil⟩
    have la : Le Z ι Z (ι ++ [a]) := Le.alloc
    refine rd_pairs ts s2 (re.mono la) (((Post.bind p).le la).imp fun ps st1 H1 Z1 ι1 l1 s1 p1 qs rps => ?_)
    have ea : ι1[st.length]? = some a := l1.i _ _ (by rw [← s.len]; exact last_get _ _)
    cases q : pairsF ps with
    | none => simp only [q] at p1; exact p1.elim
    | some fs =>
      simp only [q] at p1
      by_cases hd : isEmptyD st1[st.length]? = true
      · rw [if_pos hd] at p1
        by_cases hf : fewP fs.length = true
        · rw [if_pos hf] at p1
          obtain ⟨kvs, e, rk⟩ := pairsF_ok rps q
          have hc : st1[st.length]? = some (.dct []) := by
            cases q2 : st1[st.length]? with
            | none => rw [q2] at hd; cases hd
            | some c =>
              rw [q2] at hd
              cases c with
              | dct l => cases l with
                | nil => rfl
                | cons _ _ => cases hd
              | _ => cases hd
          obtain ⟨hz1, kv0, e0, r0⟩ := s1.cell _ _ _ ea hc
          cases r0
          refine ⟨e0, kvs, e, by rw [rk.length']; exact of_decide_eq_true hf, ?_⟩
          exact p1 _ Z1 ι1 Le.refl (s1.write ea hz1 ⟨hz1, _, upd_same, rk.merge .nil⟩) _ (.loc ea)
        · rw [if_neg hf] at p1; exact p1.elim
      · rw [if_neg hd] at p1; exact p1.elim
/-! ### asked -/
def gDGet : F → F → Option F
  | .dct kfs, y => lookF kfs y
  | _, _ => none
theorem lookF_key {kfs : List (F × F)} {y x : F} (h : lookF kfs y = some x) : ∃ k, keyF y = some k := by
  unfold lookF at h
  cases q : kfs.find? fun p => keyEq p.1 y with
  | none => rw [q] at h; cases h
  | some p =>
    have e := List.find?_some q
    unfold keyEq at e
    cases q1 : keyF y with
    | none => rw [q1] at e; cases q2 : keyF p.1 <;> rw [q2] at e <;> cases e
    | some k => exact ⟨k, rfl⟩
theorem View.key {K : PySem.W.Frag} {Z H : Hp} {v : V} {y : F} {k : Key} (h : View K T Z H v y) (e : keyF y = some k) : v = kV k := by
  cases h with
  | f r => exact rep_key e r
  | lst _ _ => cases e
  | dct _ _ => cases e
theorem op_dget : Op2 X T (fun x y H Q => ∃ a v, x = .ref a ∧ DGet H a y (some v) ∧ Q v H) gDGet := by
  intro Z H x y fx fy z Q s vx vy g gv
  cases fx with
  | dct kfs =>
    have g : lookF kfs fy = some z := g
    obtain ⟨k, hk⟩ := lookF_key g
    obtain ⟨a, vs, rfl, ea, rk⟩ := vx.dct' s
    rcases rk.val hk with ⟨v, x, e1, e2, r⟩ | ⟨e1, e2⟩
    · rw [g] at e2; cases e2
      exact ⟨a, v, rfl, .inl ⟨vs, k, .inl ea, vy.key hk, e1.symm⟩, gv.here s r⟩
    · rw [g] at e2; cases e2
  | _ => cases g
theorem ve_dget (hu : X.A.units + 1 < cLine) (ho : VE X T E o to) (hi : VE X T E i ti) (hs : NoSl i) : VE X T E (.Subscript o i pos) (eOp2 gDGet to ti) :=
  pe_weak (pe_dget hu ho hi hs) fun _ _ _ h => rd_op2 op_dget h
end
end VS

set_option Elab.async false
set_option linter.all false
set_option maxRecDepth 100000
set_option maxHeartbeats 4000000
set_option autoImplicit false
/-! WB: int * own object. -/
namespace PySem
open Sem (wp)
open Builtin
end PySem
namespace PySem.W
open PySem PySem.Calls PyProof.Rows
section
variable {prog : Program} {w : World} {A : Around} {E : Value → Shared → Prop} {s : Shared} {K : Frag} {x C L f f0 dx : Addr} {h₀ : Heap} {m : Str → Option Value} {ox : Obj} {od : Option Obj}
end
end PySem.W

set_option Elab.async false
set_option linter.all false
set_option maxRecDepth 100000
set_option maxHeartbeats 4000000
set_option autoImplicit false
/-! WC: int * own object, the rule. -/
namespace VS
open PySem PySem.Spec PyProof.Rows L2
/-- what a class must be for int * object -/
structure MulR (K : PySem.W.Frag) (C : Addr) : Prop where
  hs : ∃ f0, PySem.W.findIn K (.ref C) (PySem.dunder "mul") = some (some (.ref f0))
  sub : PySem.W.subIn K (.ref C) (.type "int") = some false
section
variable {X : Cx} {T : Tab} {E : XK} {a b e : Expr} {ta tb te : TEv} {pos : Pos} {CX : CXT} {k c : Nat} {g : Addr} {m : FnM} {C : Addr} {sp : Sp}
end
end VS

set_option Elab.async false
set_option linter.all false
set_option maxRecDepth 100000
set_option maxHeartbeats 4000000
set_option autoImplicit false
/-! WD: own object != anything, by the class's __eq__. -/
namespace PySem.W
open PySem PySem.Calls PyProof.Rows
open Builtin
section
variable {prog : Program} {w : World} {A : Around} {E : Value → Shared → Prop} {s : Shared} {K : Frag} {x C L f : Addr} {h₀ : Heap} {m : Str → Option Value} {ox : Obj} {od : Option Obj} {b tb : Value}
end
end PySem.W
namespace VS
open PySem PySem.Spec PyProof.Rows L2
/-- what a class must be for object != anything -/
structure NeC (K : PySem.W.Frag) (C : Addr) : Prop where
  ne : PySem.W.findIn K (.ref C) "__ne__" = some (some (.builtin "object.__ne__"))
  mro : PySem.W.mroIn K C (.type "object") = some true
section
variable {X : Cx} {T : Tab} {E : XK} {a b e : Expr} {ta tb te : TEv} {pos : Pos} {CX : CXT} {k c : Nat} {g : Addr} {m : FnM} {C : Addr} {sp : Sp}
end
end VS
namespace VS
open PySem PySem.Spec PyProof.Rows L2
section
variable {X : Cx} {T : Tab} {E : XK} {pos : Pos}
end
end VS
namespace VS
open PySem PySem.Spec PyProof.Rows L2
section
variable {X : Cx} {T : Tab} {E : XK} {ss : List Stmt} {u : TSv} {i : Nat}
end
end VS

set_option Elab.async false
set_option linter.all false
set_option maxRecDepth 100000
set_option maxHeartbeats 4000000
set_option autoImplicit false
/-! WE: list(text), str(number), str(text). -/
namespace VS
open PySem PySem.Spec PyProof.Rows L2
section
variable {X : Cx} {T : Tab}
/-- how a number is written -/
def strI (i : Int) : List Nat := ((toString i : Str)).cps.toList
end
end VS

set_option Elab.async false
set_option linter.all false
set_option maxRecDepth 100000
set_option maxHeartbeats 4000000
set_option autoImplicit false
/-! WF: a def that is handed cells and only looks at them. -/
namespace VS
open PySem PySem.Spec PyProof.Rows L2
mutual
/-- data without lists, dicts and objects -/
def flat : F → Bool
  | .non => true
  | .bl _ => true
  | .int _ => true
  | .str _ => true
  | .tup xs => flats xs
  | _ => false
def flats : List F → Bool
  | [] => true
  | x :: xs => flat x && flats xs
end
def thaw (st : Store) : List W → Option (List F)
  | [] => some []
  | w :: ws => (deepF 0 st 3 w).bind fun x => (thaw st ws).map (x :: ·)
def borR (st : Store) : Res W → Res W
  | .ok (.f x) [] => if flat x = true then .ok (.f x) st else .stuck
  | .ok (.loc 0) [.lstF ys] => if flats ys = true then .ok (.loc st.length) (st ++ [.lstF ys]) else .stuck
  | _ => .stuck
def borO (m : FnM) (st : Store) : Option (List F) → Res W
  | some xs => borR st (m (xs.map W.f) [])
  | none => .stuck
/-- m, its arguments' cells being data for the time of the call -/
def bor (m : FnM) : FnM := fun ws st => borO m st (thaw st ws)
section
variable {P : Program} {w : World} {K : PySem.W.Frag} {mg : Str → Option Value} {base : Heap} {T : Tab} {f : Addr} {k : Nat}
mutual
theorem RepF.flat {Z Z' : Hp} (hz : ∀ a vs, SqT K Z a vs → SqT K Z' a vs) : ∀ {v : V} {x : F}, flat x = true → RepF K T Z v x → RepF K T Z' v x
  | _, _, _, .non => .non
  | _, _, _, .bl b => .bl b
  | _, _, _, .int i => .int i
  | _, _, _, .str s => .str s
  | _, _, h, .tup e r => .tup (hz _ _ e) (RepFs.flat hz (by unfold VS.flat at h; exact h) r)
  | _, _, h, .lst _ _ => by cases h
  | _, _, h, .dct _ _ => by cases h
  | _, _, h, .dlt _ _ => by cases h
  | _, _, h, .ktp _ _ => by cases h
  | _, _, h, .dlu _ _ => by cases h
  | _, _, h, .obj _ _ _ => by cases h
  | _, _, h, .scr _ => by cases h
theorem RepFs.flat {Z Z' : Hp} (hz : ∀ a vs, SqT K Z a vs → SqT K Z' a vs) : ∀ {vs : List V} {xs : List F}, flats xs = true → RepFs K T Z vs xs → RepFs K T Z' vs xs
  | _, _, _, .nil => .nil
  | _, _, h, .cons r t => by
    unfold flats at h
    rw [Bool.and_eq_true] at h
    exact .cons (RepF.flat hz h.1 r) (RepFs.flat hz h.2 t)
end
theorem thaw_ok {Z H : Hp} {ι : List Addr} {st : Store} (s : SimS K T Z ι st H) : ∀ {vs : List V} {ws : List W} {xs : List F}, RepWs K T Z ι vs ws → thaw st ws = some xs → RepFs K T (zAll Z H ι 0) vs xs
  | _, _, _, .nil, h => by cases h; exact .nil
  | _, _, _, .cons (x := u) (xs := us) r t, h => by
    have h : (deepF 0 st 3 u).bind (fun x => (thaw st us).map (x :: ·)) = some _ := h
    cases q : deepF 0 st 3 u with
    | none => rw [q] at h; cases h
    | some y =>
      cases q2 : thaw st us with
      | none => rw [q, q2] at h; cases h
      | some ys =>
        rw [q, q2] at h
        cases h
        exact .cons (deepF_ok s 0 3 r q) (thaw_ok s t q2)
/-- a live cell's address -/
def alive (ι : List Addr) (st : Store) (a : Addr) : Prop := ∃ (n : Nat) (c : Cell), ι[n]? = some a ∧ st[n]? = some c ∧ c ≠ .dead
open Classical in
/-- Z' without the live ones -/
noncomputable def zBut (ι : List Addr) (st : Store) (Z' : Hp) : Hp := fun a => if alive ι st a then none else Z' a
section
variable {Z H H' Z' : Hp} {ι ι' : List Addr} {st : Store}
theorem back (s : SimS K T Z ι st H) (l : Le (zAll Z H ι 0) [] Z' ι') (hs' : Same Z' H') (t : TabI K T Z' ι' H') :
    SimS K T (zBut ι st Z') ι st H' ∧ Le Z ι (zBut ι st Z') ι ∧ (∀ a vs, SqT K Z' a vs → SqT K (zBut ι st Z') a vs) ∧ ∀ a ∈ ι, ∃ o, Z' a = some o := by
  have hin : ∀ a ∈ ι, zAll Z H ι 0 a = H a := fun a ha => by
    unfold zAll
    rw [if_pos (by simpa using ha)]
  have hall : ∀ a ∈ ι, ∃ o, H a = some o ∧ Z' a = some o := fun a ha => by
    obtain ⟨o, eo⟩ := s.there a ha
    exact ⟨o, eo, l.z a o (by rw [hin a ha, eo])⟩
  have hnone : ∀ a, alive ι st a → Z a = none := fun a ⟨n, c, h1, h2, h3⟩ => by
    have k := s.cell n a c h1 h2
    cases c with
    | dead => exact absurd rfl h3
    | lstF xs => exact k.1
    | lstW xs => exact k.1
    | dct xs => exact k.1
    | dti xs => exact k.1
    | ins c fs => exact k.1
  have hz : Same Z (zBut ι st Z') := fun a o e => by
    unfold zBut
    rw [if_neg (fun q => by rw [hnone a q] at e; cases e)]
    exact l.z a o (zAll_same s 0 a o e)
  have sub : Same (zBut ι st Z') H' := fun a o e => by
    unfold zBut at e
    split at e
    · cases e
    · exact hs' a o e
  have le : Le Z ι (zBut ι st Z') ι := ⟨hz, fun _ _ h => h⟩
  refine ⟨⟨sub, s.len, s.nd, fun n a c h1 h2 => ?_, fun a ha => ?_, ⟨fun b ps e => ?_, fun a ha o e => ?_, fun p hp => ?_⟩⟩, le, fun a vs q => ?_, fun a ha => let ⟨o, _, e⟩ := hall a ha; ⟨o, e⟩⟩
  rotate_right 4
  · unfold zBut at e
    split at e
    · cases e
    · exact t.zt b ps e
  · obtain ⟨u, e1, e2⟩ := hall a ha
    have := hs' a u e2
    rw [e] at this
    cases this
    exact s.tab.ct a ha _ e1
  · obtain ⟨h1, h2⟩ := t.tb p hp
    refine ⟨?_, h2⟩
    unfold zBut
    split
    · rfl
    · exact h1
  rotate_left
  · have ha : a ∈ ι := List.mem_of_getElem? h1
    obtain ⟨o, e1, e2⟩ := hall a ha
    have e3 : H' a = H a := by rw [e1]; exact hs' a o e2
    have hno : c ≠ .dead → zBut ι st Z' a = none := fun hc => by unfold zBut; rw [if_pos ⟨n, c, h1, h2, hc⟩]
    have k := s.cell n a c h1 h2
    cases c with
    | dead => trivial
    | lstF xs => obtain ⟨_, vs, e, r⟩ := k; exact ⟨hno nofun, vs, e3.trans e, r.mono hz⟩
    | lstW xs => obtain ⟨_, vs, e, r⟩ := k; exact ⟨hno nofun, vs, e3.trans e, r.mono le⟩
    | dct xs => obtain ⟨_, vs, e, r⟩ := k; exact ⟨hno nofun, vs, e3.trans e, r.mono hz⟩
    | dti xs => obtain ⟨_, vs, e, r⟩ := k; exact ⟨hno nofun, vs, e3.trans e, r.mono hz⟩
    | ins c fs => obtain ⟨_, dx, fvs, e, hc, r⟩ := k; exact ⟨hno nofun, dx, fvs, e3.trans e, hc, r.mono le⟩
  · obtain ⟨o, e1, e2⟩ := hall a ha
    exact ⟨o, hs' a o e2⟩
  · have nt : ∀ o, Z' a = some o → (∀ c : Cell, c ≠ .dead → ∀ (n : Nat), ι[n]? = some a → st[n]? = some c → o ≠ o → False) → True := fun _ _ _ => trivial
    have key : ∀ o, Z' a = some o → (∀ us, o ≠ .lst us) → (∀ us, o ≠ .dK us) → (∀ x y z, o ≠ .ins x y z) → (∀ us, o ≠ .dT us) → zBut ι st Z' a = some o := fun o e n1 n2 n3 n4 => by
      unfold zBut
      rw [if_neg]
      · exact e
      · rintro ⟨n, c, h1, h2, h3⟩
        have ha : a ∈ ι := List.mem_of_getElem? h1
        obtain ⟨u, e1, e2⟩ := hall a ha
        rw [e] at e2
        cases e2
        have k := s.cell n a c h1 h2
        cases c with
        | dead => exact h3 rfl
        | lstF xs => obtain ⟨_, vs, e, _⟩ := k; rw [e1] at e; exact n1 _ (Option.some.inj e)
        | lstW xs => obtain ⟨_, vs, e, _⟩ := k; rw [e1] at e; exact n1 _ (Option.some.inj e)
        | dct xs => obtain ⟨_, vs, e, _⟩ := k; rw [e1] at e; exact n2 _ (Option.some.inj e)
        | dti xs => obtain ⟨_, vs, e, _⟩ := k; rw [e1] at e; exact n4 _ (Option.some.inj e)
        | ins c fs => obtain ⟨_, dx, fvs, e, _⟩ := k; rw [e1] at e; exact n3 _ _ _ (Option.some.inj e)
    rcases q with (q | ⟨o, q⟩) | q
    · exact .inl (.inl (key _ q (fun _ => nofun) (fun _ => nofun) (fun _ _ _ => nofun) (fun _ => nofun)))
    · exact .inl (.inr ⟨o, key _ q (fun _ => nofun) (fun _ => nofun) (fun _ _ _ => nofun) (fun _ => nofun)⟩)
    · exact .inr q
end
theorem spM_bor {m : FnM} {vs : List V} {H : Hp} {Q : VK} {E : XK} (h : spM K T (bor m) vs H Q E) : spM K T m vs H Q E := by
  obtain ⟨Z, ι, ws, st, s, r, p⟩ := h
  unfold bor at p
  cases q : thaw st ws with
  | none => rw [q] at p; exact p.elim
  | some xs =>
    rw [q] at p
    have p : Post K T E Z ι (borR st (m (xs.map W.f) [])) _ := p
    have sim : SimS K T (zAll Z H ι 0) [] [] H := by
      refine ⟨fun a o e => ?_, rfl, List.nodup_nil, fun n a c h => (by simp at h), fun a h => (by simp at h), s.tab.step (fun a ps e => ?_) (fun a h => (by simp at h)) (fun _ _ e _ => e) fun a u e hn h0 => by
        unfold zAll
        rw [if_neg fun hd => hn (List.mem_of_mem_drop hd)]
        exact h0⟩
      rotate_right
      · unfold zAll at e
        by_cases ha : a ∈ ι.drop 0
        · rw [if_pos ha] at e
          exact absurd rfl ((s.tab.ct a (List.mem_of_mem_drop ha) _ e).1 ps)
        · rw [if_neg ha] at e
          exact e
      unfold zAll at e
      by_cases ha : a ∈ ι.drop 0
      · rw [if_pos ha] at e; exact e
      · rw [if_neg ha] at e; exact s.sub a o e
    refine ⟨zAll Z H ι 0, [], xs.map W.f, [], sim, RepWs.ofFs (thaw_ok s r q), ?_⟩
    cases e : m (xs.map W.f) [] with
    | stuck => rw [e] at p; exact p.elim
    | exc c fs st' => rw [e] at p; exact p.elim
    | ok u st' =>
      rw [e] at p
      cases u with
      | f x =>
        cases st' with
        | cons c t => exact p.elim
        | nil =>
          have p : Post K T E Z ι (if flat x = true then Res.ok (W.f x) st else .stuck) _ := p
          by_cases hx : flat x = true
          · rw [if_pos hx] at p
            intro H' Z' ι' l s' v rv
            obtain ⟨s2, l2, ht, _⟩ := back s l s'.sub s'.tab
            cases rv with
            | f rv => exact p H' _ ι l2 s2 v (.f (rv.flat ht hx))
          · rw [if_neg hx] at p; exact p.elim
      | loc n =>
        match n, st', p with
        | 0, [.lstF ys], p =>
          have p : Post K T E Z ι (if flats ys = true then Res.ok (W.loc st.length) (st ++ [.lstF ys]) else .stuck) _ := p
          by_cases hx : flats ys = true
          · rw [if_pos hx] at p
            intro H' Z' ι' l s' v rv
            obtain ⟨s2, l2, ht, hal⟩ := back s l s'.sub s'.tab
            cases rv with
            | loc ev =>
              rename_i a
              obtain ⟨z0, us, e1, r1⟩ := s'.cell 0 a (.lstF ys) ev rfl
              have hni : a ∉ ι := fun ha => by
                obtain ⟨o, eo⟩ := hal a ha
                rw [z0] at eo; cases eo
              have hz0 : zBut ι st Z' a = none := by
                unfold zBut
                split
                · rfl
                · exact z0
              have l3 : Le Z ι (zBut ι st Z') (ι ++ [a]) := ⟨l2.z, fun _ _ h => get_app h⟩
              have l4 : Le (zBut ι st Z') ι (zBut ι st Z') (ι ++ [a]) := ⟨Same.refl _, fun _ _ h => get_app h⟩
              refine p H' (zBut ι st Z') (ι ++ [a]) l3 ⟨s2.sub, by simp [s2.len], ?_, fun n b c h1 h2 => ?_, fun b hb => ?_, ⟨s2.tab.zt, fun b hb o e => by
                rcases List.mem_append.mp hb with hb | hb
                · exact s2.tab.ct b hb o e
                · simp at hb; subst hb; exact s'.tab.ct _ (List.mem_of_getElem? ev) o e, s2.tab.tb⟩⟩ (.ref a) (.loc (by rw [← s2.len]; simp))
              · rw [List.nodup_append]
                exact ⟨s2.nd, by simp, fun x hx y hy => by simp at hy; subst hy; exact fun e => hni (e ▸ hx)⟩
              · rcases get_app_cases h1 with h1 | ⟨rfl, rfl⟩
                · rcases get_app_cases h2 with h2 | ⟨rfl, rfl⟩
                  · have k := s2.cell n b c h1 h2
                    cases c with
                    | dead => trivial
                    | lstF xs => exact k
                    | lstW xs => obtain ⟨n, vs, e, r⟩ := k; exact ⟨n, vs, e, r.mono l4⟩
                    | dct xs => exact k
                    | dti xs => exact k
                    | ins c fs => obtain ⟨n, dx, fvs, e, hc, r⟩ := k; exact ⟨n, dx, fvs, e, hc, r.mono l4⟩
                  · have := (List.getElem?_eq_some_iff.mp h1).1
                    rw [s2.len] at this
                    exact absurd this (Nat.lt_irrefl _)
                · rw [s2.len] at h2
                  simp at h2
                  subst h2
                  exact ⟨hz0, us, e1, r1.flat ht hx⟩
              · rcases List.mem_append.mp hb with hb | hb
                · exact s2.there b hb
                · simp at hb; subst hb; exact ⟨_, e1⟩
          · rw [if_neg hx] at p; exact p.elim
        | 0, [], p => exact p.elim
        | 0, .dead :: _, p => exact p.elim
        | 0, .lstW _ :: _, p => exact p.elim
        | 0, .dct _ :: _, p => exact p.elim
        | 0, .dti _ :: _, p => exact p.elim
        | 0, .ins _ _ :: _, p => exact p.elim
        | 0, .lstF _ :: _ :: _, p => exact p.elim
        | _ + 1, _, p => exact p.elim
theorem thaw_app (st : Store) (xs : List F) : ∀ ws : List W, thaw st (ws ++ xs.map W.f) = (thaw st ws).map (· ++ xs)
  | [] => by
    show thaw st (xs.map W.f) = some ([] ++ xs)
    induction xs with
    | nil => rfl
    | cons x xs ih =>
      show (deepF 0 st 3 (.f x)).bind (fun y => (thaw st (xs.map W.f)).map (y :: ·)) = _
      rw [ih]
      rfl
  | u :: ws => by
    show (deepF 0 st 3 u).bind (fun y => (thaw st (ws ++ xs.map W.f)).map (y :: ·)) = ((deepF 0 st 3 u).bind fun y => (thaw st ws).map (y :: ·)).map (· ++ xs)
    rw [thaw_app st xs ws]
    cases deepF 0 st 3 u with
    | none => rfl
    | some y => cases thaw st ws <;> rfl
theorem Fn.bor {CX : CXT} {m : FnM} (F : Fn P w K mg base T CX k f m) : Fn P w K mg base T CX k f (bor m) := by
  obtain ⟨fd, ps, ds, dvs, dfs, m0, F0, b, v, r, e⟩ := F.ex
  refine ⟨⟨fd, ps, ds, dvs, dfs, VS.bor m0, F0.imp fun vs H Q E h => spM_bor h, b, v, r, ?_⟩, F.kp⟩
  funext ws st
  show borO m st (thaw st ws) = borO m0 st (thaw st (ws ++ dfs.map W.f))
  rw [thaw_app, e]
  cases thaw st ws with
  | none => rfl
  | some xs =>
    show borR st (m0 (xs.map W.f ++ dfs.map W.f) []) = borR st (m0 ((xs ++ dfs).map W.f) [])
    rw [List.map_append]
end
end VS

set_option Elab.async false
set_option linter.all false
set_option maxRecDepth 100000
set_option maxHeartbeats 4000000
set_option autoImplicit false
/-! WG: xs[::-1], xs.count(k), xs.insert(i, y), one of two readings. -/
namespace VS
open PySem PySem.Spec PyProof.Rows L2
section
variable {X : Cx} {T : Tab} {E : XK} {a b c e e2 o i value : Expr} {es : List Expr} {ta tb tc te te2 to ti tv : TEv} {tr : TAv} {pos pos' apos cpos p p2 : Pos}
/-! ### one of two readings -/
/-! ### xs[::-1] -/
/-! ### xs.count(k) -/
end
end VS

set_option Elab.async false
set_option linter.all false
set_option maxRecDepth 100000
set_option maxHeartbeats 4000000
set_option autoImplicit false
/-! WH: an attribute of a name as a target among others. -/
namespace VS
open PySem PySem.Spec PyProof.Rows L2
section
variable {X : Cx} {T : Tab} {E : XK} {o : Expr} {pos pos' : Pos}
def gFld (K : PySem.W.Frag) (ta : TE) (f : Str) : TG := fun v σ H Q => ta σ H fun x H1 => ∃ a C dx fs, x = .ref a ∧ H1 a = some (.ins C dx fs) ∧ Cls K C ∧ NoAttr K C f ∧ fs.length < 1000 ∧ Q σ (upd H1 a (.ins C dx (putF f v fs)))
theorem pg_fld {ta : TE} {f : Str} (ha : PE X o ta) : PG X (.Attribute o f pos') (gFld X.K ta f) := by
  refine ⟨fun pins s σ H v u Q I r h => ?_⟩
  refine PySem.W.kas_attr (thn (ha.run pins s σ H _ I h) fun ov s2 ⟨x, H2, I2, rx, a, C, dx, fs, ex, ea, c, n, l, q2⟩ => ?_)
  subst ex
  obtain rfl : ov = Value.ref a := rx
  exact setattr_ok I2 ea c n l r fun s3 I3 => ⟨σ, _, I3, q2⟩
def mAt (T : Tab) (i : Nat) (to : TEv) : TM := fun w env st => match to env st with
  | .ok o st1 => (setA T i w st1 o).map fun st2 => (env, st2)
  | _ => none
theorem vm_attr {i j : Nat} {x fn : Str} {p2 : Pos} (hT : TabOk X.K T) (hf : T.fn i = fn) (hN : X.N[j]? = some x) (hv : Vis X.env.scope x) (hd : (x == ("__debug__" : Str)) = false := by decide) (hcd : (x == ("__classdict__" : Str)) = false := by decide) :
    VM X T (.Attribute (.Name x p2) fn pos') (mAt T i (eVar j)) := by
  subst hf
  refine pg_weak (pg_fld (pe_var hN hv hd hcd)) fun v σ H Q h => ?_
  obtain ⟨Z, ι, env, st, w, env', st', s, re, rv, e, k⟩ := h
  unfold mAt eVar at e
  cases q : env[j]? with
  | none => rw [q] at e; cases e
  | some o =>
    cases o with
    | none => rw [q] at e; cases e
    | some u =>
      rw [q] at e
      obtain ⟨y, ey, ry⟩ := re.get j u q
      have e : (setA T i w st u).map (fun st2 => (env, st2)) = some (env', st') := e
      obtain ⟨st2, e2, e3⟩ := opt_map_some e
      cases e3
      obtain ⟨a, C, dx, fs, e1, e4, e5, e6, e7, s3⟩ := setA_ok hT s ry rv e2
      exact ⟨y, ey, a, C, dx, fs, e1, e4, e5, e6, e7, k σ _ s3 re⟩
end
end VS

set_option Elab.async false
set_option linter.all false
set_option maxRecDepth 100000
set_option maxHeartbeats 4000000
set_option autoImplicit false
/-! WI: a default that is the empty tuple. -/
namespace VS
open PySem PySem.Spec PyProof.Rows L2
/-- at a stands the empty tuple -/
def tup0B (K : PySem.W.Frag) (a : Addr) : Bool := match K.lookup a with
  | some ⟨.type c, _, .seq its _, _⟩ => decide (c = "tuple") && its.toList.isEmpty
  | _ => false
theorem tup0B_ok {K : PySem.W.Frag} {a : Addr} (h : tup0B K a = true) (H : Hp) : SqT K H a [] := by
  unfold tup0B at h
  cases q : K.lookup a with
  | none => rw [q] at h; cases h
  | some o =>
    obtain ⟨oc, od, dt, osl⟩ := o
    rw [q] at h
    cases oc with
    | type c =>
      cases dt with
      | seq its n =>
        have h : (decide (c = "tuple") && its.toList.isEmpty) = true := h
        rw [Bool.and_eq_true] at h
        have e : its.toList = [] := List.isEmpty_iff.mp h.2
        refine .inr ⟨_, its, n, q, congrArg Value.type (of_decide_eq_true h.1), rfl, ?_, ?_⟩
        · have : its.size = 0 := by rw [← Array.length_toList, e]; rfl
          rw [this]
          exact Nat.zero_le _
        · rw [e]
          exact .nil
      | _ => cases h
    | _ => cases dt <;> cases h
end VS

set_option Elab.async false
set_option linter.all false
set_option maxRecDepth 100000
set_option maxHeartbeats 4000000
set_option autoImplicit false
/-! WJ: a list or a tuple, taken apart. -/
namespace VS
open PySem PySem.Spec PyProof.Rows L2
section
variable {X : Cx} {T : Tab} {e : Expr} {pos : Pos}
end
end VS

set_option Elab.async false
set_option linter.all false
set_option maxRecDepth 100000
set_option maxHeartbeats 4000000
set_option autoImplicit false
/-! WK: dicts that change, dict comprehensions. -/
namespace VS
open PySem PySem.Spec PyProof.Rows L2
section
variable {X : Cx} {T : Tab} {E : XK} {a b c e o i value tg : Expr} {es : List Expr} {ta tb tc te to tk tv : TEv} {tr : TAv} {pos pos' apos cpos p p2 p3 : Pos} {ti : TIv} {g : TGv} {tt : TTv} {vs ss : List Nat}
def putDW (w : W) (st : Store) : W → W → Option Store
  | .loc n, .f y => (match w, st[n]? with
    | .f x, some (.dct kfs) => if (keyF y).isSome = true ∧ small (kfs.length + 1) = true then some (st.set n (.dct (putDF kfs y x))) else none
    | _, _ => none)
  | _, _ => none
theorem putDW_ok {K : PySem.W.Frag} {Z H : Hp} {ι : List Addr} {st st' : Store} {w y : W} {u v : V} {D : Addr} {n : Nat} (s : SimS K T Z ι st H) (hD : ι[n]? = some D) (ru : RepW K T Z ι u y) (rv : RepW K T Z ι v w) (h : putDW w st (.loc n) y = some st') :
    ∃ kvs k, u = kV k ∧ H D = some (.dK kvs) ∧ kvs.length < sizeLine ∧ SimS K T Z ι st' (upd H D (.dK (putK kvs k v))) := by
  cases y with
  | loc _ => cases h
  | f y =>
    cases w with
    | loc _ => cases h
    | f x =>
      cases q : st[n]? with
      | none => simp only [putDW, q] at h; cases h
      | some c =>
        cases c with
        | dct kfs =>
          simp only [putDW, q] at h
          by_cases hc : (keyF y).isSome = true ∧ small (kfs.length + 1) = true
          · rw [if_pos hc] at h
            cases h
            obtain ⟨hz, kvs, e1, r1⟩ := s.cell _ _ _ hD q
            obtain ⟨k, hk⟩ := Option.isSome_iff_exists.mp hc.1
            cases ru with
            | f ru =>
              cases rv with
              | f rv => exact ⟨kvs, k, rep_key hk ru, e1, by rw [r1.length']; exact small_app hc.2, s.write hD hz ⟨hz, _, upd_same, r1.put hk rv⟩⟩
          · rw [if_neg hc] at h; cases h
        | dead => simp only [putDW, q] at h; cases h
        | dti _ => simp only [putDW, q] at h; cases h
        | lstF _ => simp only [putDW, q] at h; cases h
        | lstW _ => simp only [putDW, q] at h; cases h
        | ins _ _ => simp only [putDW, q] at h; cases h
/-- d[y] = v -/
def sDPut (to ti tv : TEv) : TSv := fun env st => (tv env st).thenS fun w st1 => (to env st1).thenS fun o st2 => (ti env st2).thenS fun i st3 => match putDW w st3 o i with
  | some st4 => .nx env st4
  | none => .stuck
variable {kx vx iter : Expr} {ifs : List Expr} {scope : Scope} {own : List (Str × Nat)} {tiv : TEv}
theorem vs_dput (hu : X.A.units + 64 < cLine) (ho : VE X T E o to) (hi : VE X T E i tiv) (hv : VE X T E value tv) (hs : swapsWith value (some (.Subscript o i pos')) pos.line X.env = pure false := by rfl) :
    VS X T E (.Assign [.Subscript o i pos'] value pos) (sDPut to tiv tv) := ps_weak (ps_dput (hu1 hu) ho hi hv hs) fun D σ H h => by
  obtain ⟨Z, ι, env, st, s, re, p⟩ := h
  refine ⟨Z, ι, env, st, s, re, (PostS.thenS p).imp fun w st1 H1 Z1 ι1 l1 s1 p1 v rv => ?_⟩
  refine ⟨Z1, ι1, env, st1, s1, re.mono l1, (PostS.thenS p1).imp fun o st2 H2 Z2 ι2 l2 s2 p2 x rx => ?_⟩
  refine ⟨Z2, ι2, env, st2, s2, (re.mono l1).mono l2, (PostS.thenS p2).imp fun y st3 H3 Z3 ι3 l3 s3 p3 u ru => ?_⟩
  cases o with
  | f _ => cases y <;> exact p3.elim
  | loc n =>
    cases (rx.mono l3) with
    | loc hD =>
      cases qa : putDW w st3 (.loc n) y with
      | none => simp only [qa] at p3; exact p3.elim
      | some st4 =>
        simp only [qa] at p3
        obtain ⟨kvs, k, e1, e2, e3, ok⟩ := putDW_ok s3 hD ru ((rv.mono l2).mono l3) qa
        exact ⟨_, _, rfl, .inl ⟨kvs, k, e2, e1, e3, rfl⟩, p3 _ _ Z3 ι3 Le.refl ok (((re.mono l1).mono l2).mono l3)⟩
end
end VS

set_option Elab.async false
set_option linter.all false
set_option maxRecDepth 100000
set_option maxHeartbeats 1000000
set_option autoImplicit false
/-! WL: the Hook over written addresses. -/
namespace VS
open PySem PySem.Spec PyProof.Rows L2
def obsXL (as : List Addr) (ex : PySem.W.Frag → Bool) (fa : List He.Fa) (fn : List He.DefD) (g : Addr → Option Obj) : He.AlD × Bool := (He.obsD fa fn (He.frG g as), ex (He.frG g as))
def hookXL (as : List Addr) (ex : PySem.W.Frag → Bool) (fa : List He.Fa) (fn : List He.DefD) : PySem.W.Hook where
  α := He.AlD × Bool
  obs := fun s => obsXL as ex fa fn s.heap.get?
  val := fun _ => (He.valD fn, true)
  says := fun _ h => ∃ K : PySem.W.Frag, K.In h ∧ SaysX ex fa fn K
  of := fun _ _ e => ⟨_, He.frG_in, (Prod.mk.inj e).1, (Prod.mk.inj e).2⟩
  keeps := fun _ _ _ ⟨K, hK, c⟩ k => ⟨K, PySem.W.Frag.In.keeps hK k, c⟩
theorem obsXL_eq {as : List Addr} {ex : PySem.W.Frag → Bool} {fa : List He.Fa} {fn : List He.DefD} {g : Addr → Option Obj} {s : Shared} (h : ∀ a, g a = s.heap.get? a) : obsXL as ex fa fn g = (hookXL as ex fa fn).obs s := by
  have e : g = s.heap.get? := funext h
  rw [e] <;> rfl
section
variable {X : Cx} {T : Tab} {E : XK} {a : Expr} {ta : TEv} {p p2 pos pos2 : Pos}
end
end VS

set_option Elab.async false
set_option linter.all false
set_option maxRecDepth 100000
set_option maxHeartbeats 4000000
set_option autoImplicit false
/-! XW: operators between an own object and things of any kind. -/
namespace PySem
open Sem (wp)
open Builtin
end PySem
namespace PySem.W
open PySem PySem.Calls PyProof.Rows
section
variable {prog : Program} {w : World} {A : Around} {E : Value → Shared → Prop} {s : Shared} {K : Frag} {x C L f f0 dx : Addr} {h₀ : Heap} {m : Str → Option Value} {ox : Obj} {od : Option Obj} {Ty : String}
end
end PySem.W
namespace VS
open PySem PySem.Spec PyProof.Rows L2
def names5 : List String := ["NoneType", "str", "tuple", "list", "dict"]
structure MulA (K : PySem.W.Frag) (C : Addr) : Prop where
  i : MulR K C
  b : PySem.W.subIn K (.ref C) (.type "bool") = some false
  r : ∀ Ty ∈ names5, BinR K C "mul" Ty
section
variable {X : Cx} {T : Tab} {E : XK} {a b e : Expr} {ta tb te : TEv} {pos : Pos} {CX : CXT} {k c : Nat} {g : Addr} {m : FnM} {C : Addr} {sp : Sp}
end
end VS

set_option Elab.async false
set_option linter.all false
set_option maxRecDepth 100000
set_option maxHeartbeats 1000000
set_option autoImplicit false
/-! XA: an own exception class whose __init__ begins with super().__init__(text). -/
namespace LX
open PySem PySem.Calls PySem.Spec PyProof.Rows L2 LamX NdefX PySem.W
/-- what K says of such a class: C its address, fI its __init__, cc the cell of __class__ -/
structure SupC (K : Frag) (prog : Program) (C fI cc : Addr) (G : NF) : Prop where
  ox : OexC K C
  fn : ∃ oc od doc pm ctv osl, K.lookup fI = some ⟨oc, od, .func (G.fd doc pm ctv), osl⟩
  code : codeIn K (.ref G.c) G.qual = true
  cfil : ∃ ccl cdd vs ccs file tf, K.lookup G.c = some ⟨ccl, cdd, .fields vs, ccs⟩ ∧ vs[2]? = some (.str file tf) ∧ ((prog.main.file : Str) == file) = true
  cl : G.cl = [(("__class__" : Str), cc)]
  cell : ∃ a b c, K.lookup cc = some ⟨a, b, .cell (some (.ref C)), c⟩
  own : mroIn K C (.ref C) = some true
  sup : ks_superIn K C C "__init__" = some (some (.builtin "ValueError.__init__"))
  opq : nsIn K cStatics "thirdparty.any" = some none
  isB : subIn K (.ref C) (.type "ValueError") = some true
  noS : nsIn K mainGlobals "super" = some none
section
variable {CX : CXT} {P : Program} {w : World} {K : Frag} {mg : Str → Option Value} {base : Heap} {C fI cc : Addr} {G : NF} {N pr : List Str} {k : Nat} {sp : Sp} {doc pm ctv oc : Value} {od : Option Addr} {osl : Array (Option Value)}
end
end LX

set_option Elab.async false
set_option linter.all false
set_option maxRecDepth 100000
set_option maxHeartbeats 1000000
set_option autoImplicit false
/-! XB: raise C(e), C an own exception class with one field. -/
namespace LX
open PySem PySem.Calls PySem.Spec PyProof.Rows L2 LamX NdefX PySem.W
section
variable {CX : CXT} {P : Program} {w : World} {K : Frag} {mg : Str → Option Value} {base : Heap} {C fI cc : Addr} {G : NF} {N : List Str} {k : Nat} {doc pm ctv oc : Value} {od : Option Addr} {osl : Array (Option Value)} {pn f : Str}
end
end LX
namespace VS
open PySem PySem.Spec PyProof.Rows L2 LX
section
variable {X : Cx} {T : Tab} {E : XK} {e : Expr} {te : TEv} {W : WX} {CX : CXT} {x : Str} {k c i : Nat} {fI : Addr} {fd : FuncData} {ps : List Str} {p pos pos' : Pos}
theorem SimS.xd {K : PySem.W.Frag} {Z H : Hp} {ι : List Addr} {st : Store} {d : Addr} {fs : List (Str × V)} (s : SimS K T Z ι st H) (hd : H d = none) : SimS K T Z ι st (upd H d (.xd fs)) :=
  s.grow ⟨Same.refl Z, same_new hd, s.sub.trans (same_new hd), fun _ _ _ => rfl, fun _ _ e => e⟩
end
end VS

set_option Elab.async false
set_option linter.all false
set_option maxRecDepth 100000
set_option maxHeartbeats 1000000
set_option autoImplicit false
/-! XC: several clauses 'except X as e' of which one catches all that comes; the def that calls what it got. -/
namespace LX
open PySem PySem.Calls PySem.Spec PyProof.Rows L2 LamX NdefX
/-- what the clauses wish: one of them fits -/
def wAll (K : PySem.W.Frag) (D : Ends) : List (Value × (Addr → Value → Option Addr → TS)) → WX
  | [] => fun _ _ _ _ => False
  | (c, ts) :: r => fun cls d σ H => ∃ b, PySem.W.exmOne K cls c = some b ∧ (b = true → ∀ a, H a = none → ts a cls d D σ H) ∧ (b = false → wAll K D r cls d σ H)
/-- a clause with a name at i: the name goes behind it -/
def tAs (i : Nat) (ts : Addr → Value → Option Addr → TS) : Addr → Value → Option Addr → TS := fun a cls d D σ H =>
  ts a cls d { nx := fun σ' H' => D.nx (σ'.set i none) H', rt := D.rt, bk := fun σ' H' => D.bk (σ'.set i none) H', ct := fun σ' H' => D.ct (σ'.set i none) H' } (σ.set i (some (.ref a))) H
inductive HdsA (X : Cx) : List ExceptHandler → List (Value × (Addr → Value → Option Addr → TS)) → Prop
  | nil : HdsA X [] []
  | as_ {x n : Str} {i : Nat} {c : Value} {ts : Addr → Value → Option Addr → TS} {b₀ : Stmt} {suite : List Stmt} {np pos' : Pos} {hds : List ExceptHandler} {l : List (Value × (Addr → Value → Option Addr → TS))} (hN : X.N.Nodup) (hi : X.N[i]? = some n) (hln : X.env.kindOf n = some .local) (hc : Names X x c)
      (hsu : ∀ (a : Addr) (oe : Obj) (cls : Value) (d : Option Addr) (pn : List (Addr × Obj)), Zc cls d oe → (∃ vs, oe.data = .fields vs) → PSs (X.suite a ((a, oe) :: pn)) (b₀ :: suite) (ts a cls d)) (r : HdsA X hds l) :
      HdsA X (.ExceptHandler (some (.Name x np)) (some n) (b₀ :: suite) pos' :: hds) ((c, tAs i ts) :: l)
  | plain {x : Str} {c : Value} {ts : Addr → Value → Option Addr → TS} {b₀ : Stmt} {suite : List Stmt} {np pos' : Pos} {hds : List ExceptHandler} {l : List (Value × (Addr → Value → Option Addr → TS))} (hc : Names X x c)
      (hsu : ∀ (a : Addr) (oe : Obj) (cls : Value) (d : Option Addr) (pn : List (Addr × Obj)), Zc cls d oe → (∃ vs, oe.data = .fields vs) → PSs (X.suite a ((a, oe) :: pn)) (b₀ :: suite) (ts a cls d)) (r : HdsA X hds l) :
      HdsA X (.ExceptHandler (some (.Name x np)) none (b₀ :: suite) pos' :: hds) ((c, ts) :: l)
section
variable {X : Cx} {body : List Stmt} {h₀ : ExceptHandler} {hds : List ExceptHandler} {l : List (Value × (Addr → Value → Option Addr → TS))} {pos : Pos} {tb : WX → TS}
theorem ps_try_all (hs : X.stack = X.env :: X.outer) (hf : X.env.frame = some X.env.locals)
    (hb : ∀ (W : WX) (pn : List (Addr × Obj)) (xe : Value → Shared → Prop), Takes (X.tr pn xe) W → PassesOwn (model X.prog X.w) X.A X.env xe → PSs (X.tr pn xe) body (tb W))
    (hh : HdsA X (h₀ :: hds) l) : PS X (.Try body (h₀ :: hds) [] [] pos) (fun D σ H => tb (wAll X.K D l) D σ H) := by
  refine ⟨fun pins s σ H D I h => ?_⟩
  have ok := I.ok
  have hfr : X.A.frames = some (X.env :: X.outer) := by rw [ok.frames, hs]
  refine wpAny_Try_except ?_
  refine wpAny_mono ((hb (wAll X.K D l) (X.pn ++ pins) (fun e s₁ => wpAny (model X.prog X.w) X.A (noteFrame e X.env) (fun _ s₂ => wpAny (model X.prog X.w) X.A (setFlight e none) (fun _ s₃ =>
    wpAny (model X.prog X.w) X.A (handleBy e X.env (h₀ :: hds)) (SP X pins D) X.xe s₃) X.xe s₂) X.xe s₁) (fun u s' xx => ?_) PassesOwn.looking).run [] s σ H D (I.toTry _) h) (fun f s1 hsp => ?_) (fun e s1 he => he)
  · obtain ⟨a, B, sI, pins', σ', H', cls, d, rfl, J', nb, up, sky, na, os, ag, w⟩ := xx
    have J : Inv X pins σ' H' sI := J'.ofTry ok
    have sky' : Sky B (X.env :: X.outer) a (Zc cls d) X.env.locals s'.heap := by rw [← hs]; exact sky
    show wpAny (model X.prog X.w) X.A (noteFrame (.ref a) X.env) _ _ _
    refine Sky.land Zc.steady hfr hf sky' fun h3 fl3 up3 => ?_
    have J3 : Inv X pins σ' H' { s' with heap := h3 } := J.landed nb fl3.1 (up.trans up3) os ag
    obtain ⟨oe3, vs3, he3, hz3, hd3⟩ := fl3.there
    have nfr : a ∉ frs (X.env :: X.outer) := fun hm => by
      obtain ⟨_, o', e', hnf⟩ := fl3.2.2.1.mem hm
      rw [he3] at e'; cases e'
      exact hnf _ hd3
    have nL : a ≠ X.env.locals := fun z => nfr (List.mem_filterMap.mpr ⟨X.env, List.mem_cons_self, by rw [hf, z]⟩)
    have nF : a ∉ X.fs := fun hm => by
      obtain ⟨e, he, q⟩ := List.mem_filterMap.mp hm
      exact nfr (List.mem_filterMap.mpr ⟨e, List.mem_cons_of_mem _ he, q⟩)
    have S3 := J3.suite he3 hd3 na nL nF
    have LT : PySem.W.Looks (model X.prog X.w) h3 (typeOf (.ref a)) cls := fun A Q E s k q => wpAny_typeOf_ref (k _ _ he3) (by rw [hz3.1]; exact q)
    have test : ∀ {x : Str} {c : Value} {np : Pos} {Q : Value → Shared → Prop} {E : Value → Shared → Prop}, Names X x c → Q c { s' with heap := h3 } → wpAny (model X.prog X.w) (X.A.mark (some (.ref a))) (eval (.Name x np) X.env) Q E { s' with heap := h3 } := fun {x c np Q E} hc q => by
      obtain ⟨hg, hdbg, hm | ⟨hm, hv, hnn⟩⟩ := hc
      · exact ld_glob (X := X.suite a ((a, oe3) :: (X.pn ++ pins))) S3 hg hm q hdbg
      · exact ld_blt (X := X.suite a ((a, oe3) :: (X.pn ++ pins))) S3 hg hm hv q hnn hdbg
    have go : ∀ {hds' : List ExceptHandler} {l' : List (Value × (Addr → Value → Option Addr → TS))}, HdsA X hds' l' → wAll X.K D l' cls d σ' H' →
        wpAny (model X.prog X.w) X.A (handleBy (.ref a) X.env hds') (SP X pins D) X.xe { s' with heap := h3 } := by
      intro hds' l' hk
      induction hk with
      | nil => intro w; exact False.elim w
      | @as_ x n i c ts b₀ suite np pos' hds2 l2 hN hi hln hc hsu r ih =>
        intro w
        obtain ⟨b, hb1, hyes, hno⟩ := w
        have LM := PySem.W.exm_one (M := model X.prog X.w) (J3.kIn) LT hb1
        refine wpAny_handleBy_cons (codeAny_handlers_test ?_) (by intro q; cases q)
        refine test hc (LM.here ?_)
        cases b with
        | true =>
          refine codeAny_handlers_suite_as ?_
          refine HandSPX.lands_againZ fl3 fun h4 fl4 up4 => ?_
          have J4 : Inv X pins σ' H' { s' with heap := h4 } := J.landed nb fl4.1 ((up.trans up3).trans up4) os ag
          obtain ⟨oe4, vs4, he4, hz4, hd4⟩ := fl4.there
          have S4 := J4.suite he4 hd4 na nL nF
          refine store_ok (X := X.suite a ((a, oe4) :: (X.pn ++ pins))) (v := .ref a) S4 hN hi (.inl hln) rfl (fun s5 S5 => ?_) (.inr hln)
          refine wpAny_mono ((hsu a oe4 cls d (X.pn ++ pins) hz4 ⟨_, hd4⟩).run [] s5 _ H' _ S5 (hyes rfl a na)) (fun f s6 hsp => ?_) (fun _ _ z => False.elim z)
          have end_ : ∀ {σ6 : L2.St} {H6 : Hp} {Q : Shared → Prop}, Inv (X.suite a ((a, oe4) :: (X.pn ++ pins))) [] σ6 H6 s6 → (∀ s7, Inv X pins (σ6.set i none) H6 s7 → Q s7) →
              wpAny (model X.prog X.w) X.A (do bindName X.env n .none; unbindBehindTheSuite X.env n pos') (fun _ s7 => Q s7) X.xe s6 := fun {σ6 H6 Q} S6 hq => gone_ok (S6.unsuite ok) hN hi hln hq
          cases f with
          | next => obtain ⟨σ6, H6, S6, q6⟩ := hsp; exact end_ S6 fun s7 J7 => ⟨_, _, J7, q6⟩
          | brk => obtain ⟨σ6, H6, S6, q6⟩ := hsp; exact end_ S6 fun s7 J7 => ⟨_, _, J7, q6⟩
          | cont => obtain ⟨σ6, H6, S6, q6⟩ := hsp; exact end_ S6 fun s7 J7 => ⟨_, _, J7, q6⟩
          | ret u => obtain ⟨v6, σ6, H6, S6, r6, q6⟩ := hsp; exact end_ S6 fun s7 J7 => ⟨_, _, _, J7, r6, q6⟩
        | false => exact ih (hno rfl)
      | @plain x c ts b₀ suite np pos' hds2 l2 hc hsu r ih =>
        intro w
        obtain ⟨b, hb1, hyes, hno⟩ := w
        have LM := PySem.W.exm_one (M := model X.prog X.w) (J3.kIn) LT hb1
        refine wpAny_handleBy_cons (codeAny_handlers_test ?_) (by intro q; cases q)
        refine test hc (LM.here ?_)
        cases b with
        | true =>
          refine codeAny_handlers_suite ?_
          refine HandSPX.lands_againZ fl3 fun h4 fl4 up4 => ?_
          have J4 : Inv X pins σ' H' { s' with heap := h4 } := J.landed nb fl4.1 ((up.trans up3).trans up4) os ag
          obtain ⟨oe4, vs4, he4, hz4, hd4⟩ := fl4.there
          have S4 := J4.suite he4 hd4 na nL nF
          refine wpAny_mono ((hsu a oe4 cls d (X.pn ++ pins) hz4 ⟨_, hd4⟩).run [] _ _ H' _ S4 (hyes rfl a na)) (fun f s6 hsp => ?_) (fun _ _ z => False.elim z)
          cases f with
          | next => obtain ⟨σ6, H6, S6, q6⟩ := hsp; exact ⟨_, _, S6.unsuite ok, q6⟩
          | brk => obtain ⟨σ6, H6, S6, q6⟩ := hsp; exact ⟨_, _, S6.unsuite ok, q6⟩
          | cont => obtain ⟨σ6, H6, S6, q6⟩ := hsp; exact ⟨_, _, S6.unsuite ok, q6⟩
          | ret u => obtain ⟨v6, σ6, H6, S6, r6, q6⟩ := hsp; exact ⟨_, _, _, S6.unsuite ok, r6, q6⟩
        | false => exact ih (hno rfl)
    exact go hh w
  · cases f with
    | next => obtain ⟨σ', H', J', q⟩ := hsp; exact wpAny_execs_nil ⟨σ', H', J'.ofTry ok, q⟩
    | brk => obtain ⟨σ', H', J', q⟩ := hsp; exact ⟨σ', H', J'.ofTry ok, q⟩
    | cont => obtain ⟨σ', H', J', q⟩ := hsp; exact ⟨σ', H', J'.ofTry ok, q⟩
    | ret u => obtain ⟨v, σ', H', J', r, q⟩ := hsp; exact ⟨v, σ', H', J'.ofTry ok, r, q⟩
end

theorem takes_len {X : Cx} {W : WX} (tk : Takes X W) : Takes X (fun cls d σ H => σ.length = X.N.length → W cls d σ H) := fun u s' ⟨a, B, sI, pins, σ, H, cls, d, e, I, nb, up, sky, na, os, ag, w⟩ =>
  tk u s' ⟨a, B, sI, pins, σ, H, cls, d, e, I, nb, up, sky, na, os, ag, w I.len⟩
/-- told of an exception: its tag and its field -/
def triX (K : PySem.W.Frag) : List (Addr × Str × Str) → Value → Option Addr → Hp → VK → Prop
  | [], _, _, _, _ => False
  | (C, tag, f) :: r, cls, d, H, Q => ∃ b, PySem.W.exmOne K cls (.ref C) = some b ∧
      (b = true → cls = .ref C ∧ ∃ (dd : Addr) (fs : List (Str × V)) (v : V), d = some dd ∧ H dd = some (.xd fs) ∧ fs.lookup f = some v ∧ ∀ l, H l = none → Q (.ref l) (upd H l (.tup [.str tag, v]))) ∧ (b = false → triX K r cls d H Q)
/-- told: found = None; try: a() / except .. as e: found = (tag, e.f) ..; return found -/
def TTri (K : PySem.W.Frag) (hl : List (Addr × Str × Str)) : (XK → Hp → VK → Prop) → Hp → VK → Prop := fun tl H Q => tl (fun cls d H' => triX K hl cls d H' Q) H fun _ H' => Q .non H'
inductive TriH (K : PySem.W.Frag) (mg : Str → Option Value) (sg : Scope) (fd e : Str) : List ExceptHandler → List (Addr × Str × Str) → Prop
  | nil : TriH K mg sg fd e [] []
  | cons {x tag f : Str} {C : Addr} {np p1 p2 p3 p4 p5 p6 pos : Pos} {j k : Nat} {hds : List ExceptHandler} {r : List (Addr × Str × Str)} (hg : sg.names.lookup x = some .globalImplicit) (hd : (x == ("__debug__" : Str)) = false) (hm : mg x = some (.ref C)) (xf : XfC K C) (hno : PySem.W.findIn K (.ref C) f = some none)
      (hx : (f == ("__class__" : Str)) = false) (t : TriH K mg sg fd e hds r) :
      TriH K mg sg fd e (.ExceptHandler (some (.Name x np)) (some e) [.Assign [.Name fd p1] (.Tuple [.Constant (.str tag) j p2, .Attribute (.Name e p3) f p4] k p5) p6] pos :: hds) ((C, tag, f) :: r)
def triT (p : Addr × Str × Str) : Value × (Addr → Value → Option Addr → TS) := (.ref p.1, tAs 2 fun a cls d => tAsg (tTup (tCons (tC (.str p.2.1)) (tCons (tXf a cls d p.1 p.2.2 (tVar 2)) tNil))) (gName 1))
section
variable {X : Cx} {x a fd e q : Str} {sg : Scope} {g : Addr} {cdg : Value} {hds : List ExceptHandler} {hl : List (Addr × Str × Str)} {p1 p2 p3 p4 p5 p6 p7 p8 p9 : Pos} {j : Nat}
theorem tri_hds {X' : Cx} (hK : X'.K = X.K) (hmg : X'.mg = X.mg) (hsc : X'.env.scope = sg) (hN : X'.N.Nodup) (h1 : X'.N[1]? = some fd) (h2 : X'.N[2]? = some e) (hfd : sg.names.lookup fd = some .local) (he : sg.names.lookup e = some .local) (hfn : ∀ y, X'.fn y = true)
    (hd1 : (e == ("__debug__" : Str)) = false) (hd2 : (e == ("__classdict__" : Str)) = false) (hb : ∀ f p, attributeBase (.Name e p) f X'.env (eval (.Name e p) X'.env) = eval (.Name e p) X'.env)
    (hsw : ∀ (tag f : Str) (jj k : Nat) (p1 p2 p3 p4 p5 p6 : Pos), swapsWith (.Tuple [.Constant (.str tag) jj p2, .Attribute (.Name e p3) f p4] k p5) (some (.Name fd p1)) p6.line X'.env = pure false)
    (t : TriH X.K X.mg sg fd e hds hl) : HdsA X' hds (hl.map triT) := by
  induction t with
  | nil => exact .nil
  | @cons x tag f C np p1 p2 p3 p4 p5 p6 pos jj k hds r hg hd hm xf hno hx t ih =>
    refine .as_ hN h2 (by show X'.env.scope.names.lookup e = _; rw [hsc]; exact he) ⟨by show X'.env.scope.names.lookup x = _; rw [hsc]; exact hg, hd, .inl (by rw [hmg]; exact hm)⟩ (fun a oe cls d pn hz hf => ?_) ih
    refine pss_one (ps_set (i := 1) hN h1 (.inl (by show X'.env.scope.names.lookup fd = _; rw [hsc]; exact hfd)) (pe_tup (pa_cons pe_str (pa_cons (pe_xf (by show XfC X'.K C; rw [hK]; exact xf) (by show PySem.W.findIn X'.K (.ref C) f = _; rw [hK]; exact hno) hz hf (pe_var (i := 2) h2 (.inl (by show X'.env.scope.names.lookup e = _; rw [hsc]; exact he)) hd1 hd2) (hb f p3)) pa_nil))) (hsw _ _ _ _ _ _ _ _ _ _) (.inl (hfn _)))
/-- told of all exceptions that the clauses name -/
theorem tri_wish {K : PySem.W.Frag} {D : Ends} {H : Hp} {cls : Value} {d : Option Addr} {Q : VK} {σ : L2.St} (hσ : σ.length = 3) (hD : ∀ σ' H', D.nx σ' H' ↔ ∃ v, σ'[1]? = some (some v) ∧ Q v H') :
    ∀ (hl : List (Addr × Str × Str)), triX K hl cls d H Q → wAll K D (hl.map triT) cls d σ H
  | [], h => h
  | (C, tag, f) :: r, ⟨b, h1, h2, h3⟩ => by
    refine ⟨b, h1, fun hb a na => ?_, fun hb => tri_wish hσ hD r (h3 hb)⟩
    obtain ⟨hc, dd, fs, v, e1, e2, e3, e4⟩ := h2 hb
    refine ⟨.ref a, by rw [List.getElem?_set_self (by rw [hσ]; decide)], rfl, hc, dd, fs, v, e1, e2, e3, show (2 : Nat) ≤ sizeLine by rw [sizeLine_eq]; decide, fun p hp => ?_⟩
    refine (hD _ _).mpr ⟨.ref p, ?_, e4 p hp⟩
    rw [List.getElem?_set_ne (by decide), List.getElem?_set_self (by rw [List.length_set, hσ]; decide)]
theorem tri_gives (hge : TriH X.K X.mg sg fd e hds hl) (hne : hds ≠ []) (nd : [a, fd, e].Nodup) (hfd : sg.names.lookup fd = some .local) (he : sg.names.lookup e = some .local)
    (hd1 : (e == ("__debug__" : Str)) = false) (hd2 : (e == ("__classdict__" : Str)) = false) (hd3 : (fd == ("__debug__" : Str)) = false) (hd4 : (fd == ("__classdict__" : Str)) = false) :
    GivesTo X [a, fd, e] x sg g cdg [.Assign [.Name fd p1] (.Constant .none j p2) p3, .Try [.Expr (.Call (.Name a p4) [] [] p5) p9] hds [] [] p6, .Return (some (.Name fd p7)) p8] a q (TTri X.K hl) := by
  intro f c' s H Q tl act hc h
  cases hge with
  | nil => exact absurd rfl hne
  | @cons x' tag f' C np q1 q2 q3 q4 q5 q6 pos jj k hds' r hg hd hm xf hno hx t' =>
    have hT : TriH X.K X.mg sg fd e _ _ := .cons (pos := pos) (np := np) (p1 := q1) (p2 := q2) (p3 := q3) (p4 := q4) (p5 := q5) (p6 := q6) (j := jj) (k := k) (tag := tag) hg hd hm xf hno hx t'
    refine ⟨_, pss_cons (ps_set (i := 1) nd rfl (.inl hfd) pe_non) (pss_cons (ps_try_all (X := (cxOf C8.CX0 X.prog X.w X.K X.mg X.base [a, fd, e] x sg g cdg X.A X.stack s H C8.E0).nox)
      (tb := fun W D σ H => ∃ Ech : XK, (∀ cls d σ' H', Ech cls d H' → σ'.length = 3 → W cls d σ' H') ∧ σ[0]? = some (some (.ref f)) ∧ H c' = some (CodeO c' q) ∧ tl Ech H fun _ H' => D.nx σ H')
      rfl rfl (fun W pn xe tk _ => ?_) (tri_hds (X := X) rfl rfl rfl nd rfl rfl hfd he (fun _ => rfl) hd1 hd2 (fun _ _ => rfl) (fun _ _ _ _ _ _ _ _ _ _ => rfl) hT)) (pss_one (ps_ret (pe_var (i := 1) rfl (.inl hfd) hd3 hd4)))), ?_⟩
    · refine ⟨fun pins s' σ H' D I h' => ?_⟩
      obtain ⟨Ech, hW, h1, h2, h3⟩ := h'
      have hp := act _ pn xe Ech p4 p5 (takes_len tk) (fun cls d σ' H' q hl => hW cls d σ' H' q hl)
      exact (pss_one (ps_expr (pos := p9) hp)).run pins s' σ H' D I ⟨h1, h2, h3⟩
    · refine ⟨fun cls d H' => triX X.K _ cls d H' Q, fun cls d σ' H' q hl => tri_wish hl (fun _ _ => Iff.rfl) _ q, rfl, hc, ?_⟩
      have e2 : (fun (_ : V) (H' : Hp) => ∃ v, ((L2.start [a, fd, e] [V.ref f]).set 1 (some V.non))[1]? = some (some v) ∧ Q v H') = fun _ H' => Q .non H' := by
        funext _ H'
        exact propext ⟨fun ⟨v, e, q⟩ => by cases e; exact q, fun q => ⟨_, rfl, q⟩⟩
      show tl _ H (fun (_ : V) (H' : Hp) => ∃ v, ((L2.start [a, fd, e] [V.ref f]).set 1 (some V.non))[1]? = some (some v) ∧ Q v H')
      rw [e2]
      exact h
end
end LX

set_option Elab.async false
set_option linter.all false
set_option maxRecDepth 100000
set_option maxHeartbeats 1000000
set_option autoImplicit false
/-! XD: f(lambda: e) over plain data, where f tells what is refused. -/
namespace VS
open PySem PySem.Spec PyProof.Rows L2 LamX LX
/-- exception classes that are apart -/
def ExmOk (K : PySem.W.Frag) (T : Tab) (xs : List Nat) : Prop := ∀ c ∈ xs, ∀ c' ∈ xs, PySem.W.exmOne K (.ref (T.ca K c)) (.ref (T.ca K c')) = some (decide (c = c'))
section
variable {K : PySem.W.Frag} {T : Tab} {E : XK} {Z H H1 : Hp} {ι : List Addr} {st : Store}
end
section
variable {X : Cx} {T : Tab} {E : XK}
end
end VS

set_option Elab.async false
set_option linter.all false
set_option maxRecDepth 100000
set_option maxHeartbeats 1000000
set_option autoImplicit false
/-! XE: defs that may raise, defs that make lambdas; the end of such a law. -/
namespace VS
open PySem PySem.Spec PyProof.Rows L2 LamX LX
/-- the tables of the makers: what the machine has there -/
structure TbsOk (K : PySem.W.Frag) (mg : Str → Option Value) (base : Heap) (T : Tab) : Prop where
  tab : ∀ x ∈ T.mks, TabB base mg (codeAd K x) (tabAd K x)
  one : ∀ x ∈ T.mks, ∀ y ∈ T.mks, tabAd K x = tabAd K y → x = y
section
variable {P : Program} {w : World} {K : PySem.W.Frag} {mg : Str → Option Value} {base : Heap} {T : Tab} {x qual : Str} {params : Arguments} {body : List Stmt} {scope : Scope} {dvs : List V} {kws : List (Str × V)} {f : Addr} {fd : FuncData} {N ps : List Str} {k : Nat} {t : TSv}
end
section
variable {X : Cx} {T : Tab} {E : XK} {e : Expr} {te : TEv}
end
/-! ### what the head must have left: the tables empty -/
/-- the tables of the makers are empty -/
structure TabsE (K : PySem.W.Frag) (mks : List Str) (h : Heap) : Prop where
  at_ : ∀ x ∈ mks, PySem.W.CodeHd h (codeAd K x) (tabAd K x) ∧ h.get? (tabAd K x) = some { cls := .none, data := .fields #[] } ∧ K.lookup (tabAd K x) = none
  one : ∀ x ∈ mks, ∀ y ∈ mks, tabAd K x = tabAd K y → x = y
end VS

set_option Elab.async false
set_option linter.all false
set_option maxRecDepth 100000
set_option maxHeartbeats 1000000
set_option autoImplicit false
/-! XF: exception classes with one field, as the head has left them. -/
namespace VS
open PySem PySem.Spec PyProof.Rows L2 LamX LX NdefX
/-- an exception class: its name, its __init__, its field -/
structure XcD where
  cls : Str
  params : Arguments
  body : List Stmt
  scope : Scope
  fld : Str
def XcD.C (d : XcD) (K : PySem.W.Frag) : Addr := He.ga K d.cls
def XcD.fI (d : XcD) (K : PySem.W.Frag) : Addr := He.ma K (d.C K) "__init__"
def XcD.fd (d : XcD) (K : PySem.W.Frag) : Option FuncData := match K.lookup (d.fI K) with
  | some ⟨_, _, .func fd, _⟩ => some fd
  | _ => none
/-- what is written of the function -/
abbrev FnX : Type := Option (Str × Str × Arguments × FuncBody × Scope × Addr × List Str × Addr)
def XcD.got (d : XcD) (K : PySem.W.Frag) : FnX := (d.fd K).map fun fd => (fd.name, fd.qualname, fd.params, fd.body, fd.scope, fd.globals, fd.closure.map (·.1), fd.builtins)
def XcD.val (d : XcD) : FnX := some ("__init__", d.cls ++ ".__init__", d.params, .stmts d.body, d.scope, mainGlobals, ["__class__"], builtinsNs)
/-- all that is asked of an exception class -/
structure XcOk (prog : Program) (K : PySem.W.Frag) (d : XcD) : Prop where
  ex : ∃ (cc : Addr) (G : NF) (doc pm ctv oc : Value) (od : Option Addr) (osl : Array (Option Value)), SupC K prog (d.C K) (d.fI K) cc G ∧ K.lookup (d.fI K) = some ⟨oc, od, .func (G.fd doc pm ctv), osl⟩ ∧ G.params = d.params ∧ G.body = d.body ∧ G.scope = d.scope
  ox : OexC K (d.C K)
  ini : PySem.W.findIn K (.ref (d.C K)) "__init__" = some (some (.ref (d.fI K)))
  typ : PySem.W.typeIn K (.ref (d.fI K)) = some (.type "function")
  nof : PySem.W.findIn K (.ref (d.C K)) d.fld = some none
  xf : XfC K (d.C K)
end VS

set_option Elab.async false
set_option linter.all false
set_option maxRecDepth 100000
set_option maxHeartbeats 1000000
set_option autoImplicit false
/-! XG: what the printed texts use. -/
namespace VS
open PySem PySem.Spec PyProof.Rows L2 LamX LX NdefX
section
variable {P : Program} {w : World} {K : PySem.W.Frag} {mg : Str → Option Value} {base : Heap} {d : XcD} {N : List Str} {pn : Str}
end
section
variable {X : Cx} {T : Tab} {E : XK}
end
end VS

set_option Elab.async false
set_option linter.all false
set_option maxRecDepth 100000
set_option maxHeartbeats 1000000
set_option autoImplicit false
/-! XH: exceptions without a field; try: return ask() / except C: return text. -/
namespace LX
open PySem PySem.Calls PySem.Spec PyProof.Rows L2 LamX NdefX PySem.W
section
variable {CX : CXT} {P : Program} {w : World} {K : Frag} {mg : Str → Option Value} {base : Heap} {C fI cc : Addr} {G : NF} {N : List Str} {k : Nat} {doc pm ctv oc : Value} {od : Option Addr} {osl : Array (Option Value)}
end
end LX
namespace VS
open PySem PySem.Spec PyProof.Rows L2 LX LamX NdefX
section
variable {P : Program} {w : World} {K : PySem.W.Frag} {mg : Str → Option Value} {base : Heap} {d : XcD} {N : List Str}
end
section
variable {X : Cx} {T : Tab} {E : XK} {W : WX} {x : Str} {k c : Nat} {fI : Addr} {fd : FuncData} {ps : List Str} {p pos pos' : Pos}
end
section
variable {X : Cx} {T : Tab} {E : XK}
end
end VS
namespace VS
theorem exm_one {K : PySem.W.Frag} {T : Tab} {xs : List Nat} {c : Nat} (h : ExmOk K T xs) (hc : c ∈ xs) : ExmOk K T [c] := fun a ha b hb => by
  have ea : a = c := by simpa using ha
  have eb : b = c := by simpa using hb
  subst ea
  subst eb
  exact h _ hc _ hc
end VS

set_option Elab.async false
set_option linter.all false
set_option maxRecDepth 100000
set_option maxHeartbeats 1000000
set_option autoImplicit false
/-! XI: the Hook over written addresses, with exceptions. -/
namespace VS
open PySem PySem.Spec PyProof.Rows L2 LamX LX NdefX
end VS

set_option Elab.async false
set_option linter.all false
set_option maxRecDepth 100000
set_option maxHeartbeats 4000000
set_option autoImplicit false
/-! XL: dicts whose keys are tuples: items walked, comprehensions, displays of one pair; a dict locked for good. -/
namespace L2
open PySem PySem.Spec PyProof.Rows
section
variable {X : Cx} {pins : List (Addr × Obj)} {σ : St} {H : Hp} {s : Shared} {d : Addr} {o : Obj}
end
section
variable {X : Cx} {e : Expr} {td : TE} {apos cpos : Pos}
end
/-! ### stores and displays -/
section
variable {X : Cx} {pins : List (Addr × Obj)} {σ : St} {H : Hp} {s : Shared}
end
/-! ### comprehensions -/
section
variable {X : Cx}
end
end L2

set_option Elab.async false
set_option linter.all false
set_option maxRecDepth 100000
set_option maxHeartbeats 4000000
set_option autoImplicit false
/-! XM: locked dicts and dicts with tuples as keys, over plain data. -/
namespace VS
open PySem PySem.Spec PyProof.Rows L2
abbrev FK := Int ⊕ List Nat
def lookT (kfs : List (List FK × F)) (k : List FK) : Option F := (kfs.find? fun p => decide (p.1 = k)).map (·.2)
def putT (kfs : List (List FK × F)) (k : List FK) (x : F) : List (List FK × F) := if (kfs.any fun p => decide (p.1 = k)) = true then kfs.map (fun p => if p.1 = k then (p.1, x) else p) else kfs ++ [(k, x)]
theorem fkK_inj {a b : FK} (h : fkK a = fkK b) : a = b := by
  cases a with
  | inl i => cases b with
    | inl j => have h : (Sum.inl i : Key) = Sum.inl j := h; injection h with h; rw [h]
    | inr t => have h : (Sum.inl i : Key) = Sum.inr (S t) := h; cases h
  | inr s => cases b with
    | inl j => have h : (Sum.inr (S s) : Key) = Sum.inl j := h; cases h
    | inr t => have h : (Sum.inr (S s) : Key) = Sum.inr (S t) := h; injection h with h; rw [S_inj.mp h]
theorem fkKs_inj : ∀ {a b : List FK}, a.map fkK = b.map fkK → a = b
  | [], [], _ => rfl
  | [], _ :: _, h => by simp at h
  | _ :: _, [], h => by simp at h
  | x :: a, y :: b, h => by
    rw [List.map_cons, List.map_cons] at h
    injection h with h1 h2
    rw [fkK_inj h1, fkKs_inj h2]
section
variable {K : PySem.W.Frag} {T : Tab} {Z Z' H : Hp} {ι : List Addr} {st : Store}
theorem RepFt.val {n : List FK} : ∀ {kvs : List (List Key × V)} {kfs : List (List FK × F)}, RepFt K T Z kvs kfs →
    (∃ v x, valV kvs (n.map fkK) = some v ∧ lookT kfs n = some x ∧ RepF K T Z v x) ∨ (valV kvs (n.map fkK) = none ∧ lookT kfs n = none)
  | _, _, .nil => .inr ⟨rfl, rfl⟩
  | _, _, .cons (k := k') (ns := m) (v := v') (x := x') (vs := vs) (xs := xs) h r t => by
    by_cases hk : m = n
    · subst hk
      exact .inl ⟨v', x', valV_pos h, by simp [lookT], r⟩
    · have hk' : ¬ k' = n.map fkK := fun e => hk (fkKs_inj (h.symm.trans e))
      have e1 : lookT ((m, x') :: xs) n = lookT xs n := by
        unfold lookT
        rw [List.find?_cons_of_neg (by simp [hk])]
      rw [valV_neg (p := (k', v')) hk', e1]
      exact RepFt.val t
theorem RepFt.any {n : List FK} : ∀ {kvs : List (List Key × V)} {kfs : List (List FK × F)}, RepFt K T Z kvs kfs → (kvs.any fun kv => decide (kv.1 = n.map fkK)) = kfs.any fun p => decide (p.1 = n)
  | _, _, .nil => rfl
  | _, _, .cons (k := k') (ns := m) h r t => by
    rw [List.any_cons, List.any_cons, RepFt.any t]
    congr 1
    exact decide_eq_decide.mpr ⟨fun e => fkKs_inj (h.symm.trans e), fun e => by rw [← e]; exact h⟩
theorem RepFt.repl {n : List FK} {x : F} {v : V} (rx : RepF K T Z v x) : ∀ {kvs : List (List Key × V)} {kfs : List (List FK × F)}, RepFt K T Z kvs kfs →
    RepFt K T Z (kvs.map fun kv => if kv.1 = n.map fkK then (kv.1, v) else kv) (kfs.map fun p => if p.1 = n then (p.1, x) else p)
  | _, _, .nil => .nil
  | _, _, .cons (k := k') (ns := m) h r t => by
    rw [List.map_cons, List.map_cons]
    by_cases hk : m = n
    · rw [if_pos (show k' = n.map fkK from hk ▸ h), if_pos hk]
      exact .cons h rx (RepFt.repl rx t)
    · rw [if_neg (show ¬ k' = n.map fkK from fun e => hk (fkKs_inj (h.symm.trans e))), if_neg hk]
      exact .cons h r (RepFt.repl rx t)
theorem RepFt.append : ∀ {vs ws : List (List Key × V)} {xs ys : List (List FK × F)}, RepFt K T Z vs xs → RepFt K T Z ws ys → RepFt K T Z (vs ++ ws) (xs ++ ys)
  | _, _, _, _, .nil, s => s
  | _, _, _, _, .cons h r t, s => .cons h r (RepFt.append t s)
theorem RepFt.put {n : List FK} {x : F} {v : V} {kvs : List (List Key × V)} {kfs : List (List FK × F)} (h : RepFt K T Z kvs kfs) (rx : RepF K T Z v x) : RepFt K T Z (putK kvs (n.map fkK) v) (putT kfs n x) := by
  unfold putK putT
  rw [h.any]
  by_cases q : (kfs.any fun p => decide (p.1 = n)) = true
  · rw [if_pos q, if_pos q]; exact h.repl rx
  · rw [if_neg q, if_neg q]; exact h.append (.cons rfl rx .nil)
theorem RepFt.length : ∀ {vs : List (List Key × V)} {xs : List (List FK × F)}, RepFt K T Z vs xs → vs.length = xs.length
  | _, _, .nil => rfl
  | _, _, .cons _ _ t => by rw [List.length_cons, List.length_cons, RepFt.length t]
theorem RepFt.get : ∀ {vs : List (List Key × V)} {xs : List (List FK × F)} {i : Nat} {p : List FK × F}, RepFt K T Z vs xs → xs[i]? = some p → ∃ v, vs[i]? = some (p.1.map fkK, v) ∧ RepF K T Z v p.2
  | _, _, _, _, .nil, h => by simp at h
  | _, _, 0, _, .cons e r _, h => by simp at h; subst h; exact ⟨_, by rw [e]; rfl, r⟩
  | _, _, i + 1, p, .cons _ _ t, h => by
    obtain ⟨v, e, r⟩ := RepFt.get (i := i) (p := p) t (by simpa using h)
    exact ⟨v, by simpa using e, r⟩
theorem RepFu.val {n : FK} : ∀ {kvs : List (Key × V)} {kfs : List (List FK × F)}, RepFu K T Z kvs kfs →
    (∃ v x, valV kvs (fkK n) = some v ∧ lookT kfs [n] = some x ∧ RepF K T Z v x) ∨ (valV kvs (fkK n) = none ∧ lookT kfs [n] = none)
  | _, _, .nil => .inr ⟨rfl, rfl⟩
  | _, _, .cons (k := k') (n := m) (v := v') (x := x') (vs := vs) (xs := xs) h r t => by
    by_cases hk : m = n
    · subst hk
      exact .inl ⟨v', x', valV_pos h, by simp [lookT], r⟩
    · have hk' : ¬ k' = fkK n := fun e => hk (fkK_inj (h.symm.trans e))
      have e1 : lookT (([m], x') :: xs) [n] = lookT xs [n] := by
        unfold lookT
        rw [List.find?_cons_of_neg (by simp [hk])]
      rw [valV_neg (p := (k', v')) hk', e1]
      exact RepFu.val t
theorem RepFu.length : ∀ {vs : List (Key × V)} {xs : List (List FK × F)}, RepFu K T Z vs xs → vs.length = xs.length
  | _, _, .nil => rfl
  | _, _, .cons _ _ t => by rw [List.length_cons, List.length_cons, RepFu.length t]
theorem RepFu.get : ∀ {vs : List (Key × V)} {xs : List (List FK × F)} {i : Nat} {p : List FK × F}, RepFu K T Z vs xs → xs[i]? = some p → ∃ n v, p.1 = [n] ∧ vs[i]? = some (fkK n, v) ∧ RepF K T Z v p.2
  | _, _, _, _, .nil, h => by simp at h
  | _, _, 0, _, .cons (n := m) e r _, h => by simp at h; subst h; exact ⟨m, _, rfl, by rw [e]; rfl, r⟩
  | _, _, i + 1, p, .cons _ _ t, h => by
    obtain ⟨n, v, e1, e, r⟩ := RepFu.get (i := i) (p := p) t (by simpa using h)
    exact ⟨n, v, e1, by simpa using e, r⟩
/-! ### keys, dicts -/
def keyW : W → Option (Bool × List FK)
  | .f (.ktp ks) => some (true, ks)
  | .f (.int i) => some (false, [.inl i])
  | .f (.str s) => some (false, [.inr s])
  | _ => none
def dictW (st : Store) : W → Option (Bool × List (List FK × F))
  | .f (.dlk t kvs) => some (t, kvs)
  | .loc n => match st[n]? with
    | some (.dti kvs) => some (true, kvs)
    | _ => none
  | _ => none
def getT (st : Store) (d k : W) : Option (Option F) := match dictW st d, keyW k with
  | some (t, kvs), some (u, ks) => if t = u then some (lookT kvs ks) else none
  | _, _ => none
/-! ### locking -/
def fkF : FK → F
  | .inl i => .int i
  | .inr s => .str s
def fkOf : F → Option FK
  | .int i => some (.inl i)
  | .str s => some (.inr s)
  | _ => none
end
section
variable {X : Cx} {T : Tab} {E : XK} {a b c e o i value tg : Expr} {es : List Expr} {ta tb tc te to tk tv tiv : TEv} {tr : TAv} {pos pos' apos cpos p p2 p3 : Pos} {ti : TIv} {g : TGv} {tt : TTv} {vs ss : List Nat}
/-! ### made -/
/-! ### asked -/
/-! ### stored -/
end
end VS

set_option Elab.async false
set_option linter.all false
set_option maxRecDepth 100000
set_option maxHeartbeats 4000000
set_option autoImplicit false
/-! XY: a dict's display with another dict in front: {**d, k: v}. -/
namespace PySem
section
variable {prog : Program} {w : World} {A : Around} {E : Value → Shared → Prop} {s : Shared} {K : Type} [DecidableEq K] {knd : KeyKind prog w K}
end
end PySem
namespace PySem
section
variable {prog : Program} {w : World} {A : Around} {E : Value → Shared → Prop} {s : Shared}
end
end PySem
namespace L2
open PySem PySem.Spec PyProof.Rows
end L2
namespace VS
open PySem PySem.Spec PyProof.Rows L2
section
variable {X : Cx} {T : Tab} {E : XK} {kx dx vx : Expr} {td tk tv : TEv} {pos : Pos}
end
end VS

set_option Elab.async false
set_option linter.all false
set_option maxRecDepth 100000
set_option maxHeartbeats 4000000
set_option autoImplicit false
/-! XN: locked dicts walked; dict comprehensions with tuples as keys. -/
namespace VS
open PySem PySem.Spec PyProof.Rows L2
section
variable {K : PySem.W.Frag} {T : Tab} {Z H : Hp} {ι : List Addr} {st : Store}
def itmT (p : List FK × F) : W := .f (.tup [.tup (p.1.map fkF), p.2])
def itmU (p : List FK × F) : W := .f (.tup [match p.1 with
  | [n] => fkF n
  | _ => .non, p.2])
end
section
variable {X : Cx} {T : Tab} {E : XK} {a b c e o i value tg : Expr} {es : List Expr} {ta tb tc te to tk tv tiv : TEv} {tr : TAv} {pos pos' apos cpos p p2 p3 : Pos} {ti : TIv} {g : TGv} {tt : TTv} {vs ss : List Nat}
/-! ### comprehensions -/
variable {kx vx iter : Expr} {ifs : List Expr} {scope : Scope} {own : List (Str × Nat)}
variable {py spos : Pos}
end
end VS

set_option Elab.async false
set_option linter.all false
set_option maxRecDepth 100000
set_option maxHeartbeats 4000000
set_option autoImplicit false
/-! WM: an expression that only looks at live cells. -/
namespace VS
open PySem PySem.Spec PyProof.Rows L2
/-- the names' cells as data; what is no data is left out -/
def thawE (st : Store) (env : Env) : Env := env.map fun o => o.bind fun w => (deepF 0 st 3 w).map W.f
section
variable {X : Cx} {T : Tab} {E : XK} {e : Expr} {te : TEv}
theorem sim_none {K : PySem.W.Frag} {T : Tab} {Z H : Hp} {ι : List Addr} {st : Store} (s : SimS K T Z ι st H) : SimS K T (zAll Z H ι 0) [] [] H := by
  refine ⟨fun a o e => ?_, rfl, List.nodup_nil, fun n a c h => (by simp at h), fun a h => (by simp at h), s.tab.step (fun a ps e => ?_) (fun a h => (by simp at h)) (fun _ _ e _ => e) fun a u e hn h0 => by
    unfold zAll
    rw [if_neg fun hd => hn (List.mem_of_mem_drop hd)]
    exact h0⟩
  rotate_right
  · unfold zAll at e
    by_cases ha : a ∈ ι.drop 0
    · rw [if_pos ha] at e
      exact absurd rfl ((s.tab.ct a (List.mem_of_mem_drop ha) _ e).1 ps)
    · rw [if_neg ha] at e
      exact e
  unfold zAll at e
  by_cases ha : a ∈ ι.drop 0
  · rw [if_pos ha] at e; exact e
  · rw [if_neg ha] at e; exact s.sub a o e
end
end VS

set_option Elab.async false
set_option linter.all false
set_option maxRecDepth 100000
set_option maxHeartbeats 4000000
set_option autoImplicit false
/-! WN: xs.extend(ys), ys a tuple. -/
namespace VS
open PySem PySem.Spec PyProof.Rows L2 PySem.AutoSeq1
set_option maxRecDepth 8000 in
section
variable {X : Cx} {T : Tab} {E : XK} {e o : Expr} {te to : TEv}
end
end VS

set_option Elab.async false
set_option linter.all false
set_option maxRecDepth 100000
set_option maxHeartbeats 4000000
set_option autoImplicit false
/-! WO: sorted of tuples of ints, of any lengths. -/
namespace VS
open PySem PySem.Spec PyProof.Rows L2 SrtO PySem.W PySem.Calls
/-- v is a tuple of these numbers -/
def TupI (h : Heap) (v : Value) (ns : List Int) : Prop :=
  ∃ (a : Addr) (dd : Option Addr) (items : Array Value) (n : Nat) (sl : Array (Option Value)), v = .ref a ∧ h.get? a = some { cls := .type "tuple", dict := dd, data := .seq items n, slots := sl } ∧ IntsAre items.toList ns
theorem TupI.keeps {h h' : Heap} {v : Value} {ns : List Int} (x : TupI h v ns) (k : ∀ b o, v = .ref b → h.get? b = some o → h'.get? b = some o) : TupI h' v ns := by
  obtain ⟨a, dd, items, n, sl, e, g, i⟩ := x
  exact ⟨a, dd, items, n, sl, e, k _ _ e g, i⟩
theorem TupI.type {M : Model} {h : Heap} {v : Value} {ns : List Int} (x : TupI h v ns) : Looks M h (typeOf v) (.type "tuple") := by
  obtain ⟨a, dd, items, n, sl, rfl, g, i⟩ := x
  exact (Looks.ld g).andThen .now
section
variable {prog : Program} {w : World} {A : Around} {E : Value → Shared → Prop} {s : Shared}
end
end VS

set_option Elab.async false
set_option linter.all false
set_option maxRecDepth 100000
set_option maxHeartbeats 4000000
set_option autoImplicit false
/-! XO: a locked dict copied, compared with another one; lists of pairs of an int and a text, sorted. -/
namespace VS
open PySem PySem.Spec PyProof.Rows L2 SrtO PySem.W PySem.Calls
/-! ### dict(d) -/
section
variable {X : Cx} {T : Tab} {E : XK} {e : Expr} {es : List Expr} {tr : TAv} {p pos : Pos}
end
/-! ### != of locked dicts -/
/-! ### sorted of pairs -/
def PairIS (h : Heap) (v : Value) (b : Int × List Nat) : Prop :=
  ∃ (a : Addr) (dd : Option Addr) (items : Array Value) (n : Nat) (sl : Array (Option Value)) (t1 t2 : Tok), v = .ref a ∧ h.get? a = some { cls := .type "tuple", dict := dd, data := .seq items n, slots := sl } ∧ items.toList = [.int b.1 t1, .str (S b.2) t2]
def encP (b : Int × List Nat) : PyData := .tuple [.int b.1, .str (S b.2)]
theorem PairIS.reads {h : Heap} {v : Value} {b : Int × List Nat} (x : PairIS h v b) : ∃ as, Reads h v (encP b) as := by
  obtain ⟨a, dd, items, n, sl, t1, t2, rfl, g, e⟩ := x
  exact ⟨_, .tuple g rfl rfl (by rw [e]; exact .cons (.int _ _) (.cons (.str _ _) .nil))⟩
@[irreducible] def sortP (l : List (Int × List Nat)) : List (Int × List Nat) := l.mergeSort (dataLe false encP)
section
variable {X : Cx} {T : Tab} {E : XK}
/-! over data -/
end
end VS

set_option Elab.async false
set_option linter.all false
set_option maxRecDepth 100000
set_option maxHeartbeats 4000000
set_option autoImplicit false
/-! XP: a locked dict's keys walked; a dict of a list of pairs. -/
namespace VS
open PySem PySem.Spec PyProof.Rows L2
/-! ### keys -/
section
variable {K : PySem.W.Frag} {T : Tab} {Z H : Hp} {ι : List Addr} {st : Store}
end
section
variable {X : Cx} {T : Tab} {E : XK} {e tg : Expr} {es : List Expr} {te : TEv} {tr : TAv} {p pos : Pos}
/-! ### dict of pairs -/
end
end VS

set_option Elab.async false
set_option linter.all false
set_option maxRecDepth 100000
set_option maxHeartbeats 4000000
set_option autoImplicit false
/-! XZ: the keys of a dict as a list, a dict copied as a cell, a name's dict locked ahead of a block. -/
namespace VS
open PySem PySem.Spec PyProof.Rows L2
/-! ### list(d) -/
section
variable {X : Cx} {T : Tab} {E : XK} {e : Expr} {es : List Expr} {tr : TAv} {p pos : Pos}
/-! ### dict(d) as a cell -/
end
/-! ### locked ahead of a block -/
section
variable {X : Cx} {T : Tab} {E : XK} {ss : List Stmt} {u : TSv} {i : Nat}
end
end VS

set_option Elab.async false
set_option linter.all false
set_option maxRecDepth 100000
set_option maxHeartbeats 4000000
set_option autoImplicit false
/-! WP: sorted of data that are tuples of ints. -/
namespace VS
open PySem PySem.Spec PyProof.Rows L2 SrtO PySem.W PySem.Calls
/-! ### the order -/
def insR (x : List Int) : List (List Int) → List (List Int)
  | [] => [x]
  | y :: l => if HT.lexLt y x = true then y :: insR x l else x :: y :: l
def sortR : List (List Int) → List (List Int)
  | [] => []
  | x :: l => insR x (sortR l)
/-! ### over the heap -/
theorem ints_inj : ∀ {vs : List Value} {ns ms : List Int}, IntsAre vs ns → IntsAre vs ms → ns = ms
  | _, _, _, .nil, .nil => rfl
  | _, _, _, .cons n t h, .cons _ _ h' => by rw [ints_inj h h']
theorem TupI.inj {h : Heap} {v : Value} {ns ms : List Int} (x : TupI h v ns) (y : TupI h v ms) : ns = ms := by
  obtain ⟨a, dd, items, n, sl, rfl, g, i⟩ := x
  obtain ⟨b, dd2, items2, n2, sl2, e, g2, i2⟩ := y
  cases e
  rw [g] at g2
  cases g2
  exact ints_inj i i2
open Classical in
def okRows (rs : List (List Int)) : Bool := decide (rs.length < 2) || (rs.all (fun r => !r.isEmpty) || match rs with
  | [] :: _ => true
  | _ => false)
section
variable {X : Cx} {T : Tab} {E : XK}
/-! ### over data -/
end
end VS

set_option Elab.async false
set_option linter.all false
set_option maxRecDepth 100000
set_option maxHeartbeats 4000000
set_option autoImplicit false
/-! WQ: sorted by key=len of tuples: what it does to the heap. -/
namespace VS
open PySem PySem.Spec PyProof.Rows L2 SrtO PySem.W PySem.Calls
def insBy {α : Type} (k : α → Int) (x : α) : List α → List α
  | [] => [x]
  | y :: l => if k y < k x then y :: insBy k x l else x :: y :: l
def sortBy {α : Type} (k : α → Int) : List α → List α
  | [] => []
  | x :: l => insBy k x (sortBy k l)
section
variable {α β : Type}
end
/-- things in the order of their keys -/
def sortZ {α : Type} (ks : List Int) (xs : List α) : List α := (sortBy (fun p : Int × α => p.1) (ks.zip xs)).map (·.2)
section
variable {prog : Program} {w : World} {A : Around} {E : Value → Shared → Prop} {s : Shared} {a kS : Addr} {e1 : Nat} {vs : List Value} {kz : List Int} {P : PySem.Fin → Shared → Prop}
end
end VS

set_option Elab.async false
set_option linter.all false
set_option maxRecDepth 100000
set_option maxHeartbeats 4000000
set_option autoImplicit false
/-! WR: sorted(xs, key=len), xs tuples. -/
namespace VS
open PySem PySem.Spec PyProof.Rows L2 SrtO PySem.W PySem.Calls
section
variable {prog : Program} {w : World} {A : Around} {E : Value → Shared → Prop} {s : Shared} {a : Addr} {vs : List Value} {kz : List Int}
end
end VS

set_option Elab.async false
set_option linter.all false
set_option maxRecDepth 100000
set_option maxHeartbeats 4000000
set_option autoImplicit false
/-! WS: sorted(xs, key=len) over data. -/
namespace VS
open PySem PySem.Spec PyProof.Rows L2 PySem.W PySem.Calls
section
variable {X : Cx} {T : Tab} {E : XK} {e : Expr} {te : TEv} {t : TA}
theorem Paired.at {α β : Type} {R : α → β → Prop} : ∀ {l : List α} {m : List β} {i : Nat} {x : α} {y : β}, Paired R l m → l[i]? = some x → m[i]? = some y → R x y
  | _, _, _, _, _, .nil, h, _ => by simp at h
  | _, _, 0, _, _, .cons r _, h, h2 => by simp at h h2; subst h h2; exact r
  | _, _, i + 1, _, _, .cons _ t, h, h2 => Paired.at (i := i) t (by simpa using h) (by simpa using h2)
theorem Paired.len {α β : Type} {R : α → β → Prop} : ∀ {l : List α} {m : List β}, Paired R l m → l.length = m.length
  | _, _, .nil => rfl
  | _, _, .cons _ t => by rw [List.length_cons, List.length_cons, Paired.len t]
/-! ### over data -/
end
end VS

set_option Elab.async false
set_option linter.all false
set_option maxRecDepth 100000
set_option maxHeartbeats 4000000
set_option autoImplicit false
/-! WT: sorted(set(xs)) as a new cell. -/
namespace VS
open PySem PySem.Spec PyProof.Rows L2
section
variable {X : Cx} {T : Tab} {E : XK} {e : Expr} {te : TEv} {p p2 p3 pos : Pos}
end
end VS

set_option Elab.async false
set_option linter.all false
set_option maxRecDepth 100000
set_option maxHeartbeats 4000000
set_option autoImplicit false
/-! WU: sorted(set(xs)) where few things are in xs, however often. -/
namespace VS
open PySem PySem.Spec PyProof.Rows L2
section
variable {X : Cx} {T : Tab} {E : XK} {e : Expr} {te : TEv} {p p2 p3 pos : Pos}
end
end VS

set_option Elab.async false
set_option linter.all false
set_option maxRecDepth 100000
set_option maxHeartbeats 4000000
set_option autoImplicit false
/-! XR: texts taken apart; integers of texts; xs[i], xs[j] = ..; try: S / except C as e: x = .. e.f ... -/
namespace VS
open PySem PySem.Spec PyProof.Rows L2
section
variable {X : Cx} {T : Tab} {E : XK} {o e : Expr} {to te : TEv} {apos cpos : Pos}
/-! ### partition, split -/
/-! ### int(text) -/
end
/-! ### xs[i] as a target among others -/
section
variable {X : Cx} {T : Tab} {E : XK} {pos' : Pos}
end
/-! ### try -/
section
open LX
variable {X : Cx} {T : Tab} {E : XK}
end
end VS

set_option Elab.async false
set_option linter.all false
set_option maxRecDepth 100000
set_option maxHeartbeats 1000000
set_option autoImplicit false
/-! XU: found = None; try: ask() / except C: found = text; return found. -/
namespace LX
open PySem PySem.Calls PySem.Spec PyProof.Rows L2 LamX NdefX
section
variable {X : Cx} {x a fd y q ret : Str} {sg : Scope} {g C : Addr} {cdg : Value} {p1 p2 p3 p4 p5 p6 p7 p8 p9 q1 q2 q3 q4 q5 : Pos} {j jj : Nat}
end
end LX
namespace VS
open PySem PySem.Spec PyProof.Rows L2 LX LamX NdefX
section
variable {X : Cx} {T : Tab} {E : XK}
end
end VS

set_option Elab.async false
set_option linter.all false
set_option maxRecDepth 100000
set_option maxHeartbeats 1000000
set_option autoImplicit false
/-! XT: for x, y in ((a, b), (c, d)): what stands there may be a place. -/
namespace VS
open PySem PySem.Spec PyProof.Rows L2
section
variable {X : Cx} {T : Tab} {E : XK} {u : TSv} {pos : Pos}
end
end VS

set_option Elab.async false
set_option linter.all false
set_option maxRecDepth 100000
set_option maxHeartbeats 2000000
set_option autoImplicit false
/-! XQ: lambdas as values, kept in a list; [f(ask) for ask in asks]. -/
namespace LamY
open PySem PySem.Spec PyProof.Rows L2 LamX
/-- a lambda that is known -/
def LamH (f : Addr) (ob : Obj) : HO := .ext fun h => h.get? f = some ob
abbrev lamQ (X : Cx) : Str := X.env.qual ++ "<lambda>"
abbrev lamOb (X : Cx) (params : Arguments) (body : Expr) (scope : Scope) (pm ctv : Value) (c' : Addr) : Obj := PySem.W.kla_obj "<lambda>" (lamQ X) params body scope (cloFrom X.env.cells scope.names []) pm c' ctv
section
variable {X : Cx}
/-- a lambda without parameters, and what its body reads -/
structure LamD (X : Cx) (k : Nat) where
  params : Arguments
  body : Expr
  scope : Scope
  pos : Pos
  t : XK → TE
  L : LamS X.env.scope scope
  hdef : defaultsOf params X.env = ([], [])
  hbind : ∀ (q : Str) (cl : List (Str × Addr)) (pm cv ctv : Value), bindArgs (PySem.W.kla_fn "<lambda>" q params body scope cl pm cv ctv) ⟨[], []⟩ = pure []
  hbody : ∀ (A : Around) (outer : List PySem.Env) (s : Shared) (H : Hp) (E : XK) (f c' : Addr), Room k (A.deeper (lamEnv X scope s.heap.objs.size f c')) → PE (lamCx X A outer s H E scope f c') body (t E)
/-- the lambda at f -/
def LamAt (X : Cx) {k : Nat} (d : LamD X k) (f : Addr) (H : Hp) : Prop := ∃ (c' : Addr) (pm ctv : Value), H c' = some (CodeO c' (lamQ X)) ∧ H f = some (LamH f (lamOb X d.params d.body d.scope pm ctv c'))
end
end LamY

set_option Elab.async false
set_option linter.all false
set_option maxRecDepth 100000
set_option maxHeartbeats 2000000
set_option autoImplicit false
/-! XV: a list of lambdas, asked one behind another: the V rules. -/
namespace VS
open PySem PySem.Spec PyProof.Rows L2 LamX LX LamY
section
variable {K : PySem.W.Frag} {T : Tab} {E : XK} {Z H : Hp} {ι : List Addr} {st : Store}
/-- what lies in no cell may be kept -/
theorem SimS.know {a : Addr} {o : HO} (s : SimS K T Z ι st H) (ho : H a = some o) (hn : a ∉ ι) (ht : ∀ ps, o ≠ .tbl ps) : SimS K T (upd Z a o) ι st H ∧ Le Z ι (upd Z a o) ι := by
  have hs : Same Z (upd Z a o) := fun b u e => by
    by_cases h : b = a
    · subst h
      have := s.sub _ _ e
      rw [ho] at this
      cases this
      exact upd_same
    · rw [upd_ne h]; exact e
  have l : Le Z ι (upd Z a o) ι := ⟨hs, fun _ _ h => h⟩
  refine ⟨⟨fun b u e => ?_, s.len, s.nd, fun n b c h1 h2 => ?_, s.there, ⟨fun b ps e => ?_, s.tab.ct, fun p hp => ⟨?_, (s.tab.tb p hp).2⟩⟩⟩, l⟩
  · by_cases h : b = a
    · subst h; rw [upd_same] at e; cases e; exact ho
    · rw [upd_ne h] at e; exact s.sub b u e
  · have hba : b ≠ a := fun q => hn (q ▸ List.mem_of_getElem? h1)
    have k := s.cell n b c h1 h2
    have up : ∀ {z : Hp}, z b = none → z = Z → upd Z a o b = none := fun q e => by rw [upd_ne hba, ← e]; exact q
    cases c with
    | dead => trivial
    | lstF xs => obtain ⟨n, vs, q, r⟩ := k; exact ⟨up n rfl, vs, q, r.mono hs⟩
    | lstW xs => obtain ⟨n, vs, q, r⟩ := k; exact ⟨up n rfl, vs, q, r.mono l⟩
    | dct xs => obtain ⟨n, vs, q, r⟩ := k; exact ⟨up n rfl, vs, q, r.mono hs⟩
    | dti xs => obtain ⟨n, vs, q, r⟩ := k; exact ⟨up n rfl, vs, q, r.mono hs⟩
    | ins c fs => obtain ⟨n, dx, fvs, q, hc, r⟩ := k; exact ⟨up n rfl, dx, fvs, q, hc, r.mono l⟩
  · by_cases h : b = a
    · subst h; rw [upd_same] at e; cases e; exact ht ps rfl
    · rw [upd_ne h] at e; exact s.tab.zt b ps e
  · obtain ⟨h1, ps, h2, _⟩ := s.tab.tb p hp
    rw [upd_ne fun q => ht ps (by rw [q, ho] at h2; exact Option.some.inj h2)]
    exact h1
end
/-- a lambda's text, and what it computes -/
structure LamV (X : Cx) (T : Tab) (k : Nat) where
  params : Arguments
  body : Expr
  scope : Scope
  pos : Pos
  tb : TEv
  L : LamS X.env.scope scope
  hdef : defaultsOf params X.env = ([], [])
  hbind : ∀ (q : Str) (cl : List (Str × Addr)) (pm cv ctv : Value), bindArgs (PySem.W.kla_fn "<lambda>" q params body scope cl pm cv ctv) ⟨[], []⟩ = pure []
  hbody : ∀ (A : Around) (outer : List PySem.Env) (s : Shared) (H : Hp) (E : XK) (f c' : Addr), Room k (A.deeper (lamEnv X scope s.heap.objs.size f c')) → VE (lamCx X A outer s H E scope f c') T E body tb
def LamV.D {X : Cx} {T : Tab} {k : Nat} (d : LamV X T k) : LamD X k := ⟨d.params, d.body, d.scope, d.pos, fun E => RdE X.K T E d.tb, d.L, d.hdef, d.hbind, d.hbody⟩
def LamsAt (X : Cx) (T : Tab) (k : Nat) (ds : List (LamV X T k)) (fs : List Addr) (Z : Hp) : Prop := ds.length = fs.length ∧ ∀ (n : Nat) (d : LamV X T k) (f : Addr), ds[n]? = some d → fs[n]? = some f → LamAt X d.D f Z
section
variable {X : Cx} {T : Tab} {E : XK} {k i : Nat} {ds : List (LamV X T k)}
theorem lamAt_mono {d : LamD X k} {f : Addr} {Z Z' : Hp} (h : LamAt X d f Z) (s : Same Z Z') : LamAt X d f Z' := by
  obtain ⟨c', pm, ctv, h1, h2⟩ := h
  exact ⟨c', pm, ctv, s _ _ h1, s _ _ h2⟩
theorem LamsAt.mono {fs : List Addr} {Z Z' : Hp} (h : LamsAt X T k ds fs Z) (s : Same Z Z') : LamsAt X T k ds fs Z' := ⟨h.1, fun n d f e1 e2 => lamAt_mono (h.2 n d f e1 e2) s⟩
theorem LamsAt.snoc {fs : List Addr} {Z : Hp} {d : LamV X T k} {f : Addr} (h : LamsAt X T k ds fs Z) (h1 : LamAt X d.D f Z) : LamsAt X T k (ds ++ [d]) (fs ++ [f]) Z := by
  refine ⟨by simp [h.1], fun n d' f' e1 e2 => ?_⟩
  rcases get_app_cases e1 with z | ⟨z, rfl⟩
  · have hlt : n < fs.length := by rw [← h.1]; exact (List.getElem?_eq_some_iff.mp z).1
    rw [List.getElem?_append_left hlt] at e2
    exact h.2 n d' f' z e2
  · rw [z, h.1, List.getElem?_append_right (Nat.le_refl _), Nat.sub_self] at e2
    cases e2
    exact h1
variable {x y : Str} {params : Arguments} {body : Expr} {scope : Scope} {pos p0 p1 p2 p3 p4 : Pos} {tb : TEv} {rest : List Stmt} {t : TSv} {jj : Nat}
variable {P : Hp → L2.St → Prop} {tc te : TEv}
end
end VS

set_option Elab.async false
set_option linter.all false
set_option maxRecDepth 100000
set_option maxHeartbeats 4000000
set_option autoImplicit false
/-! WV: dicts without entries: == of them, dict([.. for k in d]). -/
namespace VS
open PySem PySem.Spec PyProof.Rows L2
section
variable {X : Cx} {T : Tab} {E : XK} {e : Expr} {te : TEv} {p p2 p3 pos : Pos}
variable {elt tg : Expr} {ifs : List Expr} {scope : Scope} {own : List (Str × Nat)} {tg1 : TGv} {tt : TTv} {te2 : TEv} {x : Str} {i : Nat} {pl : Pos} {ss : List Nat}
end
end VS

set_option Elab.async false
set_option linter.all false
set_option maxRecDepth 100000
set_option maxHeartbeats 4000000
set_option autoImplicit false
/-! WW: tuples many times. -/
namespace VS
open PySem PySem.Spec PyProof.Rows L2
section
variable {X : Cx} {T : Tab}
end
end VS

set_option Elab.async false
set_option linter.all false
set_option maxRecDepth 100000
set_option maxHeartbeats 4000000
set_option autoImplicit false
/-! YA: the keys of a locked dict as a new list's cell. -/
namespace VS
open PySem PySem.Spec PyProof.Rows L2
section
variable {X : Cx} {T : Tab} {E : XK} {e : Expr} {es : List Expr} {tr : TAv} {p pos : Pos}
end
end VS

set_option Elab.async false
set_option linter.all false
set_option maxRecDepth 100000
set_option maxHeartbeats 4000000
set_option autoImplicit false
/-! YB1: list(zip(x, y)) over two iterators of any kind: the tuples given out stay, so the zip makes a new one each time. -/
namespace PySem
open PySem.Calls PyProof.Rows PyProof.V PySem.Spec
section
variable {prog : Program} {w : World} {A : Around} {E : Value → Shared → Prop} {s : Shared} {z TI TO T i1 i2 : Addr} {f : Bool} {oT : Obj} {fp1 fp2 : List Addr} {n1 n2 i : Nat} {P1 P2 : Nat → Value → Prop} {St1 St2 : Nat → Heap → Prop}
end
section
variable {prog : Program} {w : World} {A : Around} {E : Value → Shared → Prop} {s : Shared} {z TI TO T i1 i2 : Addr} {f : Bool} {oT : Obj} {fp1 fp2 : List Addr} {n1 n2 i : Nat} {P1 P2 : Nat → Value → Prop} {St1 St2 : Nat → Heap → Prop}
end
/-- the state of the walk behind i items; l: the list that takes them -/
structure ZlSt (St1 St2 : Nat → Heap → Prop) (z TI TO i1 i2 l : Addr) (i : Nat) (h : Heap) : Prop where
  ti : IsTupOf2 h TI (.ref i1) (.ref i2)
  s1 : St1 i h
  s2 : St2 i h
  zz : (IsZip h z TI TO .none ∧ ∃ a b, IsTupOf2 h TO a b) ∨ ∃ T f oT, IsZipHeld h z TI TO T f ∧ h.get? T = some oT ∧ T ≠ z ∧ T ≠ i1 ∧ T ≠ i2 ∧ T ≠ l
/-- the tuples that were given out -/
structure ZlG (P1 P2 : Nat → Value → Prop) (lo : Addr) (h : Heap) (as : List Addr) : Prop where
  rise : as.Pairwise (· < ·)
  above : ∀ a ∈ as, lo < a
  pairs : ∀ (j : Nat) (a : Addr), as[j]? = some a → ∃ x y, P1 j x ∧ P2 j y ∧ h.get? a = some { cls := .type "tuple", data := .seq #[x, y] }
theorem ZlG.there {P1 P2 : Nat → Value → Prop} {lo : Addr} {h : Heap} {as : List Addr} (g : ZlG P1 P2 lo h as) {a : Addr} (ha : a ∈ as) : a < h.objs.size := by
  obtain ⟨j, hj⟩ := List.mem_iff_getElem?.mp ha
  obtain ⟨_, _, _, _, e⟩ := g.pairs j a hj
  exact Heap.lt_size e
section
variable {prog : Program} {w : World} {A : Around} {s : Shared} {R : Result → Shared → Prop} {z TI TO i1 i2 : Addr} {fp1 fp2 : List Addr} {n1 n2 : Nat} {P1 P2 : Nat → Value → Prop} {St1 St2 : Nat → Heap → Prop}
theorem ZlSt.keep {l : Addr} {i : Nat} {h h' : Heap} (S : ZipSep2 z TI TO i1 i2 fp1 fp2) (D1 : Draws prog w A i1 fp1 n1 P1 St1) (D2 : Draws prog w A i2 fp2 n2 P2 St2) (st : ZlSt St1 St2 z TI TO i1 i2 l i h)
    (hl : l ∉ z :: TI :: TO :: (fp1 ++ fp2)) (k : ∀ b o, b ≠ l → h.get? b = some o → h'.get? b = some o) : ZlSt St1 St2 z TI TO i1 i2 l i h' := by
  have lz : z ≠ l := fun e => hl (by simp [e])
  have lTI : TI ≠ l := fun e => hl (by simp [e])
  have lTO : TO ≠ l := fun e => hl (by simp [e])
  obtain ⟨hTI, st1, st2, hzz⟩ := st
  refine ⟨k _ _ lTI hTI, D1.frame _ _ _ st1 fun b hb o e => k b o (fun x => hl (by simp [x ▸ hb])) e, D2.frame _ _ _ st2 fun b hb o e => k b o (fun x => hl (by simp [x ▸ hb])) e, ?_⟩
  rcases hzz with ⟨hz, a, b, hTO⟩ | ⟨T, f, oT, hz, hT, r1, r2, r3, r4⟩
  · exact .inl ⟨k _ _ lz hz, a, b, k _ _ lTO hTO⟩
  · exact .inr ⟨T, f, oT, k _ _ lz hz, k _ _ r4 hT, r1, r2, r3, r4⟩
end
section
variable {prog : Program} {w : World} {A : Around} {E : Value → Shared → Prop} {s : Shared} {R : Result → Shared → Prop} {z TI TO i1 i2 : Addr} {fp1 fp2 : List Addr} {n1 n2 : Nat} {P1 P2 : Nat → Value → Prop} {St1 St2 : Nat → Heap → Prop}
end
end PySem

set_option Elab.async false
set_option linter.all false
set_option maxRecDepth 100000
set_option maxHeartbeats 4000000
set_option autoImplicit false
/-! YB: list(zip(x, y)) as data. -/
namespace VS
open PySem PySem.Spec PyProof.Rows L2
section
variable {X : Cx}
section
variable {pins : List (Addr × Obj)} {σ : L2.St} {H : Hp} {s : Shared}
end
end
section
variable {X : Cx} {T : Tab} {E : XK} {e e2 : Expr} {tr : TAv} {p p2 pos pos2 : Pos}
end
end VS

set_option Elab.async false
set_option linter.all false
set_option maxRecDepth 100000
set_option maxHeartbeats 4000000
set_option autoImplicit false
/-! YC: tuples that are keys: as they come from items(), as tuples again, asked by get with a value for none. -/
namespace VS
open PySem PySem.Spec PyProof.Rows L2
section
variable {K : PySem.W.Frag} {T : Tab} {Z : Hp} {ι : List Addr}
end
section
variable {X : Cx} {T : Tab} {E : XK} {e f o : Expr} {te tf to : TEv} {apos cpos : Pos}
end
end VS

set_option Elab.async false
set_option linter.all false
set_option maxRecDepth 100000
set_option maxHeartbeats 4000000
set_option autoImplicit false
/-! YD: several clauses, some 'except X as e' with a field told, some 'except X' with a tag alone. -/
namespace LX2
open PySem PySem.Calls PySem.Spec PyProof.Rows L2 LamX NdefX
open LX hiding triX TTri TriH triT tri_hds tri_wish tri_gives
/-- told of an exception: its tag and its field -/
def triX (K : PySem.W.Frag) : List (Addr × Str × Option Str) → Value → Option Addr → Hp → VK → Prop
  | [], _, _, _, _ => False
  | (C, tag, none) :: r, cls, d, H, Q => ∃ b, PySem.W.exmOne K cls (.ref C) = some b ∧ (b = true → ∀ l, H l = none → Q (.ref l) (upd H l (.tup [.str tag]))) ∧ (b = false → triX K r cls d H Q)
  | (C, tag, some f) :: r, cls, d, H, Q => ∃ b, PySem.W.exmOne K cls (.ref C) = some b ∧
      (b = true → cls = .ref C ∧ ∃ (dd : Addr) (fs : List (Str × V)) (v : V), d = some dd ∧ H dd = some (.xd fs) ∧ fs.lookup f = some v ∧ ∀ l, H l = none → Q (.ref l) (upd H l (.tup [.str tag, v]))) ∧ (b = false → triX K r cls d H Q)
/-- told: found = None; try: a() / except .. as e: found = (tag, e.f) ..; return found -/
def TTri (K : PySem.W.Frag) (hl : List (Addr × Str × Option Str)) : (XK → Hp → VK → Prop) → Hp → VK → Prop := fun tl H Q => tl (fun cls d H' => triX K hl cls d H' Q) H fun _ H' => Q .non H'
inductive TriH (K : PySem.W.Frag) (mg : Str → Option Value) (sg : Scope) (fd e : Str) : List ExceptHandler → List (Addr × Str × Option Str) → Prop
  | nil : TriH K mg sg fd e [] []
  | cons {x tag f : Str} {C : Addr} {np p1 p2 p3 p4 p5 p6 pos : Pos} {j k : Nat} {hds : List ExceptHandler} {r : List (Addr × Str × Option Str)} (hg : sg.names.lookup x = some .globalImplicit) (hd : (x == ("__debug__" : Str)) = false) (hm : mg x = some (.ref C)) (xf : XfC K C) (hno : PySem.W.findIn K (.ref C) f = some none)
      (hx : (f == ("__class__" : Str)) = false) (t : TriH K mg sg fd e hds r) :
      TriH K mg sg fd e (.ExceptHandler (some (.Name x np)) (some e) [.Assign [.Name fd p1] (.Tuple [.Constant (.str tag) j p2, .Attribute (.Name e p3) f p4] k p5) p6] pos :: hds) ((C, tag, some f) :: r)
  | pl {x tag : Str} {C : Addr} {np p1 p2 p5 p6 pos : Pos} {j k : Nat} {hds : List ExceptHandler} {r : List (Addr × Str × Option Str)} (hg : sg.names.lookup x = some .globalImplicit) (hd : (x == ("__debug__" : Str)) = false) (hm : mg x = some (.ref C)) (t : TriH K mg sg fd e hds r) :
      TriH K mg sg fd e (.ExceptHandler (some (.Name x np)) none [.Assign [.Name fd p1] (.Tuple [.Constant (.str tag) j p2] k p5) p6] pos :: hds) ((C, tag, none) :: r)
def triT : Addr × Str × Option Str → Value × (Addr → Value → Option Addr → TS)
  | (C, tag, some f) => (.ref C, tAs 2 fun a cls d => tAsg (tTup (tCons (tC (.str tag)) (tCons (tXf a cls d C f (tVar 2)) tNil))) (gName 1))
  | (C, tag, none) => (.ref C, fun _ _ _ => tAsg (tTup (tCons (tC (.str tag)) tNil)) (gName 1))
section
variable {X : Cx} {x a fd e q : Str} {sg : Scope} {g : Addr} {cdg : Value} {hds : List ExceptHandler} {hl : List (Addr × Str × Option Str)} {p1 p2 p3 p4 p5 p6 p7 p8 p9 : Pos} {j : Nat}
theorem tri_hds {X' : Cx} (hK : X'.K = X.K) (hmg : X'.mg = X.mg) (hsc : X'.env.scope = sg) (hN : X'.N.Nodup) (h1 : X'.N[1]? = some fd) (h2 : X'.N[2]? = some e) (hfd : sg.names.lookup fd = some .local) (he : sg.names.lookup e = some .local) (hfn : ∀ y, X'.fn y = true)
    (hd1 : (e == ("__debug__" : Str)) = false) (hd2 : (e == ("__classdict__" : Str)) = false) (hb : ∀ f p, attributeBase (.Name e p) f X'.env (eval (.Name e p) X'.env) = eval (.Name e p) X'.env)
    (hsw : ∀ (tag f : Str) (jj k : Nat) (p1 p2 p3 p4 p5 p6 : Pos), swapsWith (.Tuple [.Constant (.str tag) jj p2, .Attribute (.Name e p3) f p4] k p5) (some (.Name fd p1)) p6.line X'.env = pure false)
    (hsw2 : ∀ (tag : Str) (jj k : Nat) (p1 p2 p5 p6 : Pos), swapsWith (.Tuple [.Constant (.str tag) jj p2] k p5) (some (.Name fd p1)) p6.line X'.env = pure false)
    (t : TriH X.K X.mg sg fd e hds hl) : HdsA X' hds (hl.map triT) := by
  induction t with
  | nil => exact .nil
  | @pl x tag C np p1 p2 p5 p6 pos jj k hds r hg hd hm t ih =>
    refine .plain ⟨by show X'.env.scope.names.lookup x = _; rw [hsc]; exact hg, hd, .inl (by rw [hmg]; exact hm)⟩ (fun a oe cls d pn hz hf => ?_) ih
    exact pss_one (ps_set (i := 1) hN h1 (.inl (by show X'.env.scope.names.lookup fd = _; rw [hsc]; exact hfd)) (pe_tup (pa_cons pe_str pa_nil)) (hsw2 _ _ _ _ _ _ _) (.inl (hfn _)))
  | @cons x tag f C np p1 p2 p3 p4 p5 p6 pos jj k hds r hg hd hm xf hno hx t ih =>
    refine .as_ hN h2 (by show X'.env.scope.names.lookup e = _; rw [hsc]; exact he) ⟨by show X'.env.scope.names.lookup x = _; rw [hsc]; exact hg, hd, .inl (by rw [hmg]; exact hm)⟩ (fun a oe cls d pn hz hf => ?_) ih
    refine pss_one (ps_set (i := 1) hN h1 (.inl (by show X'.env.scope.names.lookup fd = _; rw [hsc]; exact hfd)) (pe_tup (pa_cons pe_str (pa_cons (pe_xf (by show XfC X'.K C; rw [hK]; exact xf) (by show PySem.W.findIn X'.K (.ref C) f = _; rw [hK]; exact hno) hz hf (pe_var (i := 2) h2 (.inl (by show X'.env.scope.names.lookup e = _; rw [hsc]; exact he)) hd1 hd2) (hb f p3)) pa_nil))) (hsw _ _ _ _ _ _ _ _ _ _) (.inl (hfn _)))
/-- told of all exceptions that the clauses name -/
theorem tri_wish {K : PySem.W.Frag} {D : Ends} {H : Hp} {cls : Value} {d : Option Addr} {Q : VK} {σ : L2.St} (hσ : σ.length = 3) (hD : ∀ σ' H', D.nx σ' H' ↔ ∃ v, σ'[1]? = some (some v) ∧ Q v H') :
    ∀ (hl : List (Addr × Str × Option Str)), triX K hl cls d H Q → wAll K D (hl.map triT) cls d σ H
  | [], h => h
  | (C, tag, none) :: r, ⟨b, h1, h2, h3⟩ => by
    refine ⟨b, h1, fun hb a na => ?_, fun hb => tri_wish hσ hD r (h3 hb)⟩
    refine ⟨show (1 : Nat) ≤ sizeLine by rw [sizeLine_eq]; decide, fun p hp => ?_⟩
    refine (hD _ _).mpr ⟨.ref p, ?_, h2 hb p hp⟩
    rw [List.getElem?_set_self (by rw [hσ]; decide)]
  | (C, tag, some f) :: r, ⟨b, h1, h2, h3⟩ => by
    refine ⟨b, h1, fun hb a na => ?_, fun hb => tri_wish hσ hD r (h3 hb)⟩
    obtain ⟨hc, dd, fs, v, e1, e2, e3, e4⟩ := h2 hb
    refine ⟨.ref a, by rw [List.getElem?_set_self (by rw [hσ]; decide)], rfl, hc, dd, fs, v, e1, e2, e3, show (2 : Nat) ≤ sizeLine by rw [sizeLine_eq]; decide, fun p hp => ?_⟩
    refine (hD _ _).mpr ⟨.ref p, ?_, e4 p hp⟩
    rw [List.getElem?_set_ne (by decide), List.getElem?_set_self (by rw [List.length_set, hσ]; decide)]
theorem tri_gives (hge : TriH X.K X.mg sg fd e hds hl) (hne : hds ≠ []) (nd : [a, fd, e].Nodup) (hfd : sg.names.lookup fd = some .local) (he : sg.names.lookup e = some .local)
    (hd1 : (e == ("__debug__" : Str)) = false) (hd2 : (e == ("__classdict__" : Str)) = false) (hd3 : (fd == ("__debug__" : Str)) = false) (hd4 : (fd == ("__classdict__" : Str)) = false) :
    GivesTo X [a, fd, e] x sg g cdg [.Assign [.Name fd p1] (.Constant .none j p2) p3, .Try [.Expr (.Call (.Name a p4) [] [] p5) p9] hds [] [] p6, .Return (some (.Name fd p7)) p8] a q (TTri X.K hl) := by
  intro f c' s H Q tl act hc h
  obtain ⟨h₀, hds', rfl⟩ : ∃ h₀ hds', hds = h₀ :: hds' := by
    cases hds with
    | nil => exact absurd rfl hne
    | cons a b => exact ⟨a, b, rfl⟩
  have hT := hge
  refine ⟨_, pss_cons (ps_set (i := 1) nd rfl (.inl hfd) pe_non) (pss_cons (ps_try_all (X := (cxOf C8.CX0 X.prog X.w X.K X.mg X.base [a, fd, e] x sg g cdg X.A X.stack s H C8.E0).nox)
    (tb := fun W D σ H => ∃ Ech : XK, (∀ cls d σ' H', Ech cls d H' → σ'.length = 3 → W cls d σ' H') ∧ σ[0]? = some (some (.ref f)) ∧ H c' = some (CodeO c' q) ∧ tl Ech H fun _ H' => D.nx σ H')
    rfl rfl (fun W pn xe tk _ => ?_) (tri_hds (X := X) rfl rfl rfl nd rfl rfl hfd he (fun _ => rfl) hd1 hd2 (fun _ _ => rfl) (fun _ _ _ _ _ _ _ _ _ _ => rfl) (fun _ _ _ _ _ _ _ => rfl) hT)) (pss_one (ps_ret (pe_var (i := 1) rfl (.inl hfd) hd3 hd4)))), ?_⟩
  · refine ⟨fun pins s' σ H' D I h' => ?_⟩
    obtain ⟨Ech, hW, h1, h2, h3⟩ := h'
    have hp := act _ pn xe Ech p4 p5 (LX.takes_len tk) (fun cls d σ' H' q hl => hW cls d σ' H' q hl)
    exact (pss_one (ps_expr (pos := p9) hp)).run pins s' σ H' D I ⟨h1, h2, h3⟩
  · refine ⟨fun cls d H' => triX X.K _ cls d H' Q, fun cls d σ' H' q hl => tri_wish hl (fun _ _ => Iff.rfl) _ q, rfl, hc, ?_⟩
    have e2 : (fun (_ : V) (H' : Hp) => ∃ v, ((L2.start [a, fd, e] [V.ref f]).set 1 (some V.non))[1]? = some (some v) ∧ Q v H') = fun _ H' => Q .non H' := by
      funext _ H'
      exact propext ⟨fun ⟨v, e, q⟩ => by cases e; exact q, fun q => ⟨_, rfl, q⟩⟩
    show tl _ H (fun (_ : V) (H' : Hp) => ∃ v, ((L2.start [a, fd, e] [V.ref f]).set 1 (some V.non))[1]? = some (some v) ∧ Q v H')
    rw [e2]
    exact h
end
end LX2

namespace VS
open PySem PySem.Spec PyProof.Rows L2 LamX LX
section
variable {K : PySem.W.Frag} {T : Tab} {E : XK} {Z H H1 : Hp} {ι : List Addr} {st : Store}
end
section
variable {X : Cx} {T : Tab} {E : XK}
end
end VS

namespace VS
open PySem PySem.Spec PyProof.Rows L2
end VS

set_option Elab.async false
set_option linter.all false
set_option maxRecDepth 100000
set_option maxHeartbeats 4000000
set_option autoImplicit false
/-! YE: defs whose last statement tells a pair of data and a value (a live cell, say); the pair taken apart by its caller. -/
namespace VS
open PySem PySem.Spec PyProof.Rows L2
abbrev TPv := Env → Store → Res (F × W)
abbrev FnM2 := List W → Store → Res (F × W)
section
variable {K : PySem.W.Frag} {T : Tab} {E : XK}
def PQ (Q : VK) : F × W → Store → Hp → Hp → List Addr → Prop := fun p _ H' Z' ι' => ∀ v1 v2 a, SqT K Z' a [v1, v2] → RepF K T Z' v1 p.1 → RepW K T Z' ι' v2 p.2 → Q (.ref a) H'
variable (K T E) in
def spM2 (K : PySem.W.Frag) (T : Tab) (m : FnM2) : Sp := fun vs H Q E => ∃ Z ι ws st, SimS K T Z ι st H ∧ RepWs K T Z ι vs ws ∧ Post K T E Z ι (m ws st) (PQ (K := K) (T := T) Q)
end
section
variable {X : Cx} {T : Tab} {E : XK} {es : List Expr} {tr : TAv} {pos pos' : Pos} {s : Stmt} {ss : List Stmt} {u : TSv} {r : TPv} {x1 : Nat}
end
section
variable {P : Program} {w : World} {K : PySem.W.Frag} {mg : Str → Option Value} {base : Heap} {T : Tab} {x qual : Str} {params : Arguments} {body : List Stmt} {scope : Scope} {dvs : List V} {kws : List (Str × V)} {f : Addr} {fd : FuncData} {N ps : List Str} {k : Nat} {t : TPv}
end
/-- the def at f tells pairs -/
structure Fn2 (P : Program) (w : World) (K : PySem.W.Frag) (mg : Str → Option Value) (base : Heap) (T : Tab) (CX : CXT) (k : Nat) (f : Addr) (m : FnM2) : Prop where
  ex : ∃ (fd : FuncData) (ps : List Str), FnOk P w K mg base CX k f fd ps (spM2 K T m) ∧ Binds K fd ps []
  kp : PySem.W.keepIn K (.ref f) = true
section
variable {X : Cx} {T : Tab} {E : XK} {CX : CXT} {k : Nat} {f : Addr} {m : FnM2} {x : Str} {p pos pos' : Pos} {e : Expr} {es ts : List Expr} {gs : List TM} {tr : TAv} {kt : Nat} {pt : Pos}
end
/-! ### d["a"] as a target among others -/
section
variable {X : Cx} {T : Tab} {E : XK} {pos' : Pos}
end
end VS

set_option Elab.async false
set_option linter.all false
set_option maxRecDepth 100000
set_option maxHeartbeats 4000000
set_option autoImplicit false
/-! YF: the keys of a locked dict with tuple keys. -/
namespace VS
open PySem PySem.Spec PyProof.Rows L2
/-! ### the keys of a locked dict with tuple keys, as keys -/
section
variable {K : PySem.W.Frag} {T : Tab} {Z : Hp} {ι : List Addr}
end
section
variable {X : Cx} {T : Tab} {E : XK} {tg e : Expr} {te : TEv}
end
end VS

set_option Elab.async false
set_option linter.all false
set_option maxRecDepth 100000
set_option maxHeartbeats 4000000
set_option autoImplicit false
/-! YG: dict(a list of pairs) as a live cell. -/
namespace VS
open PySem PySem.Spec PyProof.Rows L2
section
variable {X : Cx} {T : Tab} {E : XK} {e : Expr} {es : List Expr} {tr : TAv} {p pos : Pos}
end
end VS

set_option Elab.async false
set_option linter.all false
set_option maxRecDepth 100000
set_option maxHeartbeats 4000000
set_option autoImplicit false
/-! YH: xs[i] += e. -/
namespace VS
open PySem PySem.Spec PyProof.Rows L2
section
variable {X : Cx} {T : Tab} {E : XK} {o i e : Expr} {to ti te : TEv} {pos tpos : Pos}
end
/-! ### a != b, each an own object or None (None against an object is not told) -/
section
variable {X : Cx} {T : Tab} {E : XK} {a b : Expr} {ta tb : TEv} {pos : Pos} {CX : CXT} {k c : Nat} {f : Addr} {m : FnM}
end
/-! ### xs * n as a cell -/
section
variable {X : Cx} {T : Tab} {E : XK} {a b : Expr} {ta tb : TEv} {pos : Pos}
end
/-! ### != of locked dicts of texts -/
end VS

set_option Elab.async false
set_option linter.all false
set_option maxRecDepth 100000
set_option maxHeartbeats 4000000
set_option autoImplicit false
/-! YI: xs.remove(k) of whole numbers, list(range(a, b)) as a cell, sorted forms of trees. -/
namespace VS
open PySem PySem.Spec PyProof.Rows L2 PySem.W
/-! ### remove -/
def intL : List F → Option (List Int)
  | [] => some []
  | .int i :: r => (intL r).map (i :: ·)
  | _ => none
def remI (ns : List Int) (k : Int) : Option (List Int) := (ns.findIdx? fun x => decide (x = k)).map fun j => ns.eraseIdx j
def cRemI : CellOp := fun c ws => match c, ws with
  | .lstF xs, [.f (.int k)] => (intL xs).bind fun ns => (remI ns k).map fun ms => (.f .non, .lstF (ms.map F.int))
  | _, _ => none
theorem intL_eq : ∀ {xs : List F} {ns : List Int}, intL xs = some ns → xs = ns.map F.int
  | [], _, h => by cases h; rfl
  | .int i :: r, ns, h => by
    have h : (intL r).map (i :: ·) = some ns := h
    obtain ⟨m, e, rfl⟩ := opt_map_some h
    rw [intL_eq e]; rfl
  | .non :: _, _, h => by cases h
  | .bl _ :: _, _, h => by cases h
  | .str _ :: _, _, h => by cases h
  | .lst _ :: _, _, h => by cases h
  | .tup _ :: _, _, h => by cases h
  | .dct _ :: _, _, h => by cases h
  | .obj _ _ :: _, _, h => by cases h
  | .scr _ :: _, _, h => by cases h
  | .dlk _ _ :: _, _, h => by cases h
  | .ktp _ :: _, _, h => by cases h
theorem repInts {K : PySem.W.Frag} {T : Tab} {Z : Hp} : ∀ {ns : List Int} {us : List V}, RepFs K T Z us (ns.map F.int) → us = ns.map V.int
  | [], us, r => by
    have r : RepFs K T Z us [] := r
    cases r; rfl
  | n :: ns, us, r => by
    have r : RepFs K T Z us (F.int n :: ns.map F.int) := r
    cases r with
    | cons r1 r2 =>
      cases r1
      rw [repInts r2]; rfl
section
variable {X : Cx} {T : Tab} {E : XK} {o e : Expr} {to te : TEv} {apos cpos : Pos}
theorem mut_remI : MutOk X T rRemI cRemI := by
  intro Z H ι a c c' ws w vs Q s k r h q
  cases c with
  | lstF xs =>
    obtain ⟨hz, us, e, ru⟩ := k
    cases r with
    | nil => cases h
    | cons r1 r2 =>
      cases r1 with
      | loc _ => cases h
      | f r1 =>
        cases r1 with
        | int i =>
          cases r2 with
          | cons _ _ => cases h
          | nil =>
            have h : ((intL xs).bind fun ns => (remI ns i).map fun ms => (W.f F.non, Cell.lstF (ms.map F.int))) = some (w, c') := h
            obtain ⟨ns, en, h⟩ := opt_bind_some h
            obtain ⟨ms, em, h⟩ := opt_map_some h
            cases h
            obtain ⟨j, ej, rfl⟩ := opt_map_some em
            obtain ⟨hj, h1, h2⟩ := List.findIdx?_eq_some_iff_getElem.mp ej
            have hx := intL_eq en
            subst hx
            have hu := repInts ru
            subst hu
            refine ⟨a, ns, i, j, rfl, rfl, e, by rw [List.getElem?_eq_getElem hj]; exact congrArg some (of_decide_eq_true h1), fun m hm e2 => ?_, q _ _ (.f .non) ⟨hz, _, upd_same, RepFs.ofInts _⟩ hz ⟨fun _ => nofun, fun _ => nofun⟩⟩
            have h3 := h2 m hm
            rw [List.getElem?_eq_getElem (by omega)] at e2
            exact h3 (decide_eq_true (Option.some.inj e2))
        | _ => cases h
  | lstW xs => cases r with
    | nil => cases h
    | cons r1 r2 => cases h
  | dead => cases h
  | dct _ => cases h
  | dti _ => cases h
  | ins _ _ => cases h
theorem ve_remI (ho : VE X T E o to) (he : VE X T E e te) (hbase : attributeBase o "remove" X.env (eval o X.env) = eval o X.env := by rfl)
    (hline : (apos.endLine == cpos.line) = true := by rfl) (hs : starEach [e] X.env = [(false, eval e X.env)] := by rfl) :
    VE X T E (.Call (.Attribute o "remove" apos) [e] [] cpos) (eMut false cRemI to (aCons te aNil)) :=
  ve_mutL PySem.F.slot_list_remove PySem.F.type_list_remove mt_remove mut_remI ho (va_cons he va_nil hs) hbase (by rw [hs]; rfl) hline hs rfl
/-! ### list(range(a, b)) as a cell -/
def eLrg2M (ta tb : TEv) : TEv := fun env st => (ta env st).bind fun w st1 => (tb env st1).bind fun u st2 => match w, u with
  | .f (.int i), .f (.int j) => if smallI i = true ∧ smallI j = true ∧ small (j - i).toNat = true then .ok (.loc st2.length) (st2 ++ [.lstF ((List.range (j - i).toNat).map fun k => F.int (i + (k : Nat)))]) else .stuck
  | _, _ => .stuck
theorem rgV_rep2 {K : PySem.W.Frag} {T : Tab} {Z : Hp} (i j : Int) : RepFs K T Z (rgV i j) ((List.range (j - i).toNat).map fun k => F.int (i + (k : Nat))) := by
  have e1 : rgV i j = ((List.range (j - i).toNat).map fun k => (i + (k : Nat))).map V.int := by
    unfold rgV
    rw [List.map_map]
    rfl
  have e2 : ((List.range (j - i).toNat).map fun k => F.int (i + (k : Nat))) = ((List.range (j - i).toNat).map fun k => (i + (k : Nat))).map F.int := by
    rw [List.map_map]; rfl
  rw [e1, e2]
  exact RepFs.ofInts _
variable {a b : Expr} {ta tb : TEv} {p p2 pos pos2 : Pos}
theorem ve_listRg2M (hc : X.calm = true) (hg : Gl X "list") (hm : X.mg "list" = none) (hg2 : Gl X "range") (hm2 : X.mg "range" = none) (ha : VE X T E a ta) (hb : VE X T E b tb)
    (na : starEach [a, b] X.env = (false, eval a X.env) :: starEach [b] X.env := by rfl) (nb : starEach [b] X.env = (false, eval b X.env) :: starEach [] X.env := by rfl) (hp : (backTo pos2 (starEach [b] X.env)).any (·.1) = false := by rfl)
    (nc : starEach [.Call (.Name "range" p2) [a, b] [] pos2] X.env = (false, eval (.Call (.Name "range" p2) [a, b] [] pos2) X.env) :: starEach [] X.env := by rfl) :
    VE X T E (.Call (.Name "list" p) [.Call (.Name "range" p2) [a, b] [] pos2] [] pos) (eLrg2M ta tb) := pe_weak (pe_listRg hc hg hm (prg_2 hg2 hm2 ha hb na nb hp) nc) fun σ H Q h => by
  obtain ⟨Z, ι, env, st, s, re, p⟩ := h
  refine ⟨Z, ι, env, st, s, re, (Post.bind p).imp fun w st1 H1 Z1 ι1 l1 s1 p1 v rv => ?_⟩
  refine ⟨Z1, ι1, env, st1, s1, re.mono l1, (Post.bind p1).imp fun u st2 H2 Z2 ι2 l2 s2 p2 v2 rv2 => ?_⟩
  cases w with
  | loc _ => exact p2.elim
  | f x =>
    cases x with
    | int i =>
      cases u with
      | loc _ => exact p2.elim
      | f y =>
        cases y with
        | int j =>
          have p2 : Post X.K T E Z2 ι2 (if smallI i = true ∧ smallI j = true ∧ small (j - i).toNat = true then (.ok (.loc st2.length) (st2 ++ [.lstF ((List.range (j - i).toNat).map fun k => F.int (i + (k : Nat)))]) : Res W) else .stuck) _ := p2
          by_cases hj : smallI i = true ∧ smallI j = true ∧ small (j - i).toNat = true
          · rw [if_pos hj] at p2
            obtain ⟨b1, b2⟩ := smallI_ok hj.1
            obtain ⟨b3, b4⟩ := smallI_ok hj.2.1
            have b5 : (j - i).toNat ≤ 1000000 := of_decide_eq_true (by have := hj.2.2; unfold small at this; exact this)
            cases rep_int rv
            cases rep_int rv2
            refine ⟨i, j, rfl, rfl, ⟨b1, b2, b3, b4, by omega⟩, fun q hq => ?_⟩
            have hz := free_sub s2.sub hq
            have s3 := s2.alloc (c := .lstF ((List.range (j - i).toNat).map fun k => F.int (i + (k : Nat)))) (o := .lst (rgV i j)) hq ⟨hz, _, upd_same, rgV_rep2 i j⟩
            exact p2 _ _ _ Le.alloc s3 _ (.loc (by rw [← s2.len]; exact last_get _ _))
          · rw [if_neg hj] at p2; exact p2.elim
        | _ => exact p2.elim
    | _ => exact p2.elim
end
/-! ### sorted forms: a form is a list of pairs of a number and a form -/
inductive Fm where
  | nil | cons (i : Int) (sub rest : Fm)
deriving DecidableEq
def fmFs : Fm → List F
  | .nil => []
  | .cons i s r => .tup [.int i, .tup (fmFs s)] :: fmFs r
def itF (b : Int × Fm) : F := .tup [.int b.1, .tup (fmFs b.2)]
def items : Fm → List (Int × Fm)
  | .nil => []
  | .cons i s r => (i, s) :: items r
def fmL : List (Int × Fm) → Fm
  | [] => .nil
  | b :: l => .cons b.1 b.2 (fmL l)
theorem items_fmL : ∀ l, items (fmL l) = l
  | [] => rfl
  | b :: l => by
    show (b.1, b.2) :: items (fmL l) = _
    rw [items_fmL l]
theorem fmFs_items : ∀ f : Fm, fmFs f = (items f).map itF
  | .nil => rfl
  | .cons i s r => by
    show F.tup [.int i, .tup (fmFs s)] :: fmFs r = itF (i, s) :: (items r).map itF
    rw [fmFs_items r]
    rfl
mutual
def fmOf : List F → Option Fm
  | [] => some .nil
  | x :: r => match fmX x, fmOf r with
    | some (i, s), some r => some (.cons i s r)
    | _, _ => none
def fmX : F → Option (Int × Fm)
  | .tup xs => fmP xs
  | _ => none
def fmP : List F → Option (Int × Fm)
  | [] => none
  | x :: r => match x, fmQ r with
    | .int i, some s => some (i, s)
    | _, _ => none
def fmQ : List F → Option Fm
  | [] => none
  | y :: r => match r with
    | [] => fmT y
    | _ :: _ => none
def fmT : F → Option Fm
  | .tup xs => fmOf xs
  | _ => none
end
mutual
theorem fmOf_eq : ∀ (xs : List F) (f : Fm), fmOf xs = some f → xs = fmFs f
  | [], f, h => by
    rw [fmOf] at h
    cases h; rfl
  | x :: r, f, h => by
    rw [fmOf] at h
    cases e1 : fmX x with
    | none => rw [e1] at h; cases h
    | some b =>
      cases e2 : fmOf r with
      | none => rw [e1, e2] at h; cases h
      | some g =>
        rw [e1, e2] at h
        cases h
        rw [fmX_eq x b e1, fmOf_eq r g e2]
        rfl
theorem fmX_eq : ∀ (x : F) (b : Int × Fm), fmX x = some b → x = itF b
  | .tup xs, b, h => by
    rw [fmX] at h
    rw [fmP_eq xs b h]
    rfl
  | .non, b, h => by simp [fmX] at h
  | .bl _, b, h => by simp [fmX] at h
  | .int _, b, h => by simp [fmX] at h
  | .str _, b, h => by simp [fmX] at h
  | .lst _, b, h => by simp [fmX] at h
  | .dct _, b, h => by simp [fmX] at h
  | .dlk _ _, b, h => by simp [fmX] at h
  | .ktp _, b, h => by simp [fmX] at h
  | .obj _ _, b, h => by simp [fmX] at h
  | .scr _, b, h => by simp [fmX] at h
theorem fmP_eq : ∀ (xs : List F) (b : Int × Fm), fmP xs = some b → xs = [.int b.1, .tup (fmFs b.2)]
  | [], b, h => by simp [fmP] at h
  | x :: r, b, h => by
    cases x with
    | int i =>
      cases e : fmQ r with
      | none => simp [fmP, e] at h
      | some s =>
        simp [fmP, e] at h
        subst h
        rw [fmQ_eq r s e]
    | _ => simp [fmP] at h
theorem fmQ_eq : ∀ (xs : List F) (f : Fm), fmQ xs = some f → xs = [.tup (fmFs f)]
  | [], f, h => by simp [fmQ] at h
  | [y], f, h => by
    have h : fmT y = some f := by simpa [fmQ] using h
    rw [fmT_eq y f h]
  | y :: z :: r, f, h => by simp [fmQ] at h
theorem fmT_eq : ∀ (x : F) (f : Fm), fmT x = some f → x = .tup (fmFs f)
  | .tup xs, f, h => by
    rw [fmT] at h
    rw [fmOf_eq xs f h]
  | .non, f, h => by simp [fmT] at h
  | .bl _, f, h => by simp [fmT] at h
  | .int _, f, h => by simp [fmT] at h
  | .str _, f, h => by simp [fmT] at h
  | .lst _, f, h => by simp [fmT] at h
  | .dct _, f, h => by simp [fmT] at h
  | .dlk _ _, f, h => by simp [fmT] at h
  | .ktp _, f, h => by simp [fmT] at h
  | .obj _ _, f, h => by simp [fmT] at h
  | .scr _, f, h => by simp [fmT] at h
end
theorem fmOf_fs : ∀ f : Fm, fmOf (fmFs f) = some f
  | .nil => by rw [fmFs, fmOf]
  | .cons i s r => by
    have e : fmX (.tup [.int i, .tup (fmFs s)]) = some (i, s) := by
      rw [fmX, fmP]
      have : fmQ [.tup (fmFs s)] = some s := by
        rw [fmQ, fmT, fmOf_fs s]
      rw [this]
    rw [fmFs, fmOf, e, fmOf_fs r]
def encs : Fm → List PyData
  | .nil => []
  | .cons i s r => .tuple [.int i, .tuple (encs s)] :: encs r
def encI (b : Int × Fm) : PyData := .tuple [.int b.1, .tuple (encs b.2)]
def deepN : Fm → Nat
  | .nil => 0
  | .cons _ s r => max (deepN s + 2) (deepN r)
@[irreducible] def sortFm (l : List (Int × Fm)) : List (Int × Fm) := l.mergeSort (dataLe false encI)
theorem depth_encs : ∀ f : Fm, PyData.depthAll (encs f) = deepN f
  | .nil => by simp [encs, PyData.depthAll, deepN]
  | .cons i s r => by
    rw [encs, PyData.depthAll, depth_encs r, deepN]
    congr 1
    simp [PyData.depth, PyData.depthAll, depth_encs s]
theorem toD_fs : ∀ f : Fm, toDs (fmFs f) = some (encs f)
  | .nil => by simp [fmFs, toDs, encs]
  | .cons i s r => by
    simp [fmFs, toDs, toD, encs, toD_fs s, toD_fs r]
theorem toD_it (b : Int × Fm) : toD (itF b) = some (encI b) := by
  simp [itF, toD, toDs, toD_fs, encI]
theorem alike_encs : ∀ f g : Fm, alikeAll (encs f) (encs g) = true
  | .nil, _ => by simp [encs, alikeAll]
  | .cons _ _ _, .nil => by simp [encs, alikeAll]
  | .cons i s r, .cons j t q => by
    rw [encs, encs, alikeAll, alike_encs r q]
    simp [alike, alikeAll, alike_encs s t]
theorem alike_it (b c : Int × Fm) : alike (encI b) (encI c) = true := by
  simp [encI, alike, alikeAll, alike_encs]
def rSortedFm (K : PySem.W.Frag) : List V → Hp → VK → Prop := fun vs H Q => ∃ (a : Addr) (xs : List V) (bs : List (Int × Fm)) (TR : V → Int × Fm → Prop), vs = [V.ref a] ∧ SqL K H a xs ∧ (∀ x b, TR x b → Dp K H x (encI b) ∧ ∃ t, x = .ref t) ∧ Paired TR xs bs ∧ (∀ b ∈ bs, deepN b.2 ≤ 190) ∧
  ∀ ys p, Paired TR ys (sortFm bs) → H p = none → Q (.ref p) (upd H p (.lst ys))
section
variable {X : Cx} {T : Tab} {E : XK}
def FmIs (h : Heap) (v : Value) (b : Int × Fm) : Prop := (∃ t : Addr, v = .ref t) ∧ ∃ as, Reads h v (encI b) as
theorem fm_of {pins : List (Addr × Obj)} {s : Shared} {σ : L2.St} {H : Hp} {x : V} {b : Int × Fm} {u : Value} (I : Inv X pins σ H s) (h : Dp X.K H x (encI b)) (ht : ∃ t, x = V.ref t) (ru : RelV x u) : FmIs s.heap u b ∧ backV u = x := by
  obtain ⟨t, rfl⟩ := ht
  obtain ⟨as, q⟩ := Dp.reads I _ _ _ h ru
  obtain rfl : u = Value.ref t := ru
  exact ⟨⟨⟨t, rfl⟩, as, q⟩, rfl⟩
theorem fms_of {pins : List (Addr × Obj)} {s : Shared} {σ : L2.St} {H : Hp} {TR : V → Int × Fm → Prop} (I : Inv X pins σ H s) (hT : ∀ x b, TR x b → Dp X.K H x (encI b) ∧ ∃ t, x = V.ref t) : ∀ {xs : List V} {bs : List (Int × Fm)} {us : List Value}, Paired TR xs bs → Vals xs us → EachIs (fun v b => FmIs s.heap v b ∧ TR (backV v) b) us bs
  | _, _, _, .nil, .nil => .nil
  | _, _, _, .cons h t, .cons r v => by
    obtain ⟨h1, h2⟩ := fm_of I (hT _ _ h).1 (hT _ _ h).2 r
    exact .cons ⟨h1, by rw [h2]; exact h⟩ (fms_of I hT t v)
theorem fm_back {h : Heap} {TR : V → Int × Fm → Prop} : ∀ {us : List Value} {bs : List (Int × Fm)}, EachIs (fun v b => FmIs h v b ∧ TR (backV v) b) us bs → Paired TR (us.map backV) bs ∧ ∀ u ∈ us, ∃ a, u = Value.ref a
  | _, _, .nil => ⟨.nil, fun u hu => absurd hu (by simp)⟩
  | _, _, .cons ⟨h1, h2⟩ t => by
    obtain ⟨h3, h4⟩ := fm_back t
    refine ⟨.cons h2 h3, fun u hu => ?_⟩
    rcases List.mem_cons.mp hu with e | e
    · obtain ⟨⟨a, q⟩, _⟩ := h1
      exact ⟨a, e.trans q⟩
    · exact h4 u e
theorem cr_sortedFm (hu : X.A.units + 199 < cLine) : CallR X (.builtin "sorted") (rSortedFm X.K) := by
  intro pins s σ H vs us Q I r h
  obtain ⟨a, xs, bs, TR, rfl, hs, hT, hp, hd, q⟩ := h
  obtain ⟨its, rv, hl, hz⟩ := I.list hs
  obtain ⟨u, rfl, ru⟩ := vals1 r
  obtain rfl : u = Value.ref a := ru
  have ea := fms_of I hT hp rv
  refine sorted_data (enc := encI) hl.isList ea (ea.mono fun v b z => z.1.2) (AllAlike.of alike_it) (Sortable.tuples fun b => ⟨_, _, rfl⟩) (by rw [← ea.length, ← rv.length]; exact hz) (fun b hb => ?_) fun out hout he => ?_
  · show X.A.units + 2 + (encI b).depth < cLine
    have h1 : (encI b).depth ≤ deepN b.2 + 2 := by simp [encI, PyData.depth, PyData.depthAll, depth_encs]
    have := hd b hb
    omega
  · obtain ⟨h3, h4⟩ := fm_back he
    obtain ⟨n, hn⟩ := sortedAll_at s.heap its out.toArray
    refine ⟨.ref (s.heap.objs.size + 1), upd H (s.heap.objs.size + 1) (.lst (out.map backV)), I.laid (t' := s.toks) (fun b o e => sortedAll_old e) (Nat.le_succ _) ⟨?_, out, n, vals_back h4, hn⟩, rfl, q _ _ (by unfold sortFm; exact h3) (I.hok.fresh (Nat.le_succ _))⟩
    rw [List.length_map, hout, ← ea.length, ← rv.length]
    exact hz
def sortedFmF : F → Option F
  | .lst xs => (fmOf xs).bind fun f => if (items f).all (fun b => decide (deepN b.2 ≤ 190)) = true then some (.lst ((sortFm (items f)).map itF)) else none
  | _ => none
theorem fm_reps {K : PySem.W.Frag} {Z : Hp} : ∀ {bs : List (Int × Fm)} {us : List V}, RepFs K T Z us (bs.map itF) → Paired (fun x b => RepF K T Z x (itF b)) us bs
  | [], us, r => by
    have r : RepFs K T Z us [] := r
    cases r
    exact .nil
  | b :: bs, us, r => by
    have r : RepFs K T Z us (itF b :: bs.map itF) := r
    cases r with
    | cons r1 r2 => exact .cons r1 (fm_reps r2)
theorem reps_fm {K : PySem.W.Frag} {Z Z' : Hp} (hz : Same Z Z') : ∀ {ys : List V} {ss : List (Int × Fm)}, Paired (fun x b => RepF K T Z x (itF b)) ys ss → RepFs K T Z' ys (ss.map itF)
  | _, _, .nil => .nil
  | _, _, .cons h t => .cons (h.mono hz) (reps_fm hz t)
theorem on_sortedFm : OpN X T (rSortedFm X.K) (g1 sortedFmF) := on1 fun Z H x fx z Q s vx h g => by
  cases fx with
  | lst xs =>
    have h : ((fmOf xs).bind fun f => if (items f).all (fun b => decide (deepN b.2 ≤ 190)) = true then some (F.lst ((sortFm (items f)).map itF)) else none) = some z := h
    obtain ⟨f, e, h⟩ := opt_bind_some h
    obtain ⟨hd, h⟩ := ifSome h
    subst h
    have := fmOf_eq _ _ e
    rw [fmFs_items] at this
    subst this
    obtain ⟨a, us, rfl, e1, r1⟩ := vx.lst' s
    refine ⟨a, us, items f, fun x b => RepF X.K T Z x (itF b), rfl, .inl (.inl e1), fun x b hx => ⟨RepF.dp s hx (toD_it b), ?_⟩, fm_reps r1, fun b hb => of_decide_eq_true (List.all_eq_true.mp hd b hb), fun ys p hp hn => ?_⟩
    · cases hx with
      | tup _ _ => exact ⟨_, rfl⟩
    have zn : Z p = none := by
      cases e5 : Z p with
      | none => rfl
      | some o => rw [s _ _ e5] at hn; cases hn
    exact g.new s hn (.lst upd_same (reps_fm (same_new zn) hp))
  | _ => cases h
end
theorem hu199 {A : Around} {k : Nat} (hr : Room k A) : A.units + 199 < cLine := by have := hr.un; omega
/-! ### k in d, d a dict with numbers and texts for keys, live or data -/
section
variable {X : Cx} {T : Tab} {E : XK} {o i : Expr} {tk td : TEv} {pos : Pos}
def eInD (tk td : TEv) : TEv := fun env st => (tk env st).bind fun k st1 => (td env st1).bind fun d st2 => match look st2 d, k with
  | some (.dct kfs), .f y => if (keyF y).isSome = true then .ok (.f (.bl (lookF kfs y).isSome)) st2 else .stuck
  | _, _ => .stuck
theorem rd_inDD {σ : L2.St} {H : Hp} {Q : VK} (h : RdE X.K T E (eInD tk td) σ H Q) : tDIn (RdE X.K T E tk) (RdE X.K T E td) σ H Q := by
  obtain ⟨Z, ι, env, st, s, re, p⟩ := h
  refine ⟨Z, ι, env, st, s, re, (Post.bind p).imp fun k st1 H1 Z1 ι1 l1 s1 p1 y ry => ?_⟩
  refine ⟨Z1, ι1, env, st1, s1, re.mono l1, (Post.bind p1).imp fun d st2 H2 Z2 ι2 l2 s2 p2 x rx => ?_⟩
  cases q : look st2 d with
  | none => simp only [q] at p2; exact p2.elim
  | some dx =>
    cases dx with
    | dct kfs =>
      cases k with
      | loc _ => simp only [q] at p2; exact p2.elim
      | f fy =>
        simp only [q] at p2
        by_cases hk : (keyF fy).isSome = true
        · rw [if_pos hk] at p2
          obtain ⟨k, ek⟩ := Option.isSome_iff_exists.mp hk
          obtain ⟨a, vs, rfl, ea, rk⟩ := (rx.view s2 q).dct' s2.sub
          have hy : y = kV k := by
            cases ry with
            | f r => exact rep_key ek r
          rcases rk.val ek with ⟨v, x, e1, e2, r⟩ | ⟨e1, e2⟩
          · refine ⟨a, some v, rfl, .inl ⟨vs, k, .inl ea, hy, e1.symm⟩, ?_⟩
            rw [e2] at p2
            exact p2 H2 Z2 ι2 Le.refl s2 _ (.f (.bl _))
          · refine ⟨a, none, rfl, .inl ⟨vs, k, .inl ea, hy, e1.symm⟩, ?_⟩
            rw [e2] at p2
            exact p2 H2 Z2 ι2 Le.refl s2 _ (.f (.bl _))
        · rw [if_neg hk] at p2; exact p2.elim
    | _ => simp only [q] at p2; exact p2.elim
theorem vt_inDD (hu : X.A.units + 64 < cLine) (hk : VE X T E i tk) (ho : VE X T E o td) (hm : behindInMarks .In o = false) : VT X T E (.Compare i [.In] [o] pos) (tVal (eInD tk td)) :=
  pt_weak (pt_cmp (pc_din (hu1 hu) hk ho) hm) fun σ H Q h => by
    obtain ⟨Z, ι, env, st, s, re, p⟩ := rd_tval h
    exact rd_inDD ⟨Z, ι, env, st, s, re, p⟩
end
/-! ### an expression that only looks at live cells and makes a new list of flat things -/
def eBorL (te : TEv) : TEv := fun env st => borR st (te (thawE st env) [])
section
variable {X : Cx} {T : Tab} {E : XK} {e : Expr} {te : TEv}
theorem rd_borL {σ : L2.St} {H : Hp} {Q : VK} (q : RdE X.K T E (eBorL te) σ H Q) : RdE X.K T E te σ H Q := by
  obtain ⟨Z, ι, env, st, s, r, p⟩ := q
  have re : EnvR X.K T (zAll Z H ι 0) [] σ (thawE st env) := by
    refine ⟨by unfold thawE; rw [List.length_map]; exact r.len, fun i w hw => ?_⟩
    unfold thawE at hw
    rw [List.getElem?_map] at hw
    obtain ⟨o, ho, eo⟩ := Option.map_eq_some_iff.mp hw
    cases o with
    | none => cases eo
    | some u =>
      have eo : (deepF 0 st 3 u).map W.f = some w := eo
      obtain ⟨x, hx, rfl⟩ := Option.map_eq_some_iff.mp eo
      obtain ⟨v, e1, rv⟩ := r.get i u ho
      exact ⟨v, e1, .f (deepF_ok s 0 3 rv hx)⟩
  refine ⟨zAll Z H ι 0, [], thawE st env, [], sim_none s, re, ?_⟩
  unfold eBorL at p
  cases e1 : te (thawE st env) [] with
  | stuck => rw [e1] at p; exact p.elim
  | exc c fs st' => rw [e1] at p; exact p.elim
  | ok u st' =>
    rw [e1] at p
    cases u with
    | f x =>
      cases st' with
      | cons c t => exact p.elim
      | nil =>
        have p : Post X.K T E Z ι (if flat x = true then Res.ok (W.f x) st else .stuck) _ := p
        by_cases hx : flat x = true
        · rw [if_pos hx] at p
          intro H' Z' ι' l s' v rv
          obtain ⟨s2, l2, ht, _⟩ := back s l s'.sub s'.tab
          cases rv with
          | f rv => exact p H' _ ι l2 s2 v (.f (rv.flat ht hx))
        · rw [if_neg hx] at p; exact p.elim
    | loc n =>
      match n, st', p with
      | 0, [.lstF ys], p =>
        have p : Post X.K T E Z ι (if flats ys = true then Res.ok (W.loc st.length) (st ++ [.lstF ys]) else .stuck) _ := p
        by_cases hx : flats ys = true
        · rw [if_pos hx] at p
          intro H' Z' ι' l s' v rv
          obtain ⟨s2, l2, ht, hal⟩ := back s l s'.sub s'.tab
          cases rv with
          | loc ev =>
            rename_i a
            obtain ⟨z0, us, e1, r1⟩ := s'.cell 0 a (.lstF ys) ev rfl
            have hni : a ∉ ι := fun ha => by
              obtain ⟨o, eo⟩ := hal a ha
              rw [z0] at eo; cases eo
            have hz0 : zBut ι st Z' a = none := by
              unfold zBut
              split
              · rfl
              · exact z0
            have l3 : Le Z ι (zBut ι st Z') (ι ++ [a]) := ⟨l2.z, fun _ _ h => get_app h⟩
            have l4 : Le (zBut ι st Z') ι (zBut ι st Z') (ι ++ [a]) := ⟨Same.refl _, fun _ _ h => get_app h⟩
            refine p H' (zBut ι st Z') (ι ++ [a]) l3 ⟨s2.sub, by simp [s2.len], ?_, fun n b c h1 h2 => ?_, fun b hb => ?_, ⟨s2.tab.zt, fun b hb o e => by
              rcases List.mem_append.mp hb with hb | hb
              · exact s2.tab.ct b hb o e
              · simp at hb; subst hb; exact s'.tab.ct _ (List.mem_of_getElem? ev) o e, s2.tab.tb⟩⟩ (.ref a) (.loc (by rw [← s2.len]; simp))
            · rw [List.nodup_append]
              exact ⟨s2.nd, by simp, fun x hx y hy => by simp at hy; subst hy; exact fun e => hni (e ▸ hx)⟩
            · rcases get_app_cases h1 with h1 | ⟨rfl, rfl⟩
              · rcases get_app_cases h2 with h2 | ⟨rfl, rfl⟩
                · have k := s2.cell n b c h1 h2
                  cases c with
                  | dead => trivial
                  | lstF xs => exact k
                  | lstW xs => obtain ⟨n, vs, e, r⟩ := k; exact ⟨n, vs, e, r.mono l4⟩
                  | dct xs => exact k
                  | dti xs => exact k
                  | ins c fs => obtain ⟨n, dx, fvs, e, hc, r⟩ := k; exact ⟨n, dx, fvs, e, hc, r.mono l4⟩
                · have := (List.getElem?_eq_some_iff.mp h1).1
                  rw [s2.len] at this
                  exact absurd this (Nat.lt_irrefl _)
              · rw [s2.len] at h2
                simp at h2
                subst h2
                exact ⟨hz0, us, e1, r1.flat ht hx⟩
            · rcases List.mem_append.mp hb with hb | hb
              · exact s2.there b hb
              · simp at hb; subst hb; exact ⟨_, e1⟩
        · rw [if_neg hx] at p; exact p.elim
      | 0, [], p => exact p.elim
      | 0, .dead :: _, p => exact p.elim
      | 0, .lstW _ :: _, p => exact p.elim
      | 0, .dct _ :: _, p => exact p.elim
      | 0, .dti _ :: _, p => exact p.elim
      | 0, .ins _ _ :: _, p => exact p.elim
      | 0, .lstF _ :: _ :: _, p => exact p.elim
      | _ + 1, _, p => exact p.elim
variable {elt iter tg c : Expr} {ifs : List Expr} {scope : Scope} {own : List (Str × Nat)} {spos py pos : Pos} {ti : TIv} {g : TGv} {tt : TTv} {ss : List Nat}
theorem vs_setLcB {i : Nat} {y : Str} (hc : X.calm = true) (hN : X.N.Nodup) (hy : X.N[i]? = some y) (hyl : X.env.scope.names.lookup y = some .local)
    (hsw : swapsWith (.ListComp elt [⟨tg, iter, ifs, 0⟩] scope pos) (some (.Name y py)) spos.line X.env = pure true) (hi : VI X T E tg iter ti) (ok : BlkOk X.N X.env.scope scope own) (hss : ∀ i ∈ ss, i ∈ own.map (·.2))
    (hg : ∀ (s : Shared) (H : Hp) (C : Addr) (cl : List (Str × Addr)) (fp : List Addr), VGw (X.blk s H scope (compEnvC scope cl C X.env) fp) T tg ss g)
    (ht : ∀ (s : Shared) (H : Hp) (C : Addr) (cl : List (Str × Addr)) (fp : List Addr), VTs (X.blk s H scope (compEnvC scope cl C X.env) fp) T E ifs tt)
    (he : ∀ (s : Shared) (H : Hp) (C : Addr) (cl : List (Str × Addr)) (fp : List Addr), VE (X.blk s H scope (compEnvC scope cl C X.env) fp) T E elt te) (hs : ∀ x, foldedSetIterable iter X.env x = pure x := by intro _; rfl) :
    VS X T E (.Assign [.Name y py] (.ListComp elt [⟨tg, iter, ifs, 0⟩] scope pos) spos) (sSet i (eFrz (eBorL (eLc ti g tt te (own.map (·.2)))))) :=
  ps_weak (ps_setLc hc hN hy hyl hsw hi ok hg ht he hs) fun D σ H h => by
    obtain ⟨Z, ι, env, st, s, re, p⟩ := h
    exact rd_lc hss (rd_borL (rd_frz ⟨Z, ι, env, st, s, re, (PostS.thenS p).imp fun w st1 H1 Z1 ι1 l1 s1 p1 v rv => p1 _ H1 Z1 ι1 Le.refl s1 ((re.mono l1).set rv i)⟩))
end
end VS

set_option Elab.async false
set_option linter.all false
set_option maxRecDepth 100000
set_option maxHeartbeats 4000000
set_option autoImplicit false
namespace LB
open PySem PySem.Spec PyProof.Rows L2 VS
/-! ### the text by places -/
def topS (i : Nat) : Stmt := PySem.Challenge.pw_longbough_k42_forms_of_trees.main.body.getD i (.Pass ⟨0, 0, 0, 0⟩)
def T : Tab := ⟨[⟨"Tree", [0, 1, 2, 3]⟩], ["pairs", "slots", "parents", "depths"], [], []⟩
/-! ### what the top has left -/
abbrev s__law_start : Stmt := (topS 14)
abbrev s__law_draw : Stmt := (topS 15)
abbrev s__law_pick : Stmt := (topS 16)
abbrev s__law_t_slot : Stmt := (topS 12)
abbrev s__law_t_drawn : Stmt := (topS 11)
abbrev s__law_t_depths : Stmt := (topS 13)
abbrev s__law_changed : Stmt := (topS 20)
abbrev s__law_renumbered : Stmt := (topS 19)
abbrev s__law_form : Stmt := (topS 18)
abbrev s_is_list : Stmt := (topS 6)
abbrev s_is_integer : Stmt := (topS 5)
abbrev s_Tree___contains__ : Stmt := (inClass (topS 8) 4)
abbrev s_Tree_can_stand : Stmt := (inClass (topS 8) 1)
abbrev s_Tree___init__ : Stmt := (inClass (topS 8) 0)
abbrev s__law_same : Stmt := (topS 17)
abbrev s_Tree___len__ : Stmt := (inClass (topS 8) 3)
abbrev s_Tree_form : Stmt := (inClass (topS 8) 15)
abbrev s_alike : Stmt := (topS 9)
abbrev s_Tree___eq__ : Stmt := (inClass (topS 8) 5)
abbrev s_law : Stmt := (topS 21)
structure Facts (K : PySem.W.Frag) (mg : Str → Option Value) : Prop where
  tab : TabOk K T
  isi : IsiOk K T
  dt0 : tup0B K (He.dflAt ("Tree", some "__init__") 0 K) = true
  g0 : mg "_law_start" = some (.ref (He.ga K "_law_start"))
  g1 : mg "_law_t_drawn" = some (.ref (He.ga K "_law_t_drawn"))
  g2 : mg "_law_draw" = some (.ref (He.ga K "_law_draw"))
  g3 : mg "_law_pick" = some (.ref (He.ga K "_law_pick"))
  g4 : mg "_law_t_slot" = some (.ref (He.ga K "_law_t_slot"))
  g5 : mg "_law_t_depths" = some (.ref (He.ga K "_law_t_depths"))
  g6 : mg "_law_changed" = some (.ref (He.ga K "_law_changed"))
  g7 : mg "_law_renumbered" = some (.ref (He.ga K "_law_renumbered"))
  g8 : mg "_law_form" = some (.ref (He.ga K "_law_form"))
  g9 : mg "is_list" = some (.ref (He.ga K "is_list"))
  g10 : mg "is_integer" = some (.ref (He.ga K "is_integer"))
  g11 : mg "Tree" = some (.ref (He.ga K "Tree"))
  g12 : mg "_law_same" = some (.ref (He.ga K "_law_same"))
  g13 : mg "alike" = some (.ref (He.ga K "alike"))
  n0 : mg "list" = none
  n1 : mg "range" = none
  n2 : mg "int" = none
  n3 : mg "len" = none
  n4 : mg "max" = none
  n5 : mg "min" = none
  n6 : mg "enumerate" = none
  n7 : mg "tuple" = none
  n8 : mg "sorted" = none
  n9 : mg "isinstance" = none
  n10 : mg "bool" = none
  n11 : mg "all" = none
  n12 : mg "zip" = none
  me0 : Meth K (He.ga K "Tree") "__contains__" (He.ma K (He.ga K "Tree") "__contains__")
  me1 : Meth K (He.ga K "Tree") "can_stand" (He.ma K (He.ga K "Tree") "can_stand")
  me2 : Meth K (He.ga K "Tree") "__len__" (He.ma K (He.ga K "Tree") "__len__")
  me3 : Meth K (He.ga K "Tree") "form" (He.ma K (He.ga K "Tree") "form")
  me4 : Meth K (He.ga K "Tree") "__eq__" (He.ma K (He.ga K "Tree") "__eq__")
  mk0 : Mk K (He.ga K "Tree") (He.ma K (He.ga K "Tree") "__init__")
  d__law_start : ∃ fd, FunD K "_law_start" "_law_start" (defArgs s__law_start) (defBody s__law_start) (defScope s__law_start) [] [] (He.ga K "_law_start") fd
  d__law_draw : ∃ fd, FunD K "_law_draw" "_law_draw" (defArgs s__law_draw) (defBody s__law_draw) (defScope s__law_draw) [] [] (He.ga K "_law_draw") fd
  d__law_pick : ∃ fd, FunD K "_law_pick" "_law_pick" (defArgs s__law_pick) (defBody s__law_pick) (defScope s__law_pick) [] [] (He.ga K "_law_pick") fd
  d__law_t_slot : ∃ fd, FunD K "_law_t_slot" "_law_t_slot" (defArgs s__law_t_slot) (defBody s__law_t_slot) (defScope s__law_t_slot) [] [] (He.ga K "_law_t_slot") fd
  d__law_t_drawn : ∃ fd, FunD K "_law_t_drawn" "_law_t_drawn" (defArgs s__law_t_drawn) (defBody s__law_t_drawn) (defScope s__law_t_drawn) [] [] (He.ga K "_law_t_drawn") fd
  d__law_t_depths : ∃ fd, FunD K "_law_t_depths" "_law_t_depths" (defArgs s__law_t_depths) (defBody s__law_t_depths) (defScope s__law_t_depths) [] [] (He.ga K "_law_t_depths") fd
  d__law_changed : ∃ fd, FunD K "_law_changed" "_law_changed" (defArgs s__law_changed) (defBody s__law_changed) (defScope s__law_changed) [] [] (He.ga K "_law_changed") fd
  d__law_renumbered : ∃ fd, FunD K "_law_renumbered" "_law_renumbered" (defArgs s__law_renumbered) (defBody s__law_renumbered) (defScope s__law_renumbered) [] [] (He.ga K "_law_renumbered") fd
  d__law_form : ∃ fd, FunD K "_law_form" "_law_form" (defArgs s__law_form) (defBody s__law_form) (defScope s__law_form) [] [] (He.ga K "_law_form") fd
  d_is_list : ∃ fd, FunD K "is_list" "is_list" (defArgs s_is_list) (defBody s_is_list) (defScope s_is_list) [] [] (He.ga K "is_list") fd
  d_is_integer : ∃ fd, FunD K "is_integer" "is_integer" (defArgs s_is_integer) (defBody s_is_integer) (defScope s_is_integer) [] [] (He.ga K "is_integer") fd
  d_Tree___contains__ : ∃ fd, FunD K "__contains__" "Tree.__contains__" (defArgs s_Tree___contains__) (defBody s_Tree___contains__) (defScope s_Tree___contains__) [] [] (He.ma K (He.ga K "Tree") "__contains__") fd
  d_Tree_can_stand : ∃ fd, FunD K "can_stand" "Tree.can_stand" (defArgs s_Tree_can_stand) (defBody s_Tree_can_stand) (defScope s_Tree_can_stand) [] [] (He.ma K (He.ga K "Tree") "can_stand") fd
  d_Tree___init__ : ∃ fd, FunD K "__init__" "Tree.__init__" (defArgs s_Tree___init__) (defBody s_Tree___init__) (defScope s_Tree___init__) [(.ref (He.dflAt ("Tree", some "__init__") 0 K))] [] (He.ma K (He.ga K "Tree") "__init__") fd
  d__law_same : ∃ fd, FunD K "_law_same" "_law_same" (defArgs s__law_same) (defBody s__law_same) (defScope s__law_same) [] [] (He.ga K "_law_same") fd
  d_Tree___len__ : ∃ fd, FunD K "__len__" "Tree.__len__" (defArgs s_Tree___len__) (defBody s_Tree___len__) (defScope s_Tree___len__) [] [] (He.ma K (He.ga K "Tree") "__len__") fd
  d_Tree_form : ∃ fd, FunD K "form" "Tree.form" (defArgs s_Tree_form) (defBody s_Tree_form) (defScope s_Tree_form) [] [] (He.ma K (He.ga K "Tree") "form") fd
  d_alike : ∃ fd, FunD K "alike" "alike" (defArgs s_alike) (defBody s_alike) (defScope s_alike) [] [] (He.ga K "alike") fd
  d_Tree___eq__ : ∃ fd, FunD K "__eq__" "Tree.__eq__" (defArgs s_Tree___eq__) (defBody s_Tree___eq__) (defScope s_Tree___eq__) [] [] (He.ma K (He.ga K "Tree") "__eq__") fd
  d_law : ∃ fd, FunD K "law" "law" (defArgs s_law) (defBody s_law) (defScope s_law) [] [] (He.ga K "law") fd
/-! _law_start -/
theorem sc__law_start : FnScope ["_law_script"] ["_law_script"] (defScope s__law_start) := ⟨rfl, rfl, rfl, by decide +kernel, rfl, by decide +kernel, by decide +kernel⟩
def t__law_start : TSv :=
  (sRet (eLstM (aCons (eListM (aCons (eVar 0) aNil)) (aCons (eC (.int 0)) (aCons (eC (.int 0)) (aCons (eC (.int 11)) aNil))))))
def m__law_start : FnM := fnM 1 1 t__law_start
theorem fo__law_start {P : Program} {w : World} {K : PySem.W.Frag} {mg : Str → Option Value} {base : Heap} (D : Facts K mg) {fd : FuncData} (F : FunD K "_law_start" "_law_start" (defArgs s__law_start) (defBody s__law_start) (defScope s__law_start) [] [] (He.ga K "_law_start") fd) : FnOk P w K mg base CX0 1 (He.ga K "_law_start") fd ["_law_script"] (spM K T m__law_start) := fn_v0 F sc__law_start fun cdv A outer s H E E' hr =>
    (vb_one (vs_ret (ve_lstM (va_cons (ve_listM rfl (D.n0) (va_cons (ve_var (i := 0) rfl (Or.inl rfl)) va_nil)) (va_cons ve_int (va_cons ve_int (va_cons ve_int va_nil)))))))
theorem ok__law_start {P : Program} {w : World} {K : PySem.W.Frag} {mg : Str → Option Value} {base : Heap} (D : Facts K mg) : Fn P w K mg base T CX0 1 (He.ga K "_law_start") m__law_start := by
  obtain ⟨fd, F⟩ := D.d__law_start
  exact Fn.plain (fo__law_start D F) (F.bindsN fun _ _ _ _ _ _ us hl => match us, hl with | [_], _ => rfl) F.kp
/-! _law_draw -/
theorem sc__law_draw : FnScope ["_law_stream", "_law_many", "_law_cell", "_law_digit", "_law_mixed"] ["_law_stream", "_law_many"] (defScope s__law_draw) := ⟨rfl, rfl, rfl, by decide +kernel, rfl, by decide +kernel, by decide +kernel⟩
def t__law_draw : TSv :=
  (bCons (sSub (eVar 0) (eC (.int 2)) (eOp2 addF (eIx (eVar 0) (eC (.int 2))) (eC (.int 1))))
    (bCons (sIf (tAndV (tVal (eOp2 eqF (eIx (eVar 0) (eC (.int 1))) (eC (.int 0)))) (tVal (eOp2 neF (eIx (eVar 0) (eC (.int 0))) (eLst aNil)))) (bCons (sSet 2 (eMut false cPopAt (eIx (eVar 0) (eC (.int 0))) (aCons (eC (.int 0)) aNil)))
    (bCons (sSub (eVar 0) (eC (.int 3)) (eOp2 modF (eCB (g1 intF) (aCons (eOp2 addF (eOp2 addF (eOp2 mulF (eIx (eVar 0) (eC (.int 3))) (eC (.int 8191))) (eVar 2)) (eC (.int 3))) aNil)) (eC (.int 2147483647))))
    (sSub (eVar 0) (eC (.int 1)) (eIf (tVal (eOp2 geF (eVar 2) (eOp2 powF (eC (.int 10)) (eC (.int 18))))) (eVar 2) (eC (.int 0)))))) bNil)
    (bCons (sIf (tVal (eOp2 gtF (eIx (eVar 0) (eC (.int 1))) (eC (.int 0)))) (bCons (sSet 3 (eOp2 modF (eCB (g1 intF) (aCons (eIx (eVar 0) (eC (.int 1))) aNil)) (eVar 1)))
    (bCons (sSub (eVar 0) (eC (.int 1)) (eOp2 fdivF (eIx (eVar 0) (eC (.int 1))) (eVar 1)))
    (sRet (eVar 3)))) bNil)
    (bCons (sSet 4 (eOp2 modF (eCB (g1 intF) (aCons (eOp2 powF (eOp2 addF (eOp2 addF (eIx (eVar 0) (eC (.int 3))) (eOp2 mulF (eC (.int 7919)) (eIx (eVar 0) (eC (.int 2))))) (eC (.int 104729))) (eC (.int 5))) aNil)) (eC (.int 2147483629))))
    (sRet (eOp2 modF (eOp2 modF (eCB (g1 intF) (aCons (eOp2 powF (eOp2 addF (eOp2 addF (eOp2 mulF (eVar 4) (eC (.int 48271))) (eOp2 mulF (eC (.int 30011)) (eIx (eVar 0) (eC (.int 2))))) (eC (.int 29))) (eC (.int 3))) aNil)) (eC (.int 1000000007))) (eVar 1)))))))
def m__law_draw : FnM := fnM 2 5 t__law_draw
theorem fo__law_draw {P : Program} {w : World} {K : PySem.W.Frag} {mg : Str → Option Value} {base : Heap} (D : Facts K mg) {fd : FuncData} (F : FunD K "_law_draw" "_law_draw" (defArgs s__law_draw) (defBody s__law_draw) (defScope s__law_draw) [] [] (He.ga K "_law_draw") fd) : FnOk P w K mg base CX0 1 (He.ga K "_law_draw") fd ["_law_stream", "_law_many"] (spM K T m__law_draw) := fn_v0 F sc__law_draw fun cdv A outer s H E E' hr =>
    (vb_cons (vs_sub (ve_var (i := 0) rfl (Or.inl rfl)) ve_int (ve_op or_add o2_add (ve_ix (ve_var (i := 0) rfl (Or.inl rfl)) ve_int) ve_int))
    (vb_cons (vs_if (VW.vt (vw_and (vt_cmp (or_eq (hu64 hr)) o2_eq (ve_ix (ve_var (i := 0) rfl (Or.inl rfl)) ve_int) ve_int (nomark _)) (vw_and1 (vt_cmp (or_ne (hu64 hr)) o2_ne (ve_ix (ve_var (i := 0) rfl (Or.inl rfl)) ve_int) (ve_lst va_nil) (nomark _))))) (vb_cons (vs_set (i := 2) sc__law_draw.nd rfl (Or.inl rfl) (ve_popAt (ve_ix (ve_var (i := 0) rfl (Or.inl rfl)) ve_int) ve_int))
    (vb_cons (vs_sub (ve_var (i := 0) rfl (Or.inl rfl)) ve_int (ve_op op_mod o2_mod (ve_callTy call_int1 on_int rfl (D.n2) (by decide +kernel) (va_cons (ve_op or_add o2_add (ve_op or_add o2_add (ve_op or_mul o2_mul (ve_ix (ve_var (i := 0) rfl (Or.inl rfl)) ve_int) ve_int) (ve_var (i := 2) rfl (Or.inl rfl))) ve_int) va_nil)) ve_int))
    (vb_one (vs_sub (ve_var (i := 0) rfl (Or.inl rfl)) ve_int (ve_if (vt_cmp op_ge (o2_cmp (p := fun i j => decide (j ≤ i))) (ve_var (i := 2) rfl (Or.inl rfl)) (ve_op op_pow o2_pow ve_int ve_int) (nomark _)) (ve_var (i := 2) rfl (Or.inl rfl)) ve_int))))) vb_nil)
    (vb_cons (vs_if (vt_cmp op_gt (o2_cmp (p := fun i j => decide (j < i))) (ve_ix (ve_var (i := 0) rfl (Or.inl rfl)) ve_int) ve_int (nomark _)) (vb_cons (vs_set (i := 3) sc__law_draw.nd rfl (Or.inl rfl) (ve_op op_mod o2_mod (ve_callTy call_int1 on_int rfl (D.n2) (by decide +kernel) (va_cons (ve_ix (ve_var (i := 0) rfl (Or.inl rfl)) ve_int) va_nil)) (ve_var (i := 1) rfl (Or.inl rfl))))
    (vb_cons (vs_sub (ve_var (i := 0) rfl (Or.inl rfl)) ve_int (ve_op op_fdivW o2_fdiv (ve_ix (ve_var (i := 0) rfl (Or.inl rfl)) ve_int) (ve_var (i := 1) rfl (Or.inl rfl))))
    (vb_one (vs_ret (ve_var (i := 3) rfl (Or.inl rfl)))))) vb_nil)
    (vb_cons (vs_set (i := 4) sc__law_draw.nd rfl (Or.inl rfl) (ve_op op_mod o2_mod (ve_callTy call_int1 on_int rfl (D.n2) (by decide +kernel) (va_cons (ve_op op_pow o2_pow (ve_op or_add o2_add (ve_op or_add o2_add (ve_ix (ve_var (i := 0) rfl (Or.inl rfl)) ve_int) (ve_op or_mul o2_mul ve_int (ve_ix (ve_var (i := 0) rfl (Or.inl rfl)) ve_int))) ve_int) ve_int) va_nil)) ve_int))
    (vb_one (vs_ret (ve_op op_mod o2_mod (ve_op op_mod o2_mod (ve_callTy call_int1 on_int rfl (D.n2) (by decide +kernel) (va_cons (ve_op op_pow o2_pow (ve_op or_add o2_add (ve_op or_add o2_add (ve_op or_mul o2_mul (ve_var (i := 4) rfl (Or.inl rfl)) ve_int) (ve_op or_mul o2_mul ve_int (ve_ix (ve_var (i := 0) rfl (Or.inl rfl)) ve_int))) ve_int) ve_int) va_nil)) ve_int) (ve_var (i := 1) rfl (Or.inl rfl)))))))))
theorem ok__law_draw {P : Program} {w : World} {K : PySem.W.Frag} {mg : Str → Option Value} {base : Heap} (D : Facts K mg) : Fn P w K mg base T CX0 1 (He.ga K "_law_draw") m__law_draw := by
  obtain ⟨fd, F⟩ := D.d__law_draw
  exact Fn.plain (fo__law_draw D F) (F.bindsN fun _ _ _ _ _ _ us hl => match us, hl with | [_, _], _ => rfl) F.kp
/-! _law_pick -/
theorem sc__law_pick : FnScope ["_law_stream", "_law_some"] ["_law_stream", "_law_some"] (defScope s__law_pick) := ⟨rfl, rfl, rfl, by decide +kernel, rfl, by decide +kernel, by decide +kernel⟩
def t__law_pick : TSv :=
  (sRet (eIx (eVar 1) (eCall m__law_draw (aCons (eVar 0) (aCons (eCB (g1 lenF) (aCons (eVar 1) aNil)) aNil)))))
def m__law_pick : FnM := fnM 2 2 t__law_pick
theorem fo__law_pick {P : Program} {w : World} {K : PySem.W.Frag} {mg : Str → Option Value} {base : Heap} (D : Facts K mg) {fd : FuncData} (F : FunD K "_law_pick" "_law_pick" (defArgs s__law_pick) (defBody s__law_pick) (defScope s__law_pick) [] [] (He.ga K "_law_pick") fd) : FnOk P w K mg base CX0 2 (He.ga K "_law_pick") fd ["_law_stream", "_law_some"] (spM K T m__law_pick) := fn_v0 F sc__law_pick fun cdv A outer s H E E' hr =>
    (vb_one (vs_ret (ve_ix (ve_var (i := 1) rfl (Or.inl rfl)) (ve_call (ok__law_draw D) (hr.mono (by first | decide | omega)) rfl (D.g2) passV (va_cons (ve_var (i := 0) rfl (Or.inl rfl)) (va_cons (ve_callB cr_len on_len rfl (D.n3) (by decide +kernel) (va_cons (ve_var (i := 1) rfl (Or.inl rfl)) va_nil)) va_nil))))))
theorem ok__law_pick {P : Program} {w : World} {K : PySem.W.Frag} {mg : Str → Option Value} {base : Heap} (D : Facts K mg) : Fn P w K mg base T CX0 2 (He.ga K "_law_pick") m__law_pick := by
  obtain ⟨fd, F⟩ := D.d__law_pick
  exact Fn.plain (fo__law_pick D F) (F.bindsN fun _ _ _ _ _ _ us hl => match us, hl with | [_, _], _ => rfl) F.kp
/-! _law_t_slot -/
theorem sc__law_t_slot : FnScope ["_law_blocks", "_law_block"] ["_law_blocks", "_law_block"] (defScope s__law_t_slot) := ⟨rfl, rfl, rfl, by decide +kernel, rfl, by decide +kernel, by decide +kernel⟩
def t__law_t_slot : TSv :=
  (sRet (eIf (tVal (eOp2 gtF (eVar 1) (eC (.int 0)))) (eIx (eIx (eVar 0) (eOp2 subF (eVar 1) (eC (.int 1)))) (eC (.int 0))) (eC (.int 0))))
def m__law_t_slot : FnM := fnM 2 2 t__law_t_slot
theorem fo__law_t_slot {P : Program} {w : World} {K : PySem.W.Frag} {mg : Str → Option Value} {base : Heap} (D : Facts K mg) {fd : FuncData} (F : FunD K "_law_t_slot" "_law_t_slot" (defArgs s__law_t_slot) (defBody s__law_t_slot) (defScope s__law_t_slot) [] [] (He.ga K "_law_t_slot") fd) : FnOk P w K mg base CX0 1 (He.ga K "_law_t_slot") fd ["_law_blocks", "_law_block"] (spM K T m__law_t_slot) := fn_v0 F sc__law_t_slot fun cdv A outer s H E E' hr =>
    (vb_one (vs_ret (ve_if (vt_cmp op_gt (o2_cmp (p := fun i j => decide (j < i))) (ve_var (i := 1) rfl (Or.inl rfl)) ve_int (nomark _)) (ve_ix (ve_ix (ve_var (i := 0) rfl (Or.inl rfl)) (ve_op op_sub o2_sub (ve_var (i := 1) rfl (Or.inl rfl)) ve_int)) ve_int) ve_int)))
theorem ok__law_t_slot {P : Program} {w : World} {K : PySem.W.Frag} {mg : Str → Option Value} {base : Heap} (D : Facts K mg) : Fn P w K mg base T CX0 1 (He.ga K "_law_t_slot") m__law_t_slot := by
  obtain ⟨fd, F⟩ := D.d__law_t_slot
  exact Fn.plain (fo__law_t_slot D F) (F.bindsN fun _ _ _ _ _ _ us hl => match us, hl with | [_, _], _ => rfl) F.kp
/-! _law_t_drawn -/
theorem sc__law_t_drawn : FnScope ["_law_stream", "_law_most", "_law_blocks", "_law_k", "_law_parent"] ["_law_stream", "_law_most"] (defScope s__law_t_drawn) := ⟨rfl, rfl, rfl, by decide +kernel, rfl, by decide +kernel, by decide +kernel⟩
def t__law_t_drawn : TSv :=
  (bCons (sSet 2 (eLstM aNil))
    (bCons (sFor (iRange1 (aCons (eCall m__law_draw (aCons (eVar 0) (aCons (eOp2 addF (eVar 1) (eC (.int 1))) aNil))) aNil)) (gNm 3) (bCons (sSet 4 (eCall m__law_pick (aCons (eVar 0) (aCons (eLst (aCons (eCall m__law_draw (aCons (eVar 0) (aCons (eOp2 addF (eCB (g1 lenF) (aCons (eVar 2) aNil)) (eC (.int 1))) aNil))) (aCons (eCB (g1 lenF) (aCons (eVar 2) aNil)) aNil))) aNil))))
    (sExpr (eMut false cAppend (eVar 2) (aCons (eTup (aCons (eOp2 addF (eOp2 addF (eCall (bor m__law_t_slot) (aCons (eVar 2) (aCons (eVar 4) aNil))) (eC (.int 1))) (eCall m__law_pick (aCons (eVar 0) (aCons (eLst (aCons (eC (.int 0)) (aCons (eC (.int 0)) (aCons (eC (.int 1)) (aCons (eC (.int 2)) (aCons (eOp2 powF (eC (.int 10)) (eC (.int 6))) aNil)))))) aNil)))) (aCons (eVar 4) aNil))) aNil)))))
    (sRet (eFrzC (eVar 2)))))
def m__law_t_drawn : FnM := fnM 2 5 t__law_t_drawn
theorem fo__law_t_drawn {P : Program} {w : World} {K : PySem.W.Frag} {mg : Str → Option Value} {base : Heap} (D : Facts K mg) {fd : FuncData} (F : FunD K "_law_t_drawn" "_law_t_drawn" (defArgs s__law_t_drawn) (defBody s__law_t_drawn) (defScope s__law_t_drawn) [] [] (He.ga K "_law_t_drawn") fd) : FnOk P w K mg base CX0 3 (He.ga K "_law_t_drawn") fd ["_law_stream", "_law_most"] (spM K T m__law_t_drawn) := fn_v0 F sc__law_t_drawn fun cdv A outer s H E E' hr =>
    (vb_cons (vs_set (i := 2) sc__law_t_drawn.nd rfl (Or.inl rfl) (ve_lstM va_nil))
    (vb_cons (vs_for PassesOwn.never rfl (vi_range1 rfl (D.n1) (va_cons (ve_call (ok__law_draw D) (hr.mono (by first | decide | omega)) rfl (D.g2) passV (va_cons (ve_var (i := 0) rfl (Or.inl rfl)) (va_cons (ve_op or_add o2_add (ve_var (i := 1) rfl (Or.inl rfl)) ve_int) va_nil))) va_nil)) (vg_name (i := 3) sc__law_t_drawn.nd rfl (Or.inl rfl)) (vb_cons (vs_set (i := 4) sc__law_t_drawn.nd rfl (Or.inl rfl) (ve_call (ok__law_pick D) (hr.mono (by first | decide | omega)) rfl (D.g3) passV (va_cons (ve_var (i := 0) rfl (Or.inl rfl)) (va_cons (ve_lst (va_cons (ve_call (ok__law_draw D) (hr.mono (by first | decide | omega)) rfl (D.g2) passV (va_cons (ve_var (i := 0) rfl (Or.inl rfl)) (va_cons (ve_op or_add o2_add (ve_callB cr_len on_len rfl (D.n3) (by decide +kernel) (va_cons (ve_var (i := 2) rfl (Or.inl rfl)) va_nil)) ve_int) va_nil))) (va_cons (ve_callB cr_len on_len rfl (D.n3) (by decide +kernel) (va_cons (ve_var (i := 2) rfl (Or.inl rfl)) va_nil)) va_nil))) va_nil))))
    (vb_one (vs_expr (ve_append (ve_var (i := 2) rfl (Or.inl rfl)) (ve_tup (va_cons (ve_op or_add o2_add (ve_op or_add o2_add (ve_call (Fn.bor (ok__law_t_slot D)) (hr.mono (by first | decide | omega)) rfl (D.g4) passV (va_cons (ve_var (i := 2) rfl (Or.inl rfl)) (va_cons (ve_var (i := 4) rfl (Or.inl rfl)) va_nil))) ve_int) (ve_call (ok__law_pick D) (hr.mono (by first | decide | omega)) rfl (D.g3) passV (va_cons (ve_var (i := 0) rfl (Or.inl rfl)) (va_cons (ve_lst (va_cons ve_int (va_cons ve_int (va_cons ve_int (va_cons ve_int (va_cons (ve_op op_pow o2_pow ve_int ve_int) va_nil)))))) va_nil)))) (va_cons (ve_var (i := 4) rfl (Or.inl rfl)) va_nil))))))))
    (vb_one (vs_ret (ve_frzC (ve_var (i := 2) rfl (Or.inl rfl)))))))
theorem ok__law_t_drawn {P : Program} {w : World} {K : PySem.W.Frag} {mg : Str → Option Value} {base : Heap} (D : Facts K mg) : Fn P w K mg base T CX0 3 (He.ga K "_law_t_drawn") m__law_t_drawn := by
  obtain ⟨fd, F⟩ := D.d__law_t_drawn
  exact Fn.plain (fo__law_t_drawn D F) (F.bindsN fun _ _ _ _ _ _ us hl => match us, hl with | [_, _], _ => rfl) F.kp
/-! _law_t_depths -/
theorem sc__law_t_depths : FnScope ["_law_blocks", "_law_found", "_law_slot", "_law_parent"] ["_law_blocks"] (defScope s__law_t_depths) := ⟨rfl, rfl, rfl, by decide +kernel, rfl, by decide +kernel, by decide +kernel⟩
def t__law_t_depths : TSv :=
  (bCons (sSet 1 (eLstM (aCons (eC (.int 0)) aNil)))
    (bCons (sFor (iAny (eVar 0)) (gTp (gsCons (gNm 2) (gsCons (gNm 3) gsNil))) (sExpr (eMut false cAppend (eVar 1) (aCons (eOp2 addF (eIx (eVar 1) (eVar 3)) (eC (.int 1))) aNil))))
    (sRet (eFrzC (eVar 1)))))
def m__law_t_depths : FnM := fnM 1 4 t__law_t_depths
theorem fo__law_t_depths {P : Program} {w : World} {K : PySem.W.Frag} {mg : Str → Option Value} {base : Heap} (D : Facts K mg) {fd : FuncData} (F : FunD K "_law_t_depths" "_law_t_depths" (defArgs s__law_t_depths) (defBody s__law_t_depths) (defScope s__law_t_depths) [] [] (He.ga K "_law_t_depths") fd) : FnOk P w K mg base CX0 1 (He.ga K "_law_t_depths") fd ["_law_blocks"] (spM K T m__law_t_depths) := fn_v0 F sc__law_t_depths fun cdv A outer s H E E' hr =>
    (vb_cons (vs_set (i := 1) sc__law_t_depths.nd rfl (Or.inl rfl) (ve_lstM (va_cons ve_int va_nil)))
    (vb_cons (vs_for PassesOwn.never rfl (vi_any (ve_var (i := 0) rfl (Or.inl rfl))) (vg_tup rfl (vgs_cons (vg_name (i := 2) sc__law_t_depths.nd rfl (Or.inl rfl)) (vgs_cons (vg_name (i := 3) sc__law_t_depths.nd rfl (Or.inl rfl)) vgs_nil)) (gsCons_len (gsCons_len (fun _ _ _ h => gsNil_len h)))) (vb_one (vs_expr (ve_append (ve_var (i := 1) rfl (Or.inl rfl)) (ve_op or_add o2_add (ve_ix (ve_var (i := 1) rfl (Or.inl rfl)) (ve_var (i := 3) rfl (Or.inl rfl))) ve_int)))))
    (vb_one (vs_ret (ve_frzC (ve_var (i := 1) rfl (Or.inl rfl)))))))
theorem ok__law_t_depths {P : Program} {w : World} {K : PySem.W.Frag} {mg : Str → Option Value} {base : Heap} (D : Facts K mg) : Fn P w K mg base T CX0 1 (He.ga K "_law_t_depths") m__law_t_depths := by
  obtain ⟨fd, F⟩ := D.d__law_t_depths
  exact Fn.plain (fo__law_t_depths D F) (F.bindsN fun _ _ _ _ _ _ us hl => match us, hl with | [_], _ => rfl) F.kp
/-! _law_changed -/
theorem sc__law_changed : FnScope ["_law_stream", "_law_blocks", "_law_way", "_law_at", "_law_slot", "_law_parent", "_law_beneath", "_law_behind", "_law_lower", "_law_other", "_law_under", "_law_block"] ["_law_stream", "_law_blocks"] (defScope s__law_changed) := ⟨rfl, rfl, rfl, by decide +kernel, rfl, by decide +kernel, by decide +kernel⟩
def t__law_changed : TSv :=
  (bCons (sUnp ((mNm 2) :: ((mNm 3) :: [])) (aCons (eCall m__law_draw (aCons (eVar 0) (aCons (eC (.int 3)) aNil))) (aCons (eCall m__law_draw (aCons (eVar 0) (aCons (eOp2 addF (eCB (g1 lenF) (aCons (eVar 1) aNil)) (eC (.int 1))) aNil))) aNil)))
    (bCons (sSet 4 (eCall m__law_t_slot (aCons (eVar 1) (aCons (eVar 3) aNil))))
    (bCons (sIf (tOrV (tVal (eOp2 eqF (eVar 2) (eC (.int 0)))) (tVal (eOp2 eqF (eVar 1) (eLst aNil)))) (sRet (eOp2 addF (eVar 1) (eLst (aCons (eTup (aCons (eOp2 addF (eOp2 addF (eVar 4) (eC (.int 1))) (eCall m__law_draw (aCons (eVar 0) (aCons (eC (.int 2)) aNil)))) (aCons (eVar 3) aNil))) aNil)))) bNil)
    (bCons (sSet 3 (eCB (g2 max2F) (aCons (eVar 3) (aCons (eC (.int 1)) aNil))))
    (bCons (sAsg (eIx (eVar 1) (eOp2 subF (eVar 3) (eC (.int 1)))) (gTp (gsCons (gNm 4) (gsCons (gNm 5) gsNil))))
    (bCons (sSet 6 (eCall m__law_t_slot (aCons (eVar 1) (aCons (eVar 5) aNil))))
    (bCons (sSet 7 (eOp2 addF (eFrz (eLc (iAny (eVar 1)) (gTp (gsCons (gNm 9) (gsCons (gNm 10) gsNil))) (tVal (eOp2 eqF (eVar 10) (eVar 3))) (eVar 9) [9, 10])) (eLst (aCons (eOp2 addF (eVar 4) (eC (.int 3))) aNil))))
    (bCons (sIf (tVal (eOp2 eqF (eVar 2) (eC (.int 1)))) (sRet (eOp2 addF (eOp2 addF (eSl (eVar 1) oNone (oSome (eOp2 subF (eVar 3) (eC (.int 1))))) (eLst (aCons (eTup (aCons (eOp2 addF (eOp2 addF (eVar 6) (eC (.int 1))) (eCall m__law_draw (aCons (eVar 0) (aCons (eOp2 subF (eOp2 subF (eCB (g1 minF) (aCons (eVar 7) aNil)) (eVar 6)) (eC (.int 1))) aNil)))) (aCons (eVar 5) aNil))) aNil))) (eSl (eVar 1) (oSome (eVar 3)) oNone))) bNil)
    (bCons (sSet 8 (eFrz (eLc (iRange1 (aCons (eVar 3) aNil)) (gNm 11) (tVal (eOp2 ltF (eCall m__law_t_slot (aCons (eVar 1) (aCons (eVar 11) aNil))) (eVar 4))) (eVar 11) [11])))
    (sRet (eOp2 addF (eOp2 addF (eSl (eVar 1) oNone (oSome (eOp2 subF (eVar 3) (eC (.int 1))))) (eLst (aCons (eTup (aCons (eVar 4) (aCons (eCall m__law_pick (aCons (eVar 0) (aCons (eVar 8) aNil))) aNil))) aNil))) (eSl (eVar 1) (oSome (eVar 3)) oNone))))))))))))
def m__law_changed : FnM := fnM 2 12 t__law_changed
theorem fo__law_changed {P : Program} {w : World} {K : PySem.W.Frag} {mg : Str → Option Value} {base : Heap} (D : Facts K mg) {fd : FuncData} (F : FunD K "_law_changed" "_law_changed" (defArgs s__law_changed) (defBody s__law_changed) (defScope s__law_changed) [] [] (He.ga K "_law_changed") fd) : FnOk P w K mg base CX0 3 (He.ga K "_law_changed") fd ["_law_stream", "_law_blocks"] (spM K T m__law_changed) := fn_v0 F sc__law_changed fun cdv A outer s H E E' hr =>
    (vb_cons (vs_unp rfl (va_cons (ve_call (ok__law_draw D) (hr.mono (by first | decide | omega)) rfl (D.g2) passV (va_cons (ve_var (i := 0) rfl (Or.inl rfl)) (va_cons ve_int va_nil))) (va_cons (ve_call (ok__law_draw D) (hr.mono (by first | decide | omega)) rfl (D.g2) passV (va_cons (ve_var (i := 0) rfl (Or.inl rfl)) (va_cons (ve_op or_add o2_add (ve_callB cr_len on_len rfl (D.n3) (by decide +kernel) (va_cons (ve_var (i := 1) rfl (Or.inr (Or.inl rfl))) va_nil)) ve_int) va_nil))) va_nil)) (vms_cons (vm_name (i := 2) sc__law_changed.nd rfl (Or.inl rfl)) (vms_cons (vm_name (i := 3) sc__law_changed.nd rfl (Or.inr rfl)) vms_nil)))
    (vb_cons (vs_set (i := 4) sc__law_changed.nd rfl (Or.inr rfl) (ve_call (ok__law_t_slot D) (hr.mono (by first | decide | omega)) rfl (D.g4) passV (va_cons (ve_var (i := 1) rfl (Or.inr (Or.inl rfl))) (va_cons (ve_var (i := 3) rfl (Or.inr (Or.inl rfl))) va_nil))))
    (vb_cons (vs_if (VW.vt (vw_or (vt_cmp (or_eq (hu64 hr)) o2_eq (ve_var (i := 2) rfl (Or.inl rfl)) ve_int (nomark _)) (vw_or1 (vt_cmp (or_eq (hu64 hr)) o2_eq (ve_var (i := 1) rfl (Or.inr (Or.inl rfl))) (ve_lst va_nil) (nomark _))))) (vb_one (vs_ret (ve_op or_add o2_add (ve_var (i := 1) rfl (Or.inr (Or.inl rfl))) (ve_lst (va_cons (ve_tup (va_cons (ve_op or_add o2_add (ve_op or_add o2_add (ve_var (i := 4) rfl (Or.inr (Or.inl rfl))) ve_int) (ve_call (ok__law_draw D) (hr.mono (by first | decide | omega)) rfl (D.g2) passV (va_cons (ve_var (i := 0) rfl (Or.inl rfl)) (va_cons ve_int va_nil)))) (va_cons (ve_var (i := 3) rfl (Or.inr (Or.inl rfl))) va_nil))) va_nil))))) vb_nil)
    (vb_cons (vs_set (i := 3) sc__law_changed.nd rfl (Or.inr rfl) (ve_callB (call_max2 rfl) on_max2 rfl (D.n4) (by decide +kernel) (va_cons (ve_var (i := 3) rfl (Or.inr (Or.inl rfl))) (va_cons ve_int va_nil))))
    (vb_cons (vs_asg (ve_ix (ve_var (i := 1) rfl (Or.inr (Or.inl rfl))) (ve_op op_sub o2_sub (ve_var (i := 3) rfl (Or.inr (Or.inl rfl))) ve_int)) (vg_tup rfl (vgs_cons (vg_name (i := 4) sc__law_changed.nd rfl (Or.inr rfl)) (vgs_cons (vg_name (i := 5) sc__law_changed.nd rfl (Or.inl rfl)) vgs_nil)) (gsCons_len (gsCons_len (fun _ _ _ h => gsNil_len h)))))
    (vb_cons (vs_set (i := 6) sc__law_changed.nd rfl (Or.inl rfl) (ve_call (ok__law_t_slot D) (hr.mono (by first | decide | omega)) rfl (D.g4) passV (va_cons (ve_var (i := 1) rfl (Or.inr (Or.inl rfl))) (va_cons (ve_var (i := 5) rfl (Or.inl rfl)) va_nil))))
    (vb_cons (vs_set (i := 7) sc__law_changed.nd rfl (Or.inl rfl) (ve_op or_add o2_add (ve_frz (ve_lc (own := [("_law_other", 9), ("_law_under", 10)]) rfl sc__law_changed.nd (vi_any (ve_var (i := 1) rfl (Or.inr (Or.inl rfl)))) (blkOk_by (by kernel_rfl)) (by decide) (fun _ _ _ _ _ => (vgw_tup rfl (vgsw_cons (vgw_name (i := 9) sc__law_changed.nd rfl (Or.inl rfl)) (vgsw_cons (vgw_name (i := 10) sc__law_changed.nd rfl (Or.inl rfl)) vgsw_nil)) (gsCons_len (gsCons_len (fun _ _ _ h => gsNil_len h))))) (fun _ _ _ _ _ => (vts_one (vt_cmp (or_eq (hu64 hr)) o2_eq (ve_var (i := 10) rfl (Or.inl rfl)) (ve_var (i := 3) rfl (Or.inr (Or.inl rfl))) (nomark _)))) (fun _ _ _ _ _ => (ve_var (i := 9) rfl (Or.inl rfl))))) (ve_lst (va_cons (ve_op or_add o2_add (ve_var (i := 4) rfl (Or.inr (Or.inl rfl))) ve_int) va_nil))))
    (vb_cons (vs_if (vt_cmp (or_eq (hu64 hr)) o2_eq (ve_var (i := 2) rfl (Or.inl rfl)) ve_int (nomark _)) (vb_one (vs_ret (ve_op or_add o2_add (ve_op or_add o2_add (ve_sl (ve_var (i := 1) rfl (Or.inr (Or.inl rfl))) vo_none (vo_some (ve_op op_sub o2_sub (ve_var (i := 3) rfl (Or.inr (Or.inl rfl))) ve_int))) (ve_lst (va_cons (ve_tup (va_cons (ve_op or_add o2_add (ve_op or_add o2_add (ve_var (i := 6) rfl (Or.inl rfl)) ve_int) (ve_call (ok__law_draw D) (hr.mono (by first | decide | omega)) rfl (D.g2) passV (va_cons (ve_var (i := 0) rfl (Or.inl rfl)) (va_cons (ve_op op_sub o2_sub (ve_op op_sub o2_sub (ve_callB (cr_min rfl) on_min rfl (D.n5) (by decide +kernel) (va_cons (ve_var (i := 7) rfl (Or.inl rfl)) va_nil)) (ve_var (i := 6) rfl (Or.inl rfl))) ve_int) va_nil)))) (va_cons (ve_var (i := 5) rfl (Or.inl rfl)) va_nil))) va_nil))) (ve_sl (ve_var (i := 1) rfl (Or.inr (Or.inl rfl))) (vo_some (ve_var (i := 3) rfl (Or.inr (Or.inl rfl)))) vo_none)))) vb_nil)
    (vb_cons (vs_setLcF (own := [("_law_block", 11)]) (i := 8) rfl sc__law_changed.nd rfl rfl (sw_true rfl rfl rfl (by decide +kernel)) (vi_range1 rfl (D.n1) (va_cons (ve_var (i := 3) rfl (Or.inr (Or.inl rfl))) va_nil)) (blkOk_by (by kernel_rfl)) (by decide) (fun _ _ _ _ _ => (vgw_name (i := 11) sc__law_changed.nd rfl (Or.inl rfl))) (fun _ _ _ _ _ => (vts_one (vt_cmp op_lt (o2_cmp (p := fun i j => decide (i < j))) (ve_call (ok__law_t_slot D) (hr.mono (by first | decide | omega)) rfl (D.g4) passV (va_cons (ve_var (i := 1) rfl (Or.inr (Or.inl rfl))) (va_cons (ve_var (i := 11) rfl (Or.inl rfl)) va_nil))) (ve_var (i := 4) rfl (Or.inr (Or.inl rfl))) (nomark _)))) (fun _ _ _ _ _ => (ve_var (i := 11) rfl (Or.inl rfl))))
    (vb_one (vs_ret (ve_op or_add o2_add (ve_op or_add o2_add (ve_sl (ve_var (i := 1) rfl (Or.inr (Or.inl rfl))) vo_none (vo_some (ve_op op_sub o2_sub (ve_var (i := 3) rfl (Or.inr (Or.inl rfl))) ve_int))) (ve_lst (va_cons (ve_tup (va_cons (ve_var (i := 4) rfl (Or.inr (Or.inl rfl))) (va_cons (ve_call (ok__law_pick D) (hr.mono (by first | decide | omega)) rfl (D.g3) passV (va_cons (ve_var (i := 0) rfl (Or.inl rfl)) (va_cons (ve_var (i := 8) rfl (Or.inl rfl)) va_nil))) va_nil))) va_nil))) (ve_sl (ve_var (i := 1) rfl (Or.inr (Or.inl rfl))) (vo_some (ve_var (i := 3) rfl (Or.inr (Or.inl rfl)))) vo_none)))))))))))))
theorem ok__law_changed {P : Program} {w : World} {K : PySem.W.Frag} {mg : Str → Option Value} {base : Heap} (D : Facts K mg) : Fn P w K mg base T CX0 3 (He.ga K "_law_changed") m__law_changed := by
  obtain ⟨fd, F⟩ := D.d__law_changed
  exact Fn.plain (fo__law_changed D F) (F.bindsN fun _ _ _ _ _ _ us hl => match us, hl with | [_, _], _ => rfl) F.kp
/-! _law_renumbered -/
theorem sc__law_renumbered : FnScope ["_law_stream", "_law_blocks", "_law_places", "_law_found", "_law_left", "_law_ready", "_law_block"] ["_law_stream", "_law_blocks"] (defScope s__law_renumbered) := ⟨rfl, rfl, rfl, by decide +kernel, rfl, by decide +kernel, by decide +kernel⟩
def t__law_renumbered : TSv :=
  (bCons (sUnp ((mNm 2) :: ((mNm 3) :: ((mNm 4) :: []))) (aCons (eDisp [((eC (.int 0)), (eC (.int 0)))]) (aCons (eLstM aNil) (aCons (eLrg2M (eC (.int 1)) (eOp2 addF (eCB (g1 lenF) (aCons (eVar 1) aNil)) (eC (.int 1)))) aNil))))
    (bCons (whileF (tVal (eOp2 neF (eVar 4) (eLst aNil))) (bCons (sSet 5 (eFrz (eBorL (eLc (iAny (eVar 4)) (gNm 6) (tVal (eInD (eIx (eIx (eVar 1) (eOp2 subF (eVar 6) (eC (.int 1)))) (eC (.int 1))) (eVar 2))) (eVar 6) [6]))))
    (bCons (sSet 6 (eCall m__law_pick (aCons (eVar 0) (aCons (eVar 5) aNil))))
    (bCons (sExpr (eMut false cRemI (eVar 4) (aCons (eVar 6) aNil)))
    (bCons (sExpr (eMut false cAppend (eVar 3) (aCons (eTup (aCons (eIx (eIx (eVar 1) (eOp2 subF (eVar 6) (eC (.int 1)))) (eC (.int 0))) (aCons (eOp2 gDGet (eVar 2) (eIx (eIx (eVar 1) (eOp2 subF (eVar 6) (eC (.int 1)))) (eC (.int 1)))) aNil))) aNil)))
    (sDPut (eVar 2) (eVar 6) (eCB (g1 lenF) (aCons (eVar 3) aNil))))))) fuel)
    (sRet (eFrzC (eVar 3)))))
def m__law_renumbered : FnM := fnM 2 7 t__law_renumbered
theorem fo__law_renumbered {P : Program} {w : World} {K : PySem.W.Frag} {mg : Str → Option Value} {base : Heap} (D : Facts K mg) {fd : FuncData} (F : FunD K "_law_renumbered" "_law_renumbered" (defArgs s__law_renumbered) (defBody s__law_renumbered) (defScope s__law_renumbered) [] [] (He.ga K "_law_renumbered") fd) : FnOk P w K mg base CX0 3 (He.ga K "_law_renumbered") fd ["_law_stream", "_law_blocks"] (spM K T m__law_renumbered) := fn_v0 F sc__law_renumbered fun cdv A outer s H E E' hr =>
    (vb_cons (vs_unp rfl (va_cons (ve_disp (vps_cons ve_int ve_int vps_nil)) (va_cons (ve_lstM va_nil) (va_cons (ve_listRg2M rfl rfl (D.n0) rfl (D.n1) ve_int (ve_op or_add o2_add (ve_callB cr_len on_len rfl (D.n3) (by decide +kernel) (va_cons (ve_var (i := 1) rfl (Or.inr (Or.inl rfl))) va_nil)) ve_int)) va_nil))) (vms_cons (vm_name (i := 2) sc__law_renumbered.nd rfl (Or.inr rfl)) (vms_cons (vm_name (i := 3) sc__law_renumbered.nd rfl (Or.inl rfl)) (vms_cons (vm_name (i := 4) sc__law_renumbered.nd rfl (Or.inl rfl)) vms_nil))))
    (vb_cons (vs_while fuel PassesOwn.never (vt_cmp (or_ne (hu64 hr)) o2_ne (ve_var (i := 4) rfl (Or.inl rfl)) (ve_lst va_nil) (nomark _)) (vb_cons (vs_setLcB (own := [("_law_block", 6)]) (i := 5) rfl sc__law_renumbered.nd rfl rfl (sw_true rfl rfl rfl (by decide +kernel)) (vi_any (ve_var (i := 4) rfl (Or.inl rfl))) (blkOk_by (by kernel_rfl)) (by decide) (fun _ _ _ _ _ => (vgw_name (i := 6) sc__law_renumbered.nd rfl (Or.inl rfl))) (fun _ _ _ _ _ => (vts_one (vt_inDD (hu64 hr) (ve_ix (ve_ix (ve_var (i := 1) rfl (Or.inr (Or.inl rfl))) (ve_op op_sub o2_sub (ve_var (i := 6) rfl (Or.inl rfl)) ve_int)) ve_int) (ve_var (i := 2) rfl (Or.inr (Or.inl rfl))) (by with_unfolding_all rfl)))) (fun _ _ _ _ _ => (ve_var (i := 6) rfl (Or.inl rfl))))
    (vb_cons (vs_set (i := 6) sc__law_renumbered.nd rfl (Or.inl rfl) (ve_call (ok__law_pick D) (hr.mono (by first | decide | omega)) rfl (D.g3) passV (va_cons (ve_var (i := 0) rfl (Or.inl rfl)) (va_cons (ve_var (i := 5) rfl (Or.inl rfl)) va_nil))))
    (vb_cons (vs_expr (ve_remI (ve_var (i := 4) rfl (Or.inl rfl)) (ve_var (i := 6) rfl (Or.inl rfl))))
    (vb_cons (vs_expr (ve_append (ve_var (i := 3) rfl (Or.inl rfl)) (ve_tup (va_cons (ve_ix (ve_ix (ve_var (i := 1) rfl (Or.inr (Or.inl rfl))) (ve_op op_sub o2_sub (ve_var (i := 6) rfl (Or.inl rfl)) ve_int)) ve_int) (va_cons (ve_dget (hu1 (hu64 hr)) (ve_var (i := 2) rfl (Or.inr (Or.inl rfl))) (ve_ix (ve_ix (ve_var (i := 1) rfl (Or.inr (Or.inl rfl))) (ve_op op_sub o2_sub (ve_var (i := 6) rfl (Or.inl rfl)) ve_int)) ve_int) (fun _ _ => rfl)) va_nil)))))
    (vb_one (vs_dput (hu64 hr) (ve_var (i := 2) rfl (Or.inr (Or.inl rfl))) (ve_var (i := 6) rfl (Or.inl rfl)) (ve_callB cr_len on_len rfl (D.n3) (by decide +kernel) (va_cons (ve_var (i := 3) rfl (Or.inl rfl)) va_nil)))))))))
    (vb_one (vs_ret (ve_frzC (ve_var (i := 3) rfl (Or.inl rfl)))))))
theorem ok__law_renumbered {P : Program} {w : World} {K : PySem.W.Frag} {mg : Str → Option Value} {base : Heap} (D : Facts K mg) : Fn P w K mg base T CX0 3 (He.ga K "_law_renumbered") m__law_renumbered := by
  obtain ⟨fd, F⟩ := D.d__law_renumbered
  exact Fn.plain (fo__law_renumbered D F) (F.bindsN fun _ _ _ _ _ _ us hl => match us, hl with | [_, _], _ => rfl) F.kp
/-! _law_form -/
theorem sc__law_form : FnScope ["_law_blocks", "_law_block", "_law_found", "_law_at", "_law_slot", "_law_parent"] ["_law_blocks", "_law_block"] (defScope s__law_form) := ⟨rfl, rfl, rfl, by decide +kernel, rfl, by decide +kernel, by decide +kernel⟩
def t__law_form (r : FnM) : TSv :=
  (bCons (sSet 2 (eLstM aNil))
    (bCons (sFor (iEnum (aCons (eVar 0) aNil)) (gTp (gsCons (gNm 3) (gsCons (gTp (gsCons (gNm 4) (gsCons (gNm 5) gsNil))) gsNil))) (sIf (tVal (eOp2 eqF (eVar 5) (eVar 1))) (sExpr (eMut false cAppend (eVar 2) (aCons (eTup (aCons (eVar 4) (aCons (eCall r (aCons (eVar 0) (aCons (eOp2 addF (eVar 3) (eC (.int 1))) aNil))) aNil))) aNil))) bNil))
    (sRet (eCB (g1 tupleF) (aCons (eCB (g1 sortedFmF) (aCons (eVar 2) aNil)) aNil)))))
def m__law_form : Nat → FnM
  | 0 => fnM 2 6 bStuck
  | n + 1 => fnM 2 6 (t__law_form (m__law_form n))
theorem ok__law_form {P : Program} {w : World} {K : PySem.W.Frag} {mg : Str → Option Value} {base : Heap} (D : Facts K mg) : ∀ n, Fn P w K mg base T CX0 (1 + n) (He.ga K "_law_form") (m__law_form n)
  | 0 => by
    obtain ⟨fd, F⟩ := D.d__law_form
    have h : FnOk P w K mg base CX0 1 (He.ga K "_law_form") fd ["_law_blocks", "_law_block"] (spM K T (m__law_form 0)) := fn_v0 F sc__law_form fun cdv A outer s H E E' hr => vb_stuck
    exact Fn.plain h (F.bindsN fun _ _ _ _ _ _ us hl => match us, hl with | [_, _], _ => rfl) F.kp
  | n + 1 => by
    have ih := ok__law_form (P := P) (w := w) (base := base) D n
    obtain ⟨fd, F⟩ := D.d__law_form
    generalize hm : m__law_form n = r at ih
    have h : FnOk P w K mg base CX0 (1 + n + 1) (He.ga K "_law_form") fd ["_law_blocks", "_law_block"] (spM K T (fnM 2 6 (t__law_form r))) := fn_v0 F sc__law_form fun cdv A outer s H E E' hr =>
    (vb_cons (vs_set (i := 2) sc__law_form.nd rfl (Or.inl rfl) (ve_lstM va_nil))
    (vb_cons (vs_for PassesOwn.never rfl (vi_enum rfl (D.n6) (va_cons (ve_var (i := 0) rfl (Or.inl rfl)) va_nil)) (vg_tup rfl (vgs_cons (vg_name (i := 3) sc__law_form.nd rfl (Or.inl rfl)) (vgs_cons (vg_tup rfl (vgs_cons (vg_name (i := 4) sc__law_form.nd rfl (Or.inl rfl)) (vgs_cons (vg_name (i := 5) sc__law_form.nd rfl (Or.inl rfl)) vgs_nil)) (gsCons_len (gsCons_len (fun _ _ _ h => gsNil_len h)))) vgs_nil)) (gsCons_len (gsCons_len (fun _ _ _ h => gsNil_len h)))) (vb_one (vs_if (vt_cmp (or_eq (hu64 hr)) o2_eq (ve_var (i := 5) rfl (Or.inl rfl)) (ve_var (i := 1) rfl (Or.inl rfl)) (nomark _)) (vb_one (vs_expr (ve_append (ve_var (i := 2) rfl (Or.inl rfl)) (ve_tup (va_cons (ve_var (i := 4) rfl (Or.inl rfl)) (va_cons (ve_call (ih) hr rfl (D.g8) passV (va_cons (ve_var (i := 0) rfl (Or.inl rfl)) (va_cons (ve_op or_add o2_add (ve_var (i := 3) rfl (Or.inl rfl)) ve_int) va_nil))) va_nil)))))) vb_nil)))
    (vb_one (vs_ret (ve_callTy call_tuple_of on_tuple rfl (D.n7) (by decide +kernel) (va_cons (ve_callB (cr_sortedFm (hu199 hr)) on_sortedFm rfl (D.n8) (by decide +kernel) (va_cons (ve_var (i := 2) rfl (Or.inl rfl)) va_nil)) va_nil))))))
    have e : m__law_form (n + 1) = fnM 2 6 (t__law_form r) := by rw [← hm]; rfl
    rw [e]
    exact Fn.plain h (F.bindsN fun _ _ _ _ _ _ us hl => match us, hl with | [_, _], _ => rfl) F.kp
/-! is_list -/
theorem sc_is_list : FnScope ["thing"] ["thing"] (defScope s_is_list) := ⟨rfl, rfl, rfl, by decide +kernel, rfl, by decide +kernel, by decide +kernel⟩
def t_is_list : TSv :=
  (sRet (eIsi [.lst, .tup] (eVar 0)))
def m_is_list : FnM := fnM 1 1 t_is_list
theorem fo_is_list {P : Program} {w : World} {K : PySem.W.Frag} {mg : Str → Option Value} {base : Heap} (D : Facts K mg) {fd : FuncData} (F : FunD K "is_list" "is_list" (defArgs s_is_list) (defBody s_is_list) (defScope s_is_list) [] [] (He.ga K "is_list") fd) : FnOk P w K mg base CX0 1 (He.ga K "is_list") fd ["thing"] (spM K T m_is_list) := fn_v0 F sc_is_list fun cdv A outer s H E E' hr =>
    (vb_one (vs_ret (ve_isiT D.tab D.isi rfl (D.n9) (ve_var (i := 0) rfl (Or.inl rfl)) (.cons (tg_ty rfl (D.n0) (by decide +kernel)) rfl (.cons (tg_ty rfl (D.n7) (by decide +kernel)) rfl .nil)))))
theorem ok_is_list {P : Program} {w : World} {K : PySem.W.Frag} {mg : Str → Option Value} {base : Heap} (D : Facts K mg) : Fn P w K mg base T CX0 1 (He.ga K "is_list") m_is_list := by
  obtain ⟨fd, F⟩ := D.d_is_list
  exact Fn.plain (fo_is_list D F) (F.bindsN fun _ _ _ _ _ _ us hl => match us, hl with | [_], _ => rfl) F.kp
/-! is_integer -/
theorem sc_is_integer : FnScope ["thing"] ["thing"] (defScope s_is_integer) := ⟨rfl, rfl, rfl, by decide +kernel, rfl, by decide +kernel, by decide +kernel⟩
def t_is_integer : TSv :=
  (sRet (eAnd (eIsi [.int] (eVar 0)) (eNot (eIsi [.bl] (eVar 0)))))
def m_is_integer : FnM := fnM 1 1 t_is_integer
theorem fo_is_integer {P : Program} {w : World} {K : PySem.W.Frag} {mg : Str → Option Value} {base : Heap} (D : Facts K mg) {fd : FuncData} (F : FunD K "is_integer" "is_integer" (defArgs s_is_integer) (defBody s_is_integer) (defScope s_is_integer) [] [] (He.ga K "is_integer") fd) : FnOk P w K mg base CX0 1 (He.ga K "is_integer") fd ["thing"] (spM K T m_is_integer) := fn_v0 F sc_is_integer fun cdv A outer s H E E' hr =>
    (vb_one (vs_ret (ve_and (ve_isi D.tab D.isi rfl (D.n9) (ve_var (i := 0) rfl (Or.inl rfl)) (tg_ty rfl (D.n2) (by decide +kernel))) (ve_one (ve_not (ve_isi D.tab D.isi rfl (D.n9) (ve_var (i := 0) rfl (Or.inl rfl)) (tg_ty rfl (D.n10) (by decide +kernel))))))))
theorem ok_is_integer {P : Program} {w : World} {K : PySem.W.Frag} {mg : Str → Option Value} {base : Heap} (D : Facts K mg) : Fn P w K mg base T CX0 1 (He.ga K "is_integer") m_is_integer := by
  obtain ⟨fd, F⟩ := D.d_is_integer
  exact Fn.plain (fo_is_integer D F) (F.bindsN fun _ _ _ _ _ _ us hl => match us, hl with | [_], _ => rfl) F.kp
/-! Tree.__contains__ -/
theorem sc_Tree___contains__ : FnScope ["self", "thing"] ["self", "thing"] (defScope s_Tree___contains__) := ⟨rfl, rfl, rfl, by decide +kernel, rfl, by decide +kernel, by decide +kernel⟩
def t_Tree___contains__ : TSv :=
  (sRet (eAnd (eCall m_is_integer (aCons (eVar 1) aNil)) (eChain leF ltF (eC (.int 0)) (eVar 1) (eCB (g1 lenF) (aCons (eAttr 1 (eVar 0)) aNil)))))
def m_Tree___contains__ : FnM := fnM 2 2 t_Tree___contains__
theorem fo_Tree___contains__ {P : Program} {w : World} {K : PySem.W.Frag} {mg : Str → Option Value} {base : Heap} (D : Facts K mg) {fd : FuncData} (F : FunD K "__contains__" "Tree.__contains__" (defArgs s_Tree___contains__) (defBody s_Tree___contains__) (defScope s_Tree___contains__) [] [] (He.ma K (He.ga K "Tree") "__contains__") fd) : FnOk P w K mg base CX0 2 (He.ma K (He.ga K "Tree") "__contains__") fd ["self", "thing"] (spM K T m_Tree___contains__) := fn_v0 F sc_Tree___contains__ fun cdv A outer s H E E' hr =>
    (vb_one (vs_ret (ve_and (ve_call (ok_is_integer D) (hr.mono (by first | decide | omega)) rfl (D.g10) passV (va_cons (ve_var (i := 1) rfl (Or.inl rfl)) va_nil)) (ve_one (ve_chain op_le (o2_cmp (p := fun i j => decide (i ≤ j))) op_lt (o2_cmp (p := fun i j => decide (i < j))) ve_int (ve_var (i := 1) rfl (Or.inl rfl)) (ve_callB cr_len on_len rfl (D.n3) (by decide +kernel) (va_cons (ve_attr (i := 1) D.tab (ve_var (i := 0) rfl (Or.inl rfl)) (by decide +kernel)) va_nil)))))))
theorem ok_Tree___contains__ {P : Program} {w : World} {K : PySem.W.Frag} {mg : Str → Option Value} {base : Heap} (D : Facts K mg) : Fn P w K mg base T CX0 2 (He.ma K (He.ga K "Tree") "__contains__") m_Tree___contains__ := by
  obtain ⟨fd, F⟩ := D.d_Tree___contains__
  exact Fn.plain (fo_Tree___contains__ D F) (F.bindsN fun _ _ _ _ _ _ us hl => match us, hl with | [_, _], _ => rfl) F.kp
/-! Tree.can_stand -/
theorem sc_Tree_can_stand : FnScope ["self", "slot", "parent"] ["self", "slot", "parent"] (defScope s_Tree_can_stand) := ⟨rfl, rfl, rfl, by decide +kernel, rfl, by decide +kernel, by decide +kernel⟩
def t_Tree_can_stand : TSv :=
  (sRet (eAnd (eCall m_is_integer (aCons (eVar 1) aNil)) (eAnd (eInO 0 false m_Tree___contains__ (eVar 2) (eVar 0)) (eOp2 ltF (eIx (eAttr 1 (eVar 0)) (eVar 2)) (eVar 1)))))
def m_Tree_can_stand : FnM := fnM 3 3 t_Tree_can_stand
theorem fo_Tree_can_stand {P : Program} {w : World} {K : PySem.W.Frag} {mg : Str → Option Value} {base : Heap} (D : Facts K mg) {fd : FuncData} (F : FunD K "can_stand" "Tree.can_stand" (defArgs s_Tree_can_stand) (defBody s_Tree_can_stand) (defScope s_Tree_can_stand) [] [] (He.ma K (He.ga K "Tree") "can_stand") fd) : FnOk P w K mg base CX0 3 (He.ma K (He.ga K "Tree") "can_stand") fd ["self", "slot", "parent"] (spM K T m_Tree_can_stand) := fn_v0 F sc_Tree_can_stand fun cdv A outer s H E E' hr =>
    (vb_one (vs_ret (ve_and (ve_call (ok_is_integer D) (hr.mono (by first | decide | omega)) rfl (D.g10) passV (va_cons (ve_var (i := 1) rfl (Or.inl rfl)) va_nil)) (ve_and (ve_inO (c := 0) (D.me0) (ok_Tree___contains__ D) (hr.mono (by first | decide | omega)) passV (ve_var (i := 2) rfl (Or.inl rfl)) (ve_var (i := 0) rfl (Or.inl rfl)) (by with_unfolding_all rfl)) (ve_one (ve_cmp op_lt (o2_cmp (p := fun i j => decide (i < j))) (ve_ix (ve_attr (i := 1) D.tab (ve_var (i := 0) rfl (Or.inl rfl)) (by decide +kernel)) (ve_var (i := 2) rfl (Or.inl rfl))) (ve_var (i := 1) rfl (Or.inl rfl)) (nomark _)))))))
theorem ok_Tree_can_stand {P : Program} {w : World} {K : PySem.W.Frag} {mg : Str → Option Value} {base : Heap} (D : Facts K mg) : Fn P w K mg base T CX0 3 (He.ma K (He.ga K "Tree") "can_stand") m_Tree_can_stand := by
  obtain ⟨fd, F⟩ := D.d_Tree_can_stand
  exact Fn.plain (fo_Tree_can_stand D F) (F.bindsN fun _ _ _ _ _ _ us hl => match us, hl with | [_, _, _], _ => rfl) F.kp
/-! Tree.__init__ -/
theorem sc_Tree___init__ : FnScope ["self", "blocks", "index", "thing"] ["self", "blocks"] (defScope s_Tree___init__) := ⟨rfl, rfl, rfl, by decide +kernel, rfl, by decide +kernel, by decide +kernel⟩
def t_Tree___init__ : TSv :=
  (bCons (sIf (tNotV (tVal (eCall m_is_list (aCons (eVar 1) aNil)))) sNever bNil)
    (bCons (sUnp ((mAt T 0 (eVar 0)) :: ((mAt T 1 (eVar 0)) :: ((mAt T 2 (eVar 0)) :: ((mAt T 3 (eVar 0)) :: [])))) (aCons (eLstM aNil) (aCons (eLstM (aCons (eC (.int 0)) aNil)) (aCons (eLstM (aCons (eC .non) aNil)) (aCons (eLstM (aCons (eC (.int 0)) aNil)) aNil)))))
    (sFor (iEnum (aCons (eVar 1) aNil)) (gTp (gsCons (gNm 2) (gsCons (gNm 3) gsNil))) (bCons (sIf (tOrV (tNotV (tVal (eCall m_is_list (aCons (eVar 3) aNil)))) (tOrV (tVal (eOp2 neF (eCB (g1 lenF) (aCons (eVar 3) aNil)) (eC (.int 2)))) (tNotV (tVal (eMeth 0 (bor m_Tree_can_stand) (eVar 0) (aCons (eIx (eVar 3) (eC (.int 0))) (aCons (eIx (eVar 3) (eC (.int 1))) aNil))))))) sNever bNil)
    (bCons (sExpr (eMut false cAppend (eAttr 0 (eVar 0)) (aCons (eTup (aCons (eIx (eVar 3) (eC (.int 0))) (aCons (eIx (eVar 3) (eC (.int 1))) aNil))) aNil)))
    (bCons (sExpr (eMut false cAppend (eAttr 1 (eVar 0)) (aCons (eIx (eVar 3) (eC (.int 0))) aNil)))
    (bCons (sExpr (eMut false cAppend (eAttr 2 (eVar 0)) (aCons (eIx (eVar 3) (eC (.int 1))) aNil)))
    (sExpr (eMut false cAppend (eAttr 3 (eVar 0)) (aCons (eOp2 addF (eIx (eAttr 3 (eVar 0)) (eIx (eVar 3) (eC (.int 1)))) (eC (.int 1))) aNil))))))))))
def m_Tree___init__ : FnM := fnM 2 4 t_Tree___init__
theorem fo_Tree___init__ {P : Program} {w : World} {K : PySem.W.Frag} {mg : Str → Option Value} {base : Heap} (D : Facts K mg) {fd : FuncData} (F : FunD K "__init__" "Tree.__init__" (defArgs s_Tree___init__) (defBody s_Tree___init__) (defScope s_Tree___init__) [(.ref (He.dflAt ("Tree", some "__init__") 0 K))] [] (He.ma K (He.ga K "Tree") "__init__") fd) : FnOk P w K mg base CX0 4 (He.ma K (He.ga K "Tree") "__init__") fd ["self", "blocks"] (spM K T m_Tree___init__) := fn_v0 F sc_Tree___init__ fun cdv A outer s H E E' hr =>
    (vb_cons (vs_if (vt_not (vt_val (ve_call (ok_is_list D) (hr.mono (by first | decide | omega)) rfl (D.g9) passV (va_cons (ve_var (i := 1) rfl (Or.inl rfl)) va_nil)))) (vb_one vs_never) vb_nil)
    (vb_cons (vs_unp rfl (va_cons (ve_lstM va_nil) (va_cons (ve_lstM (va_cons ve_int va_nil)) (va_cons (ve_lstM (va_cons ve_non va_nil)) (va_cons (ve_lstM (va_cons ve_int va_nil)) va_nil)))) (vms_cons (vm_attr (i := 0) (j := 0) D.tab (by decide +kernel) rfl (Or.inl rfl)) (vms_cons (vm_attr (i := 1) (j := 0) D.tab (by decide +kernel) rfl (Or.inl rfl)) (vms_cons (vm_attr (i := 2) (j := 0) D.tab (by decide +kernel) rfl (Or.inl rfl)) (vms_cons (vm_attr (i := 3) (j := 0) D.tab (by decide +kernel) rfl (Or.inl rfl)) vms_nil)))))
    (vb_one (vs_for PassesOwn.never rfl (vi_enum rfl (D.n6) (va_cons (ve_var (i := 1) rfl (Or.inl rfl)) va_nil)) (vg_tup rfl (vgs_cons (vg_name (i := 2) sc_Tree___init__.nd rfl (Or.inl rfl)) (vgs_cons (vg_name (i := 3) sc_Tree___init__.nd rfl (Or.inl rfl)) vgs_nil)) (gsCons_len (gsCons_len (fun _ _ _ h => gsNil_len h)))) (vb_cons (vs_if (VW.vt (vw_or (vt_not (vt_val (ve_call (ok_is_list D) (hr.mono (by first | decide | omega)) rfl (D.g9) passV (va_cons (ve_var (i := 3) rfl (Or.inl rfl)) va_nil)))) (vw_or (vt_cmp (or_ne (hu64 hr)) o2_ne (ve_callB cr_len on_len rfl (D.n3) (by decide +kernel) (va_cons (ve_var (i := 3) rfl (Or.inl rfl)) va_nil)) ve_int (nomark _)) (vw_or1 (vt_not (vt_val (ve_meth (c := 0) D.tab rfl (by decide +kernel) (ve_var (i := 0) rfl (Or.inl rfl)) (D.me1) (Fn.bor (ok_Tree_can_stand D)) (hr.mono (by first | decide | omega)) passV (va_cons (ve_ix (ve_var (i := 3) rfl (Or.inl rfl)) ve_int) (va_cons (ve_ix (ve_var (i := 3) rfl (Or.inl rfl)) ve_int) va_nil))))))))) (vb_one vs_never) vb_nil)
    (vb_cons (vs_expr (ve_append (ve_attr (i := 0) D.tab (ve_var (i := 0) rfl (Or.inl rfl)) (by decide +kernel)) (ve_tup (va_cons (ve_ix (ve_var (i := 3) rfl (Or.inl rfl)) ve_int) (va_cons (ve_ix (ve_var (i := 3) rfl (Or.inl rfl)) ve_int) va_nil)))))
    (vb_cons (vs_expr (ve_append (ve_attr (i := 1) D.tab (ve_var (i := 0) rfl (Or.inl rfl)) (by decide +kernel)) (ve_ix (ve_var (i := 3) rfl (Or.inl rfl)) ve_int)))
    (vb_cons (vs_expr (ve_append (ve_attr (i := 2) D.tab (ve_var (i := 0) rfl (Or.inl rfl)) (by decide +kernel)) (ve_ix (ve_var (i := 3) rfl (Or.inl rfl)) ve_int)))
    (vb_one (vs_expr (ve_append (ve_attr (i := 3) D.tab (ve_var (i := 0) rfl (Or.inl rfl)) (by decide +kernel)) (ve_op or_add o2_add (ve_ix (ve_attr (i := 3) D.tab (ve_var (i := 0) rfl (Or.inl rfl)) (by decide +kernel)) (ve_ix (ve_var (i := 3) rfl (Or.inl rfl)) ve_int)) ve_int))))))))))))
theorem ok_Tree___init__ {P : Program} {w : World} {K : PySem.W.Frag} {mg : Str → Option Value} {base : Heap} (D : Facts K mg) : Fn P w K mg base T CX0 4 (He.ma K (He.ga K "Tree") "__init__") m_Tree___init__ := by
  obtain ⟨fd, F⟩ := D.d_Tree___init__
  obtain ⟨ds, hv, hb⟩ := F.binds1 (ps := ["self", "blocks"]) 2 1 (by simp) rfl (fun _ _ _ _ _ _ _ us its hu hi => match us, hu, its, hi with | [_, _], _, [_], _ => ⟨_, rfl, rfl⟩)
  exact Fn.full (fo_Tree___init__ D F) hb hv F.kp
def m_Tree___init___d1 : FnM := fun ws st => m_Tree___init__ (ws ++ ([(.tup [])] : List F).map W.f) st
theorem ok_Tree___init___d1 {P : Program} {w : World} {K : PySem.W.Frag} {mg : Str → Option Value} {base : Heap} (D : Facts K mg) : Fn P w K mg base T CX0 4 (He.ma K (He.ga K "Tree") "__init__") m_Tree___init___d1 := by
  obtain ⟨fd, F⟩ := D.d_Tree___init__
  obtain ⟨ds, hv, hb⟩ := F.binds1 (ps := ["self", "blocks"]) 1 0 (by simp) rfl (fun _ _ _ _ _ _ _ us its hu hi => match us, hu, its, hi with | [_], _, [_], _ => ⟨_, rfl, rfl⟩)
  exact Fn.dfl [(.tup [])] (fo_Tree___init__ D F) hb hv (fun Z => (.cons (.tup (tup0B_ok D.dt0 _) .nil) .nil)) F.kp
/-! _law_same -/
theorem sc__law_same : FnScope ["_law_found", "_law_due", "_law_x", "_law_y"] ["_law_found", "_law_due"] (defScope s__law_same) := ⟨rfl, rfl, rfl, by decide +kernel, rfl, by decide +kernel, by decide +kernel⟩
def t__law_same (r : FnM) : TSv :=
  (bCons (sIf (tVal (eIsi [.lst, .tup] (eVar 1))) (bCons (sIf (tOrV (tVal (eOp2 neF (eIsi [.lst] (eVar 0)) (eIsi [.lst] (eVar 1)))) (tVal (eOp2 neF (eIsi [.tup] (eVar 0)) (eIsi [.tup] (eVar 1))))) (sRet (eC (.bl false))) bNil)
    (sRet (eAnd (eOp2 eqF (eCB (g1 lenF) (aCons (eVar 0) aNil)) (eCB (g1 lenF) (aCons (eVar 1) aNil))) (eCB (g1 allB) (aCons (eFrz (eLc (iZip (aCons (eVar 0) (aCons (eVar 1) aNil))) (gTp (gsCons (gNm 2) (gsCons (gNm 3) gsNil))) tYesV (eCall r (aCons (eVar 2) (aCons (eVar 3) aNil))) [2, 3])) aNil))))) bNil)
    (bCons (sIf (tVal (eIsi [.int] (eVar 1))) (sRet (eAnd (eIsi [.int] (eVar 0)) (eAnd (eOp2 eqF (eIsi [.bl] (eVar 0)) (eIsi [.bl] (eVar 1))) (eOp2 eqF (eVar 0) (eVar 1))))) bNil)
    (sRet (eAnd (eOp2 isNF (eIsi [.int, .lst, .tup] (eVar 0)) (eC (.bl false))) (eOp2 eqF (eVar 0) (eVar 1))))))
def m__law_same : Nat → FnM
  | 0 => fnM 2 4 bStuck
  | n + 1 => fnM 2 4 (t__law_same (m__law_same n))
theorem ok__law_same {P : Program} {w : World} {K : PySem.W.Frag} {mg : Str → Option Value} {base : Heap} (D : Facts K mg) : ∀ n, Fn P w K mg base T CX0 (1 + n) (He.ga K "_law_same") (m__law_same n)
  | 0 => by
    obtain ⟨fd, F⟩ := D.d__law_same
    have h : FnOk P w K mg base CX0 1 (He.ga K "_law_same") fd ["_law_found", "_law_due"] (spM K T (m__law_same 0)) := fn_v0 F sc__law_same fun cdv A outer s H E E' hr => vb_stuck
    exact Fn.plain h (F.bindsN fun _ _ _ _ _ _ us hl => match us, hl with | [_, _], _ => rfl) F.kp
  | n + 1 => by
    have ih := ok__law_same (P := P) (w := w) (base := base) D n
    obtain ⟨fd, F⟩ := D.d__law_same
    generalize hm : m__law_same n = r at ih
    have h : FnOk P w K mg base CX0 (1 + n + 1) (He.ga K "_law_same") fd ["_law_found", "_law_due"] (spM K T (fnM 2 4 (t__law_same r))) := fn_v0 F sc__law_same fun cdv A outer s H E E' hr =>
    (vb_cons (vs_if (vt_val (ve_isiT D.tab D.isi rfl (D.n9) (ve_var (i := 1) rfl (Or.inl rfl)) (.cons (tg_ty rfl (D.n0) (by decide +kernel)) rfl (.cons (tg_ty rfl (D.n7) (by decide +kernel)) rfl .nil)))) (vb_cons (vs_if (VW.vt (vw_or (vt_cmp (or_ne (hu64 hr)) o2_ne (ve_isi D.tab D.isi rfl (D.n9) (ve_var (i := 0) rfl (Or.inl rfl)) (tg_ty rfl (D.n0) (by decide +kernel))) (ve_isi D.tab D.isi rfl (D.n9) (ve_var (i := 1) rfl (Or.inl rfl)) (tg_ty rfl (D.n0) (by decide +kernel))) (nomark _)) (vw_or1 (vt_cmp (or_ne (hu64 hr)) o2_ne (ve_isi D.tab D.isi rfl (D.n9) (ve_var (i := 0) rfl (Or.inl rfl)) (tg_ty rfl (D.n7) (by decide +kernel))) (ve_isi D.tab D.isi rfl (D.n9) (ve_var (i := 1) rfl (Or.inl rfl)) (tg_ty rfl (D.n7) (by decide +kernel))) (nomark _))))) (vb_one (vs_ret ve_bl)) vb_nil)
    (vb_one (vs_ret (ve_and (ve_cmp (or_eq (hu64 hr)) o2_eq (ve_callB cr_len on_len rfl (D.n3) (by decide +kernel) (va_cons (ve_var (i := 0) rfl (Or.inl rfl)) va_nil)) (ve_callB cr_len on_len rfl (D.n3) (by decide +kernel) (va_cons (ve_var (i := 1) rfl (Or.inl rfl)) va_nil)) (nomark _)) (ve_one (ve_callB (cr_all rfl) on_all rfl (D.n11) (by decide +kernel) (va_cons (ve_frz (ve_lc (own := [("_law_x", 2), ("_law_y", 3)]) rfl sc__law_same.nd (vi_zip rfl (D.n12) (va_cons (ve_var (i := 0) rfl (Or.inl rfl)) (va_cons (ve_var (i := 1) rfl (Or.inl rfl)) va_nil))) (blkOk_by (by kernel_rfl)) (by decide) (fun _ _ _ _ _ => (vgw_tup rfl (vgsw_cons (vgw_name (i := 2) sc__law_same.nd rfl (Or.inl rfl)) (vgsw_cons (vgw_name (i := 3) sc__law_same.nd rfl (Or.inl rfl)) vgsw_nil)) (gsCons_len (gsCons_len (fun _ _ _ h => gsNil_len h))))) (fun _ _ _ _ _ => vts_nil) (fun _ _ _ _ _ => (ve_call (ih) hr rfl (D.g12) passV (va_cons (ve_var (i := 2) rfl (Or.inl rfl)) (va_cons (ve_var (i := 3) rfl (Or.inl rfl)) va_nil)))))) va_nil))))))) vb_nil)
    (vb_cons (vs_if (vt_val (ve_isi D.tab D.isi rfl (D.n9) (ve_var (i := 1) rfl (Or.inl rfl)) (tg_ty rfl (D.n2) (by decide +kernel)))) (vb_one (vs_ret (ve_and (ve_isi D.tab D.isi rfl (D.n9) (ve_var (i := 0) rfl (Or.inl rfl)) (tg_ty rfl (D.n2) (by decide +kernel))) (ve_and (ve_cmp (or_eq (hu64 hr)) o2_eq (ve_isi D.tab D.isi rfl (D.n9) (ve_var (i := 0) rfl (Or.inl rfl)) (tg_ty rfl (D.n10) (by decide +kernel))) (ve_isi D.tab D.isi rfl (D.n9) (ve_var (i := 1) rfl (Or.inl rfl)) (tg_ty rfl (D.n10) (by decide +kernel))) (nomark _)) (ve_one (ve_cmp (or_eq (hu64 hr)) o2_eq (ve_var (i := 0) rfl (Or.inl rfl)) (ve_var (i := 1) rfl (Or.inl rfl)) (nomark _))))))) vb_nil)
    (vb_one (vs_ret (ve_and (ve_cmp or_is o2_is (ve_isiT D.tab D.isi rfl (D.n9) (ve_var (i := 0) rfl (Or.inl rfl)) (.cons (tg_ty rfl (D.n2) (by decide +kernel)) rfl (.cons (tg_ty rfl (D.n0) (by decide +kernel)) rfl (.cons (tg_ty rfl (D.n7) (by decide +kernel)) rfl .nil)))) ve_bl (nomark _)) (ve_one (ve_cmp (or_eq (hu64 hr)) o2_eq (ve_var (i := 0) rfl (Or.inl rfl)) (ve_var (i := 1) rfl (Or.inl rfl)) (nomark _))))))))
    have e : m__law_same (n + 1) = fnM 2 4 (t__law_same r) := by rw [← hm]; rfl
    rw [e]
    exact Fn.plain h (F.bindsN fun _ _ _ _ _ _ us hl => match us, hl with | [_, _], _ => rfl) F.kp
/-! Tree.__len__ -/
theorem sc_Tree___len__ : FnScope ["self"] ["self"] (defScope s_Tree___len__) := ⟨rfl, rfl, rfl, by decide +kernel, rfl, by decide +kernel, by decide +kernel⟩
def t_Tree___len__ : TSv :=
  (sRet (eCB (g1 lenF) (aCons (eAttr 0 (eVar 0)) aNil)))
def m_Tree___len__ : FnM := fnM 1 1 t_Tree___len__
theorem fo_Tree___len__ {P : Program} {w : World} {K : PySem.W.Frag} {mg : Str → Option Value} {base : Heap} (D : Facts K mg) {fd : FuncData} (F : FunD K "__len__" "Tree.__len__" (defArgs s_Tree___len__) (defBody s_Tree___len__) (defScope s_Tree___len__) [] [] (He.ma K (He.ga K "Tree") "__len__") fd) : FnOk P w K mg base CX0 1 (He.ma K (He.ga K "Tree") "__len__") fd ["self"] (spM K T m_Tree___len__) := fn_v0 F sc_Tree___len__ fun cdv A outer s H E E' hr =>
    (vb_one (vs_ret (ve_callB cr_len on_len rfl (D.n3) (by decide +kernel) (va_cons (ve_attr (i := 0) D.tab (ve_var (i := 0) rfl (Or.inl rfl)) (by decide +kernel)) va_nil))))
theorem ok_Tree___len__ {P : Program} {w : World} {K : PySem.W.Frag} {mg : Str → Option Value} {base : Heap} (D : Facts K mg) : Fn P w K mg base T CX0 1 (He.ma K (He.ga K "Tree") "__len__") m_Tree___len__ := by
  obtain ⟨fd, F⟩ := D.d_Tree___len__
  exact Fn.plain (fo_Tree___len__ D F) (F.bindsN fun _ _ _ _ _ _ us hl => match us, hl with | [_], _ => rfl) F.kp
/-! Tree.form -/
theorem sc_Tree_form : FnScope ["self", "forms", "block", "slot"] ["self"] (defScope s_Tree_form) := ⟨rfl, rfl, rfl, by decide +kernel, rfl, by decide +kernel, by decide +kernel⟩
def t_Tree_form : TSv :=
  (bCons (sSet 1 (eLc (iAny (eAttr 1 (eVar 0))) (gNm 3) tYesV (eLstM aNil) [3]))
    (bCons (sFor (iRange3 (aCons (eLenO 0 m_Tree___len__ (eVar 0)) (aCons (eC (.int 0)) (aCons (eOp1 negF (eC (.int 1))) aNil)))) (gNm 2) (sExpr (eMut false cAppend (eIx (eVar 1) (eIx (eAttr 2 (eVar 0)) (eVar 2))) (aCons (eTup (aCons (eIx (eAttr 1 (eVar 0)) (eVar 2)) (aCons (eCB (g1 tupleF) (aCons (eCB (g1 sortedFmF) (aCons (eIx (eVar 1) (eVar 2)) aNil)) aNil)) aNil))) aNil))))
    (sRet (eCB (g1 tupleF) (aCons (eCB (g1 sortedFmF) (aCons (eIx (eVar 1) (eC (.int 0))) aNil)) aNil)))))
def m_Tree_form : FnM := fnM 1 4 t_Tree_form
theorem fo_Tree_form {P : Program} {w : World} {K : PySem.W.Frag} {mg : Str → Option Value} {base : Heap} (D : Facts K mg) {fd : FuncData} (F : FunD K "form" "Tree.form" (defArgs s_Tree_form) (defBody s_Tree_form) (defScope s_Tree_form) [] [] (He.ma K (He.ga K "Tree") "form") fd) : FnOk P w K mg base CX0 3 (He.ma K (He.ga K "Tree") "form") fd ["self"] (spM K T m_Tree_form) := fn_v0 F sc_Tree_form fun cdv A outer s H E E' hr =>
    (vb_cons (vs_setLc (own := [("slot", 3)]) (i := 1) rfl sc_Tree_form.nd rfl rfl (sw_true rfl rfl rfl (by decide +kernel)) (vi_any (ve_attr (i := 1) D.tab (ve_var (i := 0) rfl (Or.inl rfl)) (by decide +kernel))) (blkOk_by (by kernel_rfl)) (by decide) (fun _ _ _ _ _ => (vgw_name (i := 3) sc_Tree_form.nd rfl (Or.inl rfl))) (fun _ _ _ _ _ => vts_nil) (fun _ _ _ _ _ => (ve_lstM va_nil)))
    (vb_cons (vs_for PassesOwn.never rfl (vi_range3 rfl (D.n1) (va_cons (ve_lenO (c := 0) (D.me2) (ok_Tree___len__ D) (hr.mono (by first | decide | omega)) passV rfl (D.n3) (ve_var (i := 0) rfl (Or.inl rfl))) (va_cons ve_int (va_cons (ve_un un_neg o1_neg ve_int) va_nil)))) (vg_name (i := 2) sc_Tree_form.nd rfl (Or.inl rfl)) (vb_one (vs_expr (ve_append (ve_ix (ve_var (i := 1) rfl (Or.inl rfl)) (ve_ix (ve_attr (i := 2) D.tab (ve_var (i := 0) rfl (Or.inl rfl)) (by decide +kernel)) (ve_var (i := 2) rfl (Or.inl rfl)))) (ve_tup (va_cons (ve_ix (ve_attr (i := 1) D.tab (ve_var (i := 0) rfl (Or.inl rfl)) (by decide +kernel)) (ve_var (i := 2) rfl (Or.inl rfl))) (va_cons (ve_callTy call_tuple_of on_tuple rfl (D.n7) (by decide +kernel) (va_cons (ve_callB (cr_sortedFm (hu199 hr)) on_sortedFm rfl (D.n8) (by decide +kernel) (va_cons (ve_ix (ve_var (i := 1) rfl (Or.inl rfl)) (ve_var (i := 2) rfl (Or.inl rfl))) va_nil)) va_nil)) va_nil)))))))
    (vb_one (vs_ret (ve_callTy call_tuple_of on_tuple rfl (D.n7) (by decide +kernel) (va_cons (ve_callB (cr_sortedFm (hu199 hr)) on_sortedFm rfl (D.n8) (by decide +kernel) (va_cons (ve_ix (ve_var (i := 1) rfl (Or.inl rfl)) ve_int) va_nil)) va_nil))))))
theorem ok_Tree_form {P : Program} {w : World} {K : PySem.W.Frag} {mg : Str → Option Value} {base : Heap} (D : Facts K mg) : Fn P w K mg base T CX0 3 (He.ma K (He.ga K "Tree") "form") m_Tree_form := by
  obtain ⟨fd, F⟩ := D.d_Tree_form
  exact Fn.plain (fo_Tree_form D F) (F.bindsN fun _ _ _ _ _ _ us hl => match us, hl with | [_], _ => rfl) F.kp
/-! alike -/
theorem sc_alike : FnScope ["one", "other"] ["one", "other"] (defScope s_alike) := ⟨rfl, rfl, rfl, by decide +kernel, rfl, by decide +kernel, by decide +kernel⟩
def t_alike : TSv :=
  (sRet (eOp2 eqF (eMeth 0 m_Tree_form (eVar 0) aNil) (eMeth 0 m_Tree_form (eVar 1) aNil)))
def m_alike : FnM := fnM 2 2 t_alike
theorem fo_alike {P : Program} {w : World} {K : PySem.W.Frag} {mg : Str → Option Value} {base : Heap} (D : Facts K mg) {fd : FuncData} (F : FunD K "alike" "alike" (defArgs s_alike) (defBody s_alike) (defScope s_alike) [] [] (He.ga K "alike") fd) : FnOk P w K mg base CX0 4 (He.ga K "alike") fd ["one", "other"] (spM K T m_alike) := fn_v0 F sc_alike fun cdv A outer s H E E' hr =>
    (vb_one (vs_ret (ve_cmp (or_eq (hu64 hr)) o2_eq (ve_meth0 (c := 0) D.tab rfl (by decide +kernel) (ve_var (i := 0) rfl (Or.inl rfl)) (D.me3) (ok_Tree_form D) (hr.mono (by first | decide | omega)) passV) (ve_meth0 (c := 0) D.tab rfl (by decide +kernel) (ve_var (i := 1) rfl (Or.inl rfl)) (D.me3) (ok_Tree_form D) (hr.mono (by first | decide | omega)) passV) (nomark _))))
theorem ok_alike {P : Program} {w : World} {K : PySem.W.Frag} {mg : Str → Option Value} {base : Heap} (D : Facts K mg) : Fn P w K mg base T CX0 4 (He.ga K "alike") m_alike := by
  obtain ⟨fd, F⟩ := D.d_alike
  exact Fn.plain (fo_alike D F) (F.bindsN fun _ _ _ _ _ _ us hl => match us, hl with | [_, _], _ => rfl) F.kp
/-! Tree.__eq__ -/
theorem sc_Tree___eq__ : FnScope ["self", "other"] ["self", "other"] (defScope s_Tree___eq__) := ⟨rfl, rfl, rfl, by decide +kernel, rfl, by decide +kernel, by decide +kernel⟩
def t_Tree___eq__ : TSv :=
  (sRet (eAnd (eIsi [(.own 0)] (eVar 1)) (eOp2 eqF (eAttr 0 (eVar 0)) (eAttr 0 (eVar 1)))))
def m_Tree___eq__ : FnM := fnM 2 2 t_Tree___eq__
theorem fo_Tree___eq__ {P : Program} {w : World} {K : PySem.W.Frag} {mg : Str → Option Value} {base : Heap} (D : Facts K mg) {fd : FuncData} (F : FunD K "__eq__" "Tree.__eq__" (defArgs s_Tree___eq__) (defBody s_Tree___eq__) (defScope s_Tree___eq__) [] [] (He.ma K (He.ga K "Tree") "__eq__") fd) : FnOk P w K mg base CX0 1 (He.ma K (He.ga K "Tree") "__eq__") fd ["self", "other"] (spM K T m_Tree___eq__) := fn_v0 F sc_Tree___eq__ fun cdv A outer s H E E' hr =>
    (vb_one (vs_ret (ve_and (ve_isi D.tab D.isi rfl (D.n9) (ve_var (i := 1) rfl (Or.inl rfl)) (tg_own (c := 0) rfl rfl (D.g11))) (ve_one (ve_cmp (or_eq (hu64 hr)) o2_eq (ve_attr (i := 0) D.tab (ve_var (i := 0) rfl (Or.inl rfl)) (by decide +kernel)) (ve_attr (i := 0) D.tab (ve_var (i := 1) rfl (Or.inl rfl)) (by decide +kernel)) (nomark _))))))
theorem ok_Tree___eq__ {P : Program} {w : World} {K : PySem.W.Frag} {mg : Str → Option Value} {base : Heap} (D : Facts K mg) : Fn P w K mg base T CX0 1 (He.ma K (He.ga K "Tree") "__eq__") m_Tree___eq__ := by
  obtain ⟨fd, F⟩ := D.d_Tree___eq__
  exact Fn.plain (fo_Tree___eq__ D F) (F.bindsN fun _ _ _ _ _ _ us hl => match us, hl with | [_, _], _ => rfl) F.kp
/-! law -/
theorem sc_law : FnScope ["_law_script", "_law_stream", "_law_turn", "_law_blocks", "_law_other", "_law_bent", "_law_one", "_law_due", "_law_again", "_law_chain", "_law_slot", "_law_found", "_law_parent", "_law_k"] ["_law_script"] (defScope s_law) := ⟨rfl, rfl, rfl, by decide +kernel, rfl, by decide +kernel, by decide +kernel⟩
def t_law : TSv :=
  (bCons (sSet 1 (eCall m__law_start (aCons (eVar 0) aNil)))
    (bCons (sFor (iRange1 (aCons (eC (.int 6)) aNil)) (gNm 2) (bCons (sSet 3 (eCall m__law_t_drawn (aCons (eVar 1) (aCons (eC (.int 12)) aNil))))
    (bCons (sIf (tVal (eOp2 eqF (eCall m__law_draw (aCons (eVar 1) (aCons (eC (.int 2)) aNil))) (eC (.int 0)))) (sSet 3 (eFrz (eLc (iAny (eVar 3)) (gTp (gsCons (gNm 10) (gsCons (gNm 12) gsNil))) tYesV (eTup (aCons (eOp2 addF (eC (.int 1)) (eIx (eCall m__law_t_depths (aCons (eVar 3) aNil)) (eVar 12))) (aCons (eVar 12) aNil))) [10, 12]))) bNil)
    (bCons (sPar2 4 5 (aCons (eCall m__law_renumbered (aCons (eVar 1) (aCons (eVar 3) aNil))) (aCons (eCall m__law_changed (aCons (eVar 1) (aCons (eVar 3) aNil))) aNil)))
    (bCons (sPar2 6 7 (aCons (eCall (mkF 0 m_Tree___init__) (aCons (eVar 3) aNil)) (aCons (eCall (m__law_form 16) (aCons (eVar 3) (aCons (eC (.int 0)) aNil))) aNil)))
    (bCons (sFor (iRange1 (aCons (eC (.int 2)) aNil)) (gNm 8) (sIf (tNotV (tVal (eCall (m__law_same 130) (aCons (eLst (aCons (eMeth 0 m_Tree_form (eVar 6) aNil) (aCons (eMeth 0 m_Tree_form (eCall (mkF 0 m_Tree___init__) (aCons (eVar 4) aNil)) aNil) aNil))) (aCons (eLst (aCons (eVar 7) (aCons (eVar 7) aNil))) aNil))))) (sRet (eC (.bl false))) bNil))
    (bCons (sIf (tNotV (tVal (eCall (m__law_same 130) (aCons (eLst (aCons (eCall m_alike (aCons (eVar 6) (aCons (eCall (mkF 0 m_Tree___init__) (aCons (eVar 4) aNil)) aNil))) (aCons (eCall m_alike (aCons (eCall (mkF 0 m_Tree___init__) (aCons (eVar 4) aNil)) (aCons (eVar 6) aNil))) (aCons (eCall m_alike (aCons (eVar 6) (aCons (eVar 6) aNil))) aNil)))) (aCons (eOp2 mulF (eLst (aCons (eC (.bl true)) aNil)) (eC (.int 3))) aNil))))) (sRet (eC (.bl false))) bNil)
    (bCons (sIf (tNotV (tVal (eCall (m__law_same 130) (aCons (eCall m_alike (aCons (eVar 6) (aCons (eCall (mkF 0 m_Tree___init__) (aCons (eVar 5) aNil)) aNil))) (aCons (eOp2 eqF (eCall (m__law_form 16) (aCons (eVar 5) (aCons (eC (.int 0)) aNil))) (eVar 7)) aNil))))) (sRet (eC (.bl false))) bNil)
    (sIf (tOrV (tVal (eOp2 neF (eOwn2 0 anyTy m_Tree___eq__ (eVar 6) (eCall (mkF 0 m_Tree___init__) (aCons (eVar 4) aNil))) (eOp2 eqF (eVar 3) (eVar 4)))) (tVal (eOp2 neF (eOwn2 0 anyTy m_Tree___eq__ (eVar 6) (eCall (mkF 0 m_Tree___init__) (aCons (eVar 5) aNil))) (eOp2 eqF (eVar 3) (eVar 5))))) (sRet (eC (.bl false))) bNil)))))))))
    (bCons (sSet 9 (eTup aNil))
    (bCons (sFor (iRange3 (aCons (eC (.int 60)) (aCons (eC (.int 0)) (aCons (eOp1 negF (eC (.int 1))) aNil)))) (gNm 10) (sSet 9 (eTup (aCons (eTup (aCons (eVar 10) (aCons (eVar 9) aNil))) aNil))))
    (bCons (sSet 11 (eLst (aCons (eMeth 0 m_Tree_form (eCall (mkF 0 m_Tree___init__) (aCons (eFrz (eLc (iRange2 (aCons (eC (.int 1)) (aCons (eC (.int 61)) aNil))) (gNm 13) tYesV (eTup (aCons (eVar 13) (aCons (eOp2 subF (eVar 13) (eC (.int 1))) aNil))) [13])) aNil)) aNil) (aCons (eMeth 0 m_Tree_form (eCall (mkF 0 m_Tree___init__) (aCons (eFrz (eLc (iRange1 (aCons (eC (.int 300)) aNil)) (gNm 13) tYesV (eTup (aCons (eOp2 subF (eC (.int 301)) (eVar 13)) (aCons (eC (.int 0)) aNil))) [13])) aNil)) aNil) aNil))))
    (bCons (sIf (tNotV (tVal (eCall (m__law_same 130) (aCons (eVar 11) (aCons (eLst (aCons (eVar 9) (aCons (eCB (g1 tupleF) (aCons (eFrz (eLc (iRange2 (aCons (eC (.int 2)) (aCons (eC (.int 302)) aNil))) (gNm 13) tYesV (eTup (aCons (eVar 13) (aCons (eTup aNil) aNil))) [13])) aNil)) aNil))) aNil))))) (sRet (eC (.bl false))) bNil)
    (sRet (eAnd (eCall (m__law_same 130) (aCons (eMeth 0 m_Tree_form (eCall (mkF 0 m_Tree___init___d1) aNil) aNil) (aCons (eTup aNil) aNil))) (eCall m_alike (aCons (eCall (mkF 0 m_Tree___init___d1) aNil) (aCons (eCall (mkF 0 m_Tree___init___d1) aNil) aNil)))))))))))
def m_law : FnM := fnM 1 14 t_law
theorem fo_law {P : Program} {w : World} {K : PySem.W.Frag} {mg : Str → Option Value} {base : Heap} (D : Facts K mg) {fd : FuncData} (F : FunD K "law" "law" (defArgs s_law) (defBody s_law) (defScope s_law) [] [] (He.ga K "law") fd) : FnOk P w K mg base CX0 132 (He.ga K "law") fd ["_law_script"] (spM K T m_law) := fn_v0 F sc_law fun cdv A outer s H E E' hr =>
    (vb_cons (vs_set (i := 1) sc_law.nd rfl (Or.inl rfl) (ve_call (ok__law_start D) (hr.mono (by first | decide | omega)) rfl (D.g0) passV (va_cons (ve_var (i := 0) rfl (Or.inl rfl)) va_nil)))
    (vb_cons (vs_for PassesOwn.never rfl (vi_range1 rfl (D.n1) (va_cons ve_int va_nil)) (vg_name (i := 2) sc_law.nd rfl (Or.inl rfl)) (vb_cons (vs_set (i := 3) sc_law.nd rfl (Or.inr rfl) (ve_call (ok__law_t_drawn D) (hr.mono (by first | decide | omega)) rfl (D.g1) passV (va_cons (ve_var (i := 1) rfl (Or.inl rfl)) (va_cons ve_int va_nil))))
    (vb_cons (vs_if (vt_cmp (or_eq (hu64 hr)) o2_eq (ve_call (ok__law_draw D) (hr.mono (by first | decide | omega)) rfl (D.g2) passV (va_cons (ve_var (i := 1) rfl (Or.inl rfl)) (va_cons ve_int va_nil))) ve_int (nomark _)) (vb_one (vs_set (i := 3) sc_law.nd rfl (Or.inr rfl) (ve_frz (ve_lc (own := [("_law_slot", 10), ("_law_parent", 12)]) rfl sc_law.nd (vi_any (ve_var (i := 3) rfl (Or.inr (Or.inl rfl)))) (blkOk_by (by kernel_rfl)) (by decide) (fun _ _ _ _ _ => (vgw_tup rfl (vgsw_cons (vgw_name (i := 10) sc_law.nd rfl (Or.inl rfl)) (vgsw_cons (vgw_name (i := 12) sc_law.nd rfl (Or.inl rfl)) vgsw_nil)) (gsCons_len (gsCons_len (fun _ _ _ h => gsNil_len h))))) (fun _ _ _ _ _ => vts_nil) (fun _ _ _ _ _ => (ve_tup (va_cons (ve_op or_add o2_add ve_int (ve_ix (ve_call (ok__law_t_depths D) (hr.mono (by first | decide | omega)) rfl (D.g5) passV (va_cons (ve_var (i := 3) rfl (Or.inr (Or.inl rfl))) va_nil)) (ve_var (i := 12) rfl (Or.inl rfl)))) (va_cons (ve_var (i := 12) rfl (Or.inl rfl)) va_nil)))))))) vb_nil)
    (vb_cons (vs_par2 (i := 4) (j := 5) rfl sc_law.nd rfl rfl (by decide) rfl rfl (va_cons (ve_call (ok__law_renumbered D) (hr.mono (by first | decide | omega)) rfl (D.g7) passV (va_cons (ve_var (i := 1) rfl (Or.inl rfl)) (va_cons (ve_var (i := 3) rfl (Or.inr (Or.inl rfl))) va_nil))) (va_cons (ve_call (ok__law_changed D) (hr.mono (by first | decide | omega)) rfl (D.g6) passV (va_cons (ve_var (i := 1) rfl (Or.inl rfl)) (va_cons (ve_var (i := 3) rfl (Or.inr (Or.inl rfl))) va_nil))) va_nil)) (by kernel_rfl))
    (vb_cons (vs_par2 (i := 6) (j := 7) rfl sc_law.nd rfl rfl (by decide) rfl rfl (va_cons (ve_mkF (c := 0) rfl (D.mk0) (ok_Tree___init__ D) (hr.mono (by first | decide | omega)) rfl (D.g11) passV (va_cons (ve_var (i := 3) rfl (Or.inr (Or.inl rfl))) va_nil)) (va_cons (ve_call (ok__law_form D 16) (hr.mono (by first | decide | omega)) rfl (D.g8) passV (va_cons (ve_var (i := 3) rfl (Or.inr (Or.inl rfl))) (va_cons ve_int va_nil))) va_nil)) (by kernel_rfl))
    (vb_cons (vs_for PassesOwn.never rfl (vi_range1 rfl (D.n1) (va_cons ve_int va_nil)) (vg_name (i := 8) sc_law.nd rfl (Or.inl rfl)) (vb_one (vs_if (vt_not (vt_val (ve_call (ok__law_same D 130) (hr.mono (by first | decide | omega)) rfl (D.g12) passV (va_cons (ve_lst (va_cons (ve_meth0 (c := 0) D.tab rfl (by decide +kernel) (ve_var (i := 6) rfl (Or.inl rfl)) (D.me3) (ok_Tree_form D) (hr.mono (by first | decide | omega)) passV) (va_cons (ve_meth0 (c := 0) D.tab rfl (by decide +kernel) (ve_mkF (c := 0) rfl (D.mk0) (ok_Tree___init__ D) (hr.mono (by first | decide | omega)) rfl (D.g11) passV (va_cons (ve_var (i := 4) rfl (Or.inl rfl)) va_nil)) (D.me3) (ok_Tree_form D) (hr.mono (by first | decide | omega)) passV) va_nil))) (va_cons (ve_lst (va_cons (ve_var (i := 7) rfl (Or.inl rfl)) (va_cons (ve_var (i := 7) rfl (Or.inl rfl)) va_nil))) va_nil))))) (vb_one (vs_ret ve_bl)) vb_nil)))
    (vb_cons (vs_if (vt_not (vt_val (ve_call (ok__law_same D 130) (hr.mono (by first | decide | omega)) rfl (D.g12) passV (va_cons (ve_lst (va_cons (ve_call (ok_alike D) (hr.mono (by first | decide | omega)) rfl (D.g13) passV (va_cons (ve_var (i := 6) rfl (Or.inl rfl)) (va_cons (ve_mkF (c := 0) rfl (D.mk0) (ok_Tree___init__ D) (hr.mono (by first | decide | omega)) rfl (D.g11) passV (va_cons (ve_var (i := 4) rfl (Or.inl rfl)) va_nil)) va_nil))) (va_cons (ve_call (ok_alike D) (hr.mono (by first | decide | omega)) rfl (D.g13) passV (va_cons (ve_mkF (c := 0) rfl (D.mk0) (ok_Tree___init__ D) (hr.mono (by first | decide | omega)) rfl (D.g11) passV (va_cons (ve_var (i := 4) rfl (Or.inl rfl)) va_nil)) (va_cons (ve_var (i := 6) rfl (Or.inl rfl)) va_nil))) (va_cons (ve_call (ok_alike D) (hr.mono (by first | decide | omega)) rfl (D.g13) passV (va_cons (ve_var (i := 6) rfl (Or.inl rfl)) (va_cons (ve_var (i := 6) rfl (Or.inl rfl)) va_nil))) va_nil)))) (va_cons (ve_op or_mul o2_mul (ve_lst (va_cons ve_bl va_nil)) ve_int) va_nil))))) (vb_one (vs_ret ve_bl)) vb_nil)
    (vb_cons (vs_if (vt_not (vt_val (ve_call (ok__law_same D 130) (hr.mono (by first | decide | omega)) rfl (D.g12) passV (va_cons (ve_call (ok_alike D) (hr.mono (by first | decide | omega)) rfl (D.g13) passV (va_cons (ve_var (i := 6) rfl (Or.inl rfl)) (va_cons (ve_mkF (c := 0) rfl (D.mk0) (ok_Tree___init__ D) (hr.mono (by first | decide | omega)) rfl (D.g11) passV (va_cons (ve_var (i := 5) rfl (Or.inl rfl)) va_nil)) va_nil))) (va_cons (ve_cmp (or_eq (hu64 hr)) o2_eq (ve_call (ok__law_form D 16) (hr.mono (by first | decide | omega)) rfl (D.g8) passV (va_cons (ve_var (i := 5) rfl (Or.inl rfl)) (va_cons ve_int va_nil))) (ve_var (i := 7) rfl (Or.inl rfl)) (nomark _)) va_nil))))) (vb_one (vs_ret ve_bl)) vb_nil)
    (vb_one (vs_if (VW.vt (vw_or (vt_cmp (or_ne (hu64 hr)) o2_ne (ve_ownEq (c := 0) D.tab D.isi rfl (D.me4) (ok_Tree___eq__ D) (hr.mono (by first | decide | omega)) passV (ve_var (i := 6) rfl (Or.inl rfl)) (ve_mkF (c := 0) rfl (D.mk0) (ok_Tree___init__ D) (hr.mono (by first | decide | omega)) rfl (D.g11) passV (va_cons (ve_var (i := 4) rfl (Or.inl rfl)) va_nil))) (ve_cmp (or_eq (hu64 hr)) o2_eq (ve_var (i := 3) rfl (Or.inr (Or.inl rfl))) (ve_var (i := 4) rfl (Or.inl rfl)) (nomark _)) (nomark _)) (vw_or1 (vt_cmp (or_ne (hu64 hr)) o2_ne (ve_ownEq (c := 0) D.tab D.isi rfl (D.me4) (ok_Tree___eq__ D) (hr.mono (by first | decide | omega)) passV (ve_var (i := 6) rfl (Or.inl rfl)) (ve_mkF (c := 0) rfl (D.mk0) (ok_Tree___init__ D) (hr.mono (by first | decide | omega)) rfl (D.g11) passV (va_cons (ve_var (i := 5) rfl (Or.inl rfl)) va_nil))) (ve_cmp (or_eq (hu64 hr)) o2_eq (ve_var (i := 3) rfl (Or.inr (Or.inl rfl))) (ve_var (i := 5) rfl (Or.inl rfl)) (nomark _)) (nomark _))))) (vb_one (vs_ret ve_bl)) vb_nil))))))))))
    (vb_cons (vs_set (i := 9) sc_law.nd rfl (Or.inl rfl) (ve_tup va_nil))
    (vb_cons (vs_for PassesOwn.never rfl (vi_range3 rfl (D.n1) (va_cons ve_int (va_cons ve_int (va_cons (ve_un un_neg o1_neg ve_int) va_nil)))) (vg_name (i := 10) sc_law.nd rfl (Or.inl rfl)) (vb_one (vs_set (i := 9) sc_law.nd rfl (Or.inl rfl) (ve_tup (va_cons (ve_tup (va_cons (ve_var (i := 10) rfl (Or.inl rfl)) (va_cons (ve_var (i := 9) rfl (Or.inl rfl)) va_nil))) va_nil)))))
    (vb_cons (vs_set (i := 11) sc_law.nd rfl (Or.inl rfl) (ve_lst (va_cons (ve_meth0 (c := 0) D.tab rfl (by decide +kernel) (ve_mkF (c := 0) rfl (D.mk0) (ok_Tree___init__ D) (hr.mono (by first | decide | omega)) rfl (D.g11) passV (va_cons (ve_frz (ve_lc (own := [("_law_k", 13)]) rfl sc_law.nd (vi_range2 rfl (D.n1) (va_cons ve_int (va_cons ve_int va_nil))) (blkOk_by (by kernel_rfl)) (by decide) (fun _ _ _ _ _ => (vgw_name (i := 13) sc_law.nd rfl (Or.inl rfl))) (fun _ _ _ _ _ => vts_nil) (fun _ _ _ _ _ => (ve_tup (va_cons (ve_var (i := 13) rfl (Or.inl rfl)) (va_cons (ve_op op_sub o2_sub (ve_var (i := 13) rfl (Or.inl rfl)) ve_int) va_nil)))))) va_nil)) (D.me3) (ok_Tree_form D) (hr.mono (by first | decide | omega)) passV) (va_cons (ve_meth0 (c := 0) D.tab rfl (by decide +kernel) (ve_mkF (c := 0) rfl (D.mk0) (ok_Tree___init__ D) (hr.mono (by first | decide | omega)) rfl (D.g11) passV (va_cons (ve_frz (ve_lc (own := [("_law_k", 13)]) rfl sc_law.nd (vi_range1 rfl (D.n1) (va_cons ve_int va_nil)) (blkOk_by (by kernel_rfl)) (by decide) (fun _ _ _ _ _ => (vgw_name (i := 13) sc_law.nd rfl (Or.inl rfl))) (fun _ _ _ _ _ => vts_nil) (fun _ _ _ _ _ => (ve_tup (va_cons (ve_op op_sub o2_sub ve_int (ve_var (i := 13) rfl (Or.inl rfl))) (va_cons ve_int va_nil)))))) va_nil)) (D.me3) (ok_Tree_form D) (hr.mono (by first | decide | omega)) passV) va_nil))))
    (vb_cons (vs_if (vt_not (vt_val (ve_call (ok__law_same D 130) (hr.mono (by first | decide | omega)) rfl (D.g12) passV (va_cons (ve_var (i := 11) rfl (Or.inl rfl)) (va_cons (ve_lst (va_cons (ve_var (i := 9) rfl (Or.inl rfl)) (va_cons (ve_callTy call_tuple_of on_tuple rfl (D.n7) (by decide +kernel) (va_cons (ve_frz (ve_lc (own := [("_law_k", 13)]) rfl sc_law.nd (vi_range2 rfl (D.n1) (va_cons ve_int (va_cons ve_int va_nil))) (blkOk_by (by kernel_rfl)) (by decide) (fun _ _ _ _ _ => (vgw_name (i := 13) sc_law.nd rfl (Or.inl rfl))) (fun _ _ _ _ _ => vts_nil) (fun _ _ _ _ _ => (ve_tup (va_cons (ve_var (i := 13) rfl (Or.inl rfl)) (va_cons (ve_tup va_nil) va_nil)))))) va_nil)) va_nil))) va_nil))))) (vb_one (vs_ret ve_bl)) vb_nil)
    (vb_one (vs_ret (ve_and (ve_call (ok__law_same D 130) (hr.mono (by first | decide | omega)) rfl (D.g12) passV (va_cons (ve_meth0 (c := 0) D.tab rfl (by decide +kernel) (ve_mkF0 (c := 0) rfl (D.mk0) (ok_Tree___init___d1 D) (hr.mono (by first | decide | omega)) rfl (D.g11) passV) (D.me3) (ok_Tree_form D) (hr.mono (by first | decide | omega)) passV) (va_cons (ve_tup va_nil) va_nil))) (ve_one (ve_call (ok_alike D) (hr.mono (by first | decide | omega)) rfl (D.g13) passV (va_cons (ve_mkF0 (c := 0) rfl (D.mk0) (ok_Tree___init___d1 D) (hr.mono (by first | decide | omega)) rfl (D.g11) passV) (va_cons (ve_mkF0 (c := 0) rfl (D.mk0) (ok_Tree___init___d1 D) (hr.mono (by first | decide | omega)) rfl (D.g11) passV) va_nil)))))))))))))
end LB

set_option Elab.async false
set_option linter.all false
set_option maxRecDepth 100000
set_option maxHeartbeats 4000000
set_option autoImplicit false
namespace LBE
open LB
open PySem PySem.Spec PyProof.Rows L2 VS
def exL (K : PySem.W.Frag) : List Bool := [tabB K T, isiB K T, tup0B K (He.dflAt ("Tree", some "__init__") 0 K)]
def exB (K : PySem.W.Frag) : Bool := (exL K).all id
theorem exB_at {K : PySem.W.Frag} (h : exB K = true) (i : Nat) {b : Bool} (e : (exL K)[i]? = some b) : b = true := List.all_eq_true.mp h b (List.mem_of_getElem? e)
def fa0 : List He.Fa := [.glo "_law_start", .glo "_law_t_drawn", .glo "_law_draw", .glo "_law_pick", .glo "_law_t_slot", .glo "_law_t_depths", .glo "_law_changed", .glo "_law_renumbered", .glo "_law_form", .glo "is_list", .glo "is_integer", .glo "Tree", .glo "_law_same", .glo "alike", .free "list", .free "range", .free "int", .free "len", .free "max", .free "min", .free "enumerate", .free "tuple", .free "sorted", .free "isinstance", .free "bool", .free "all", .free "zip", .meth "Tree" "__contains__", .meth "Tree" "can_stand", .meth "Tree" "__len__"]
def fa1 : List He.Fa := [.meth "Tree" "form", .meth "Tree" "__eq__", .mkr "Tree", .glo "law"]
def fa : List He.Fa := fa0 ++ fa1
def dd__law_start : He.DefD := ⟨("_law_start", none), "_law_start", "_law_start", defArgs s__law_start, defBody s__law_start, defScope s__law_start, [], []⟩
def dd__law_draw : He.DefD := ⟨("_law_draw", none), "_law_draw", "_law_draw", defArgs s__law_draw, defBody s__law_draw, defScope s__law_draw, [], []⟩
def dd__law_pick : He.DefD := ⟨("_law_pick", none), "_law_pick", "_law_pick", defArgs s__law_pick, defBody s__law_pick, defScope s__law_pick, [], []⟩
def dd__law_t_slot : He.DefD := ⟨("_law_t_slot", none), "_law_t_slot", "_law_t_slot", defArgs s__law_t_slot, defBody s__law_t_slot, defScope s__law_t_slot, [], []⟩
def dd__law_t_drawn : He.DefD := ⟨("_law_t_drawn", none), "_law_t_drawn", "_law_t_drawn", defArgs s__law_t_drawn, defBody s__law_t_drawn, defScope s__law_t_drawn, [], []⟩
def dd__law_t_depths : He.DefD := ⟨("_law_t_depths", none), "_law_t_depths", "_law_t_depths", defArgs s__law_t_depths, defBody s__law_t_depths, defScope s__law_t_depths, [], []⟩
def dd__law_changed : He.DefD := ⟨("_law_changed", none), "_law_changed", "_law_changed", defArgs s__law_changed, defBody s__law_changed, defScope s__law_changed, [], []⟩
def dd__law_renumbered : He.DefD := ⟨("_law_renumbered", none), "_law_renumbered", "_law_renumbered", defArgs s__law_renumbered, defBody s__law_renumbered, defScope s__law_renumbered, [], []⟩
def dd__law_form : He.DefD := ⟨("_law_form", none), "_law_form", "_law_form", defArgs s__law_form, defBody s__law_form, defScope s__law_form, [], []⟩
def dd_is_list : He.DefD := ⟨("is_list", none), "is_list", "is_list", defArgs s_is_list, defBody s_is_list, defScope s_is_list, [], []⟩
def dd_is_integer : He.DefD := ⟨("is_integer", none), "is_integer", "is_integer", defArgs s_is_integer, defBody s_is_integer, defScope s_is_integer, [], []⟩
def dd_Tree___contains__ : He.DefD := ⟨("Tree", some "__contains__"), "__contains__", "Tree.__contains__", defArgs s_Tree___contains__, defBody s_Tree___contains__, defScope s_Tree___contains__, [], []⟩
def dd_Tree_can_stand : He.DefD := ⟨("Tree", some "can_stand"), "can_stand", "Tree.can_stand", defArgs s_Tree_can_stand, defBody s_Tree_can_stand, defScope s_Tree_can_stand, [], []⟩
def dd_Tree___init__ : He.DefD := ⟨("Tree", some "__init__"), "__init__", "Tree.__init__", defArgs s_Tree___init__, defBody s_Tree___init__, defScope s_Tree___init__, [(.adr (He.dflAt ("Tree", some "__init__") 0))], []⟩
def dd__law_same : He.DefD := ⟨("_law_same", none), "_law_same", "_law_same", defArgs s__law_same, defBody s__law_same, defScope s__law_same, [], []⟩
def dd_Tree___len__ : He.DefD := ⟨("Tree", some "__len__"), "__len__", "Tree.__len__", defArgs s_Tree___len__, defBody s_Tree___len__, defScope s_Tree___len__, [], []⟩
def dd_Tree_form : He.DefD := ⟨("Tree", some "form"), "form", "Tree.form", defArgs s_Tree_form, defBody s_Tree_form, defScope s_Tree_form, [], []⟩
def dd_alike : He.DefD := ⟨("alike", none), "alike", "alike", defArgs s_alike, defBody s_alike, defScope s_alike, [], []⟩
def dd_Tree___eq__ : He.DefD := ⟨("Tree", some "__eq__"), "__eq__", "Tree.__eq__", defArgs s_Tree___eq__, defBody s_Tree___eq__, defScope s_Tree___eq__, [], []⟩
def dd_law : He.DefD := ⟨("law", none), "law", "law", defArgs s_law, defBody s_law, defScope s_law, [], []⟩
def fn0 : List He.DefD := [dd__law_start, dd__law_draw, dd__law_pick, dd__law_t_slot, dd__law_t_drawn, dd__law_t_depths, dd__law_changed, dd__law_renumbered, dd__law_form, dd_is_list, dd_is_integer, dd_Tree___contains__, dd_Tree_can_stand, dd_Tree___init__, dd__law_same, dd_Tree___len__, dd_Tree_form, dd_alike, dd_Tree___eq__, dd_law]
def fn : List He.DefD := fn0
theorem facts {K : PySem.W.Frag} {h : Heap} {mg : Str → Option Value} (X : K.In h) (G : h.Ns mainGlobals mg) (c : SaysX exB fa fn K) : Facts K mg := by
  have x : ∀ (i : Nat) {b : Bool}, (exL K)[i]? = some b → b = true := fun i _ e => exB_at c.2 i e
  exact ⟨tabB_ok (by decide +kernel) (x 0 rfl),
    isiB_ok (x 1 rfl),
    x 2 rfl,
    He.glo_ok X G (c.1.fact 0 rfl),
    He.glo_ok X G (c.1.fact 1 rfl),
    He.glo_ok X G (c.1.fact 2 rfl),
    He.glo_ok X G (c.1.fact 3 rfl),
    He.glo_ok X G (c.1.fact 4 rfl),
    He.glo_ok X G (c.1.fact 5 rfl),
    He.glo_ok X G (c.1.fact 6 rfl),
    He.glo_ok X G (c.1.fact 7 rfl),
    He.glo_ok X G (c.1.fact 8 rfl),
    He.glo_ok X G (c.1.fact 9 rfl),
    He.glo_ok X G (c.1.fact 10 rfl),
    He.glo_ok X G (c.1.fact 11 rfl),
    He.glo_ok X G (c.1.fact 12 rfl),
    He.glo_ok X G (c.1.fact 13 rfl),
    He.free_ok X G (c.1.fact 14 rfl),
    He.free_ok X G (c.1.fact 15 rfl),
    He.free_ok X G (c.1.fact 16 rfl),
    He.free_ok X G (c.1.fact 17 rfl),
    He.free_ok X G (c.1.fact 18 rfl),
    He.free_ok X G (c.1.fact 19 rfl),
    He.free_ok X G (c.1.fact 20 rfl),
    He.free_ok X G (c.1.fact 21 rfl),
    He.free_ok X G (c.1.fact 22 rfl),
    He.free_ok X G (c.1.fact 23 rfl),
    He.free_ok X G (c.1.fact 24 rfl),
    He.free_ok X G (c.1.fact 25 rfl),
    He.free_ok X G (c.1.fact 26 rfl),
    He.meth_ok (c.1.fact 27 rfl),
    He.meth_ok (c.1.fact 28 rfl),
    He.meth_ok (c.1.fact 29 rfl),
    He.meth_ok (c.1.fact 30 rfl),
    He.meth_ok (c.1.fact 31 rfl),
    He.mkr_ok (c.1.fact 32 rfl),
    c.1.def_ 0 (d := dd__law_start) rfl,
    c.1.def_ 1 (d := dd__law_draw) rfl,
    c.1.def_ 2 (d := dd__law_pick) rfl,
    c.1.def_ 3 (d := dd__law_t_slot) rfl,
    c.1.def_ 4 (d := dd__law_t_drawn) rfl,
    c.1.def_ 5 (d := dd__law_t_depths) rfl,
    c.1.def_ 6 (d := dd__law_changed) rfl,
    c.1.def_ 7 (d := dd__law_renumbered) rfl,
    c.1.def_ 8 (d := dd__law_form) rfl,
    c.1.def_ 9 (d := dd_is_list) rfl,
    c.1.def_ 10 (d := dd_is_integer) rfl,
    c.1.def_ 11 (d := dd_Tree___contains__) rfl,
    c.1.def_ 12 (d := dd_Tree_can_stand) rfl,
    c.1.def_ 13 (d := dd_Tree___init__) rfl,
    c.1.def_ 14 (d := dd__law_same) rfl,
    c.1.def_ 15 (d := dd_Tree___len__) rfl,
    c.1.def_ 16 (d := dd_Tree_form) rfl,
    c.1.def_ 17 (d := dd_alike) rfl,
    c.1.def_ 18 (d := dd_Tree___eq__) rfl,
    c.1.def_ 19 (d := dd_law) rfl⟩
def lo0 : List Str := ["_wall", "__name__", "BoughError", "BadBlock", "is_integer", "is_list", "Tree", "alike", "_law_t_drawn", "_law_t_slot", "_law_t_depths", "_law_start", "_law_draw", "_law_pick", "_law_same", "_law_form", "_law_renumbered", "_law_changed"]
def loose : List Str := lo0
abbrev R : PySem.W.OpenRow := PySem.W.OpenLaw.row PySem.Challenge.rw_longbough_k42_forms_of_trees
def as0 : List PySem.Addr := [3, 6, 4, 21, 31, 53, 62, 69, 191, 202, 209, 216, 223, 230, 237, 244, 249, 256, 261, 266, 271, 0, 20, 30, 52, 61, 68, 190, 201, 208, 215, 222, 229, 236, 243, 248, 255, 260, 265, 270, 15, 17, 18, 19, 29, 32, 50, 51, 56, 58, 59, 60, 63, 65, 66, 67, 85, 92, 99, 106, 113, 120, 127, 134, 141, 148, 155, 162, 169, 176, 183, 188, 189, 192, 193, 196, 198, 199, 200, 203, 205, 206, 207, 210, 212, 213, 214, 217, 219, 220, 221, 224, 226, 227, 228, 231, 233, 234, 235, 238]
def as1 : List PySem.Addr := [240, 241, 242, 245, 247, 250, 252, 253, 254, 257, 259, 262, 264, 267, 269, 49, 38, 84, 78, 91, 98, 105, 112, 119, 126, 133, 140, 147, 154, 161, 168, 175, 182, 187, 44, 46, 47, 48, 79, 81, 82, 83, 77, 86, 88, 89, 90, 93, 95, 96, 97, 100, 102, 103, 104, 107, 109, 110, 111, 114, 116, 117, 118, 121, 123, 124, 125, 128, 130, 131, 132, 135, 137, 138, 139, 142, 144, 145, 146, 149, 151, 152, 153, 156, 158, 159, 160, 163, 165, 166, 167, 170, 172, 173, 174, 177, 179, 180, 181, 184]
def as2 : List PySem.Addr := [186, 2]
def asL : List PySem.Addr := as0 ++ as1 ++ as2
abbrev hk : PySem.W.Hook := hookXL asL exB fa fn
def ob (s : PySem.W.SharedT) : He.AlD × Bool := obsXL asL exB fa fn (HandSHeadRun.getT s)
theorem ob_eq (s : PySem.W.SharedT) : ob s = hk.obs s.abs := obsXL_eq (HandSHeadRun.getT_eq s)
theorem run (w : World) : HandSHeadRun.RunEq R (PySem.W.view R.prog [21]) hk ob 8000 loose w := by
  intro os
  kernel_rfl
theorem main (hm : ∀ ns : List Int, ns.length ≤ 63 → ∃ st, m_law [.f (.scr ns)] [] = .ok (.f (.bl true)) st) : PySem.Challenge.rw_longbough_k42_forms_of_trees.Holds := by
  w_on; o_law
  refine HandSHeadRun.head_any (r := PySem.W.OpenLaw.row PySem.Challenge.rw_longbough_k42_forms_of_trees) (q := PySem.W.view (PySem.W.OpenLaw.row PySem.Challenge.rw_longbough_k42_forms_of_trees).prog [21]) (H := hk) (ob := ob) (M := 8000) (loose := loose) (d := HandSHeadRun.topDef (PySem.W.OpenLaw.row PySem.Challenge.rw_longbough_k42_forms_of_trees).prog 21) (kwd := []) ob_eq
    (by kernel_rfl) (fun s => by kernel_rfl) run (by kernel_rfl) (by kernel_rfl) (by kernel_rfl) (by rfl) (by first | assumption | decide +kernel) (by decide +kernel) ⟨rfl, rfl, rfl, rfl, rfl, by decide +kernel⟩ ?hw ?hc
  case hw => w_witness2
  case hc =>
    refine L2.walk_ofE (l := PySem.Challenge.rw_longbough_k42_forms_of_trees) (n := 63) (k := 132) (x := "_law_script") (CX := L2.CX0) rfl (by decide) (by kernel_rfl) ⟨rfl, by decide, by decide⟩ ?F (fun _ _ _ _ z => z)
    intro w mg fl h Y G hmg0
    obtain ⟨K, KX, c⟩ := Y
    have hmg : mg ("law" : PySem.Str) = some (.ref fl) := by
      have e : (HandSHeadRun.topDef (PySem.W.OpenLaw.row PySem.Challenge.rw_longbough_k42_forms_of_trees).prog 21).name = ("law" : PySem.Str) := by kernel_rfl
      rw [← e]
      exact hmg0
    have D := facts KX G c
    have e := hmg.symm.trans (He.glo_ok KX G (c.1.fact 33 (f := .glo "law") rfl))
    cases e
    obtain ⟨fd, F⟩ := D.d_law
    have b := FunD.bindsA (ps := ["_law_script"]) F fun _ _ _ _ _ _ us hl => match us, hl with | [_], _ => rfl
    exact ⟨K, fd, spM K T m_law, KX, fun s v => b s [v] rfl, fun H a ns hl _ hS => sp_law hm hl hS, fun base _ _ => fo_law D F⟩
end LBE

set_option Elab.async false
set_option linter.all false
set_option maxRecDepth 100000
set_option maxHeartbeats 4000000
set_option autoImplicit false
/-! M0: equality of data; loops and comprehensions over plain data; calls and the store. -/
namespace VS
open PySem PySem.Spec PyProof.Rows L2
/-! ### == of data without bools -/
mutual
def okE : Nat → F → Bool
  | _, .non => true
  | _, .int _ => true
  | _, .str s => s.all (· < 0x110000)
  | n + 1, .lst xs => okEs n xs
  | n + 1, .tup xs => okEs n xs
  | _, _ => false
def okEs : Nat → List F → Bool
  | _, [] => true
  | n, x :: xs => okE n x && okEs n xs
end
mutual
theorem okE_toD : ∀ (n : Nat) (x : F), okE n x = true → ∃ d, toD x = some d ∧ d.canLay0 = true ∧ d.depth ≤ n
  | _, .non, _ => ⟨.none, rfl, by simp [PyData.canLay0], by simp [PyData.depth]⟩
  | _, .int i, _ => ⟨.int i, rfl, by simp [PyData.canLay0], by simp [PyData.depth]⟩
  | _, .str s, h => ⟨.str (S s), rfl, by
      have h : s.all (· < 0x110000) = true := by simpa [okE] using h
      simp only [PyData.canLay0, PyData.strOk, S]
      simpa using h, by simp [PyData.depth]⟩
  | n + 1, .lst xs, h => by
    obtain ⟨ds, e, c, dp⟩ := okEs_toD n xs (by simpa [okE] using h)
    exact ⟨.list ds, by simp [toD, e], by simpa [PyData.canLay0] using c, by simp only [PyData.depth]; omega⟩
  | n + 1, .tup xs, h => by
    obtain ⟨ds, e, c, dp⟩ := okEs_toD n xs (by simpa [okE] using h)
    exact ⟨.tuple ds, by simp [toD, e], by simpa [PyData.canLay0] using c, by simp only [PyData.depth]; omega⟩
  | 0, .lst xs, h => by simp [okE] at h
  | 0, .tup xs, h => by simp [okE] at h
  | 0, .bl _, h => by simp [okE] at h
  | 0, .dct _, h => by simp [okE] at h
  | 0, .dlk _ _, h => by simp [okE] at h
  | 0, .ktp _, h => by simp [okE] at h
  | 0, .obj _ _, h => by simp [okE] at h
  | 0, .scr _, h => by simp [okE] at h
  | _ + 1, .bl _, h => by simp [okE] at h
  | _ + 1, .dct _, h => by simp [okE] at h
  | _ + 1, .dlk _ _, h => by simp [okE] at h
  | _ + 1, .ktp _, h => by simp [okE] at h
  | _ + 1, .obj _ _, h => by simp [okE] at h
  | _ + 1, .scr _, h => by simp [okE] at h
theorem okEs_toD : ∀ (n : Nat) (xs : List F), okEs n xs = true → ∃ ds, toDs xs = some ds ∧ PyData.canLayAll0 ds = true ∧ PyData.depthAll ds ≤ n
  | _, [], _ => ⟨[], rfl, by simp [PyData.canLayAll0], by simp [PyData.depthAll]⟩
  | n, x :: xs, h => by
    have h : okE n x = true ∧ okEs n xs = true := by simpa [okEs] using h
    obtain ⟨d, e, c, dp⟩ := okE_toD n x h.1
    obtain ⟨ds, e', c', dp'⟩ := okEs_toD n xs h.2
    exact ⟨d :: ds, by simp [toDs, e, e'], by simp [PyData.canLayAll0, c, c'], by simp only [PyData.depthAll]; omega⟩
end
mutual
theorem eqv_iff : ∀ (n m : Nat) (x y : F) (a b : PyData), okE n x = true → okE m y = true → toD x = some a → toD y = some b → (PyData.eqv a b = true ↔ x = y)
  | n, m, .non, y, a, b, hx, hy, ha, hb => by
    cases ha
    cases y with
    | non => cases hb; simp [PyData.eqv]
    | int i => cases hb; simp [PyData.eqv]
    | str s => cases hb; simp [PyData.eqv]
    | lst ys => simp only [toD] at hb; obtain ⟨ds, e, rfl⟩ := opt_map_some hb; simp [PyData.eqv]
    | tup ys => simp only [toD] at hb; obtain ⟨ds, e, rfl⟩ := opt_map_some hb; simp [PyData.eqv]
    | _ => cases m <;> simp [okE] at hy
  | n, m, .int i, y, a, b, hx, hy, ha, hb => by
    cases ha
    cases y with
    | non => cases hb; simp [PyData.eqv]
    | int i => cases hb; simp [PyData.eqv]
    | str s => cases hb; simp [PyData.eqv]
    | lst ys => simp only [toD] at hb; obtain ⟨ds, e, rfl⟩ := opt_map_some hb; simp [PyData.eqv]
    | tup ys => simp only [toD] at hb; obtain ⟨ds, e, rfl⟩ := opt_map_some hb; simp [PyData.eqv]
    | _ => cases m <;> simp [okE] at hy
  | n, m, .str s, y, a, b, hx, hy, ha, hb => by
    cases ha
    cases y with
    | non => cases hb; simp [PyData.eqv]
    | int i => cases hb; simp [PyData.eqv]
    | str t => cases hb; simp [PyData.eqv, S]
    | lst ys => simp only [toD] at hb; obtain ⟨ds, e, rfl⟩ := opt_map_some hb; simp [PyData.eqv]
    | tup ys => simp only [toD] at hb; obtain ⟨ds, e, rfl⟩ := opt_map_some hb; simp [PyData.eqv]
    | _ => cases m <;> simp [okE] at hy
  | n + 1, m, .lst xs, y, a, b, hx, hy, ha, hb => by
    simp only [toD] at ha
    obtain ⟨ds, e, rfl⟩ := opt_map_some ha
    cases y with
    | non => cases hb; simp [PyData.eqv]
    | int i => cases hb; simp [PyData.eqv]
    | str t => cases hb; simp [PyData.eqv]
    | lst ys =>
      simp only [toD] at hb
      obtain ⟨es, e', rfl⟩ := opt_map_some hb
      cases m with
      | zero => simp [okE] at hy
      | succ m =>
        have := eqvs_iff n m xs ys ds es (by simpa [okE] using hx) (by simpa [okE] using hy) e e'
        simpa [PyData.eqv] using this
    | tup ys => simp only [toD] at hb; obtain ⟨ds, e, rfl⟩ := opt_map_some hb; simp [PyData.eqv]
    | _ => cases m <;> simp [okE] at hy
  | n + 1, m, .tup xs, y, a, b, hx, hy, ha, hb => by
    simp only [toD] at ha
    obtain ⟨ds, e, rfl⟩ := opt_map_some ha
    cases y with
    | non => cases hb; simp [PyData.eqv]
    | int i => cases hb; simp [PyData.eqv]
    | str t => cases hb; simp [PyData.eqv]
    | tup ys =>
      simp only [toD] at hb
      obtain ⟨es, e', rfl⟩ := opt_map_some hb
      cases m with
      | zero => simp [okE] at hy
      | succ m =>
        have := eqvs_iff n m xs ys ds es (by simpa [okE] using hx) (by simpa [okE] using hy) e e'
        simpa [PyData.eqv] using this
    | lst ys => simp only [toD] at hb; obtain ⟨ds, e, rfl⟩ := opt_map_some hb; simp [PyData.eqv]
    | _ => cases m <;> simp [okE] at hy
  | 0, m, .lst xs, y, a, b, hx, hy, ha, hb => by simp [okE] at hx
  | 0, m, .tup xs, y, a, b, hx, hy, ha, hb => by simp [okE] at hx
  | 0, _, .bl _, _, _, _, h, _, _, _ => by simp [okE] at h
  | 0, _, .dct _, _, _, _, h, _, _, _ => by simp [okE] at h
  | 0, _, .dlk _ _, _, _, _, h, _, _, _ => by simp [okE] at h
  | 0, _, .ktp _, _, _, _, h, _, _, _ => by simp [okE] at h
  | 0, _, .obj _ _, _, _, _, h, _, _, _ => by simp [okE] at h
  | 0, _, .scr _, _, _, _, h, _, _, _ => by simp [okE] at h
  | _ + 1, _, .bl _, _, _, _, h, _, _, _ => by simp [okE] at h
  | _ + 1, _, .dct _, _, _, _, h, _, _, _ => by simp [okE] at h
  | _ + 1, _, .dlk _ _, _, _, _, h, _, _, _ => by simp [okE] at h
  | _ + 1, _, .ktp _, _, _, _, h, _, _, _ => by simp [okE] at h
  | _ + 1, _, .obj _ _, _, _, _, h, _, _, _ => by simp [okE] at h
  | _ + 1, _, .scr _, _, _, _, h, _, _, _ => by simp [okE] at h
theorem eqvs_iff : ∀ (n m : Nat) (xs ys : List F) (as bs : List PyData), okEs n xs = true → okEs m ys = true → toDs xs = some as → toDs ys = some bs → (PyData.eqvAll as bs = true ↔ xs = ys)
  | n, m, [], [], as, bs, hx, hy, ha, hb => by cases ha; cases hb; simp [PyData.eqvAll]
  | n, m, [], y :: ys, as, bs, hx, hy, ha, hb => by
    cases ha
    obtain ⟨d, e1, e2⟩ := opt_bind_some hb
    obtain ⟨ds, e3, rfl⟩ := opt_map_some e2
    simp [PyData.eqvAll]
  | n, m, x :: xs, [], as, bs, hx, hy, ha, hb => by
    cases hb
    obtain ⟨d, e1, e2⟩ := opt_bind_some ha
    obtain ⟨ds, e3, rfl⟩ := opt_map_some e2
    simp [PyData.eqvAll]
  | n, m, x :: xs, y :: ys, as, bs, hx, hy, ha, hb => by
    have hx : okE n x = true ∧ okEs n xs = true := by simpa [okEs] using hx
    have hy : okE m y = true ∧ okEs m ys = true := by simpa [okEs] using hy
    obtain ⟨d, e1, e2⟩ := opt_bind_some ha
    obtain ⟨ds, e3, rfl⟩ := opt_map_some e2
    obtain ⟨d', e1', e2'⟩ := opt_bind_some hb
    obtain ⟨ds', e3', rfl⟩ := opt_map_some e2'
    have h1 := eqv_iff n m x y d d' hx.1 hy.1 e1 e1'
    have h2 := eqvs_iff n m xs ys ds ds' hx.2 hy.2 e3 e3'
    simp [PyData.eqvAll, h1, h2]
end
theorem okE_shaped {n : Nat} (hn : n ≤ 64) {x : F} (h : okE n x = true) : ∃ d, toD x = some d ∧ SeqAt.shaped d = true := by
  obtain ⟨d, e, c, dp⟩ := okE_toD n x h
  exact ⟨d, e, by unfold SeqAt.shaped; rw [c]; simp; omega⟩
/-- == of such data is equality -/
theorem eqD_iff {n m : Nat} (hn : n ≤ 64) (hm : m ≤ 64) {x y : F} (hx : okE n x = true) (hy : okE m y = true) : ∃ b, eqD x y = some b ∧ (b = true ↔ x = y) := by
  obtain ⟨d, e, s⟩ := okE_shaped hn hx
  obtain ⟨d', e', s'⟩ := okE_shaped hm hy
  refine ⟨PyData.eqv d d', ?_, eqv_iff n m x y d d' hx hy e e'⟩
  unfold eqD
  simp [e, e', s, s']
theorem eqB_iff {n m : Nat} (hn : n ≤ 64) (hm : m ≤ 64) {x y : F} (hx : okE n x = true) (hy : okE m y = true) : ∃ b, eqB x y = some b ∧ (b = true ↔ x = y) := by
  unfold eqB
  split
  · exact ⟨_, rfl, by simp⟩
  · exact ⟨_, rfl, by simp⟩
  · exact ⟨_, rfl, by simp⟩
  · exact eqD_iff hn hm hx hy
open Classical in
theorem eqB_no {n m : Nat} (hn : n ≤ 64) (hm : m ≤ 64) {x y : F} (hx : okE n x = true) (hy : okE m y = true) (h : x ≠ y) : eqB x y = some false := by
  obtain ⟨b, e, h'⟩ := eqB_iff hn hm hx hy
  cases b with
  | false => exact e
  | true => exact absurd (h'.mp rfl) h
theorem eqB_yes {n : Nat} (hn : n ≤ 64) {x : F} (hx : okE n x = true) : eqB x x = some true := by
  obtain ⟨b, e, h'⟩ := eqB_iff hn hn hx hx
  rw [e, h'.mpr rfl]
/-! ### the store and calls -/
abbrev Cl (st : Store) : Prop := clean st.length st = true
theorem below_mono {b c : Nat} (h : b ≤ c) : ∀ {x : W}, x.below b = true → x.below c = true
  | .f _, _ => rfl
  | .loc n, q => by
    have : n < b := of_decide_eq_true q
    exact decide_eq_true (by omega)
theorem cell_below_mono {b c : Nat} (h : b ≤ c) {x : Cell} (q : x.below b = true) : x.below c = true := by
  cases x with
  | lstW xs => exact List.all_eq_true.mpr fun w hw => below_mono h (List.all_eq_true.mp q w hw)
  | ins _ fs => exact List.all_eq_true.mpr fun w hw => below_mono h (List.all_eq_true.mp q w hw)
  | _ => rfl
theorem Cl.push {st : Store} (h : Cl st) (xs : List F) : Cl (st ++ [.lstF xs]) := by
  unfold Cl clean at h ⊢
  rw [List.all_append, Bool.and_eq_true]
  refine ⟨List.all_eq_true.mpr fun c hc => cell_below_mono (by simp) (List.all_eq_true.mp h c hc), by simp [Cell.below]⟩
theorem retW_same (st : Store) (x : F) : retW st.length (.f x) st = .ok (.f x) st := by
  unfold retW
  rw [List.take_length]
  cases clean st.length st <;> rfl
theorem retW_tmp {st : Store} (h : Cl st) (x : F) (t : Store) : retW st.length (.f x) (st ++ t) = .ok (.f x) st := by
  unfold retW
  rw [List.take_left]
  rw [show clean st.length st = true from h]
theorem frz_lst {st : Store} (h : Cl st) (xs : List F) : frz st.length (.loc st.length) (st ++ [.lstF xs]) = .ok (.f (.lst xs)) st := by
  unfold frz
  have e : deepF st.length (st ++ [.lstF xs]) 3 (.loc st.length) = some (.lst xs) := by
    simp [deepF]
  rw [e]
  simp [List.take_left, show clean st.length st = true from h]
/-! ### comprehensions -/
theorem doCell_app {st : Store} {acc : List F} {x : F} (hl : acc.length < 1000000) : doCell cAppend st.length [.f x] (st ++ [.lstF acc]) = .ok (.f .non) (st ++ [.lstF (acc ++ [x])]) := by
  have e : small (acc.length + 1) = true := decide_eq_true hl
  simp [doCell, cAppend, e]
/-- a comprehension whose parts leave the store alone -/
theorem lc_pure {g : TGv} {tt : TTv} {te : TEv} {env : Env} {st : Store} (f : W → F) (p : W → Bool) : ∀ (ws : List W) (acc : List F), acc.length + ws.length ≤ 1000000 →
    (∀ w ∈ ws, ∀ acc, ∃ env1, g w env = some env1 ∧ tt env1 (st ++ [.lstF acc]) = .ok (p w) (st ++ [.lstF acc]) ∧ (p w = true → te env1 (st ++ [.lstF acc]) = .ok (.f (f w)) (st ++ [.lstF acc]))) →
    lcL g tt te st.length env ws (st ++ [.lstF acc]) = .ok (.loc st.length) (st ++ [.lstF (acc ++ (ws.filter p).map f)])
  | [], acc, _, _ => by simp [lcL]
  | w :: ws, acc, hl, h => by
    obtain ⟨env1, e1, e2, e3⟩ := h w (by simp) acc
    have ih := fun (acc' : List F) (hl' : acc'.length + ws.length ≤ 1000000) => lc_pure f p ws acc' hl' fun w' hw => h w' (by simp [hw])
    simp only [List.length_cons] at hl
    unfold lcL
    simp only [e1, e2, Res.bind]
    cases hp : p w with
    | true =>
      simp only [if_true, e3 hp, doCell_app (st := st) (acc := acc) (x := f w) (by omega)]
      rw [ih (acc ++ [f w]) (by simp; omega)]
      simp [hp]
    | false =>
      simp only [Bool.false_eq_true, if_false]
      rw [ih acc (by omega)]
      simp [hp]
theorem lcf_pure {ti : TIv} {g : TGv} {tt : TTv} {te : TEv} {vs : List Nat} {env : Env} {st : Store} (hc : Cl st) (f : W → F) (p : W → Bool) {ws : List W} (hi : ti env st = .ok ws st) (hl : ws.length ≤ 1000000)
    (h : ∀ w ∈ ws, ∀ acc, ∃ env1, g w (wipeE env vs) = some env1 ∧ tt env1 (st ++ [.lstF acc]) = .ok (p w) (st ++ [.lstF acc]) ∧ (p w = true → te env1 (st ++ [.lstF acc]) = .ok (.f (f w)) (st ++ [.lstF acc]))) :
    eFrz (eLc ti g tt te vs) env st = .ok (.f (.lst ((ws.filter p).map f))) st := by
  unfold eFrz eLc
  simp only [hi, Res.bind]
  rw [lc_pure f p ws [] (by simpa using hl) h]
  simp only [Res.bind, List.nil_append]
  exact frz_lst hc _
/-- .. without a test -/
theorem lcf_map {ti : TIv} {g : TGv} {te : TEv} {vs : List Nat} {env : Env} {st : Store} (hc : Cl st) (f : W → F) {ws : List W} (hi : ti env st = .ok ws st) (hl : ws.length ≤ 1000000)
    (h : ∀ w ∈ ws, ∀ acc, ∃ env1, g w (wipeE env vs) = some env1 ∧ te env1 (st ++ [.lstF acc]) = .ok (.f (f w)) (st ++ [.lstF acc])) :
    eFrz (eLc ti g tYesV te vs) env st = .ok (.f (.lst (ws.map f))) st := by
  rw [lcf_pure hc f (fun _ => true) hi hl fun w hw acc => by
    obtain ⟨env1, e1, e2⟩ := h w hw acc
    exact ⟨env1, e1, rfl, fun _ => e2⟩]
  rw [List.filter_eq_self.mpr fun _ _ => rfl]
end VS

set_option Elab.async false
set_option linter.all false
set_option maxRecDepth 100000
set_option maxHeartbeats 4000000
set_option autoImplicit false
/-! T1: typed programs, and how mirrors refine to them: data, stores, expressions. -/
namespace TL
open VS
open L2 (atI ixN)

/-! ### data -/
class En (α : Type) where
  e : α → F
/-- one sign -/
structure Ch where
  c : Nat
deriving DecidableEq
structure T3 (α β γ : Type) where
  a : α
  b : β
  c : γ
deriving DecidableEq
structure T4 (α β γ δ : Type) where
  a : α
  b : β
  c : γ
  d : δ
deriving DecidableEq
structure T5 (α β γ δ ε : Type) where
  a : α
  b : β
  c : γ
  d : δ
  e : ε
deriving DecidableEq
/-- a tuple of any length -/
structure Tu (α : Type) where
  l : List α
deriving DecidableEq
structure Dc (κ ν : Type) where
  l : List (κ × ν)
deriving DecidableEq
/-- the script -/
structure Sc where
  l : List Int
instance : En Int := ⟨F.int⟩
instance : En Bool := ⟨F.bl⟩
instance : En Unit := ⟨fun _ => F.non⟩
instance : En F := ⟨id⟩
instance : En Ch := ⟨fun c => F.str [c.c]⟩
instance : En Sc := ⟨fun s => F.scr s.l⟩
instance {α : Type} [En α] : En (List α) := ⟨fun l => F.lst (l.map En.e)⟩
instance : En (List Nat) := ⟨F.str⟩
instance {α : Type} [En α] : En (Option α) := ⟨fun o => match o with
  | none => F.non
  | some a => En.e a⟩
instance {α β : Type} [En α] [En β] : En (α × β) := ⟨fun p => F.tup [En.e p.1, En.e p.2]⟩
instance {α β γ : Type} [En α] [En β] [En γ] : En (T3 α β γ) := ⟨fun p => F.tup [En.e p.a, En.e p.b, En.e p.c]⟩
instance {α β γ δ : Type} [En α] [En β] [En γ] [En δ] : En (T4 α β γ δ) := ⟨fun p => F.tup [En.e p.a, En.e p.b, En.e p.c, En.e p.d]⟩
instance {α β γ δ ε : Type} [En α] [En β] [En γ] [En δ] [En ε] : En (T5 α β γ δ ε) := ⟨fun p => F.tup [En.e p.a, En.e p.b, En.e p.c, En.e p.d, En.e p.e]⟩
instance {α : Type} [En α] : En (Tu α) := ⟨fun t => F.tup (t.l.map En.e)⟩
instance {κ ν : Type} [En κ] [En ν] : En (Dc κ ν) := ⟨fun d => F.dct (d.l.map fun p => (En.e p.1, En.e p.2))⟩
abbrev w_ {α : Type} [En α] (a : α) : W := W.f (En.e a)
abbrev cl_ {α : Type} [En α] (l : List α) : Cell := Cell.lstF (l.map En.e)

/-! ### programs -/
inductive O (σ α : Type) where
  | ok (a : α) (s : σ) | ex (c : Nat) (fs : List (Nat × F)) (s : σ) | no
abbrev P (α : Type) := O Unit α
def O.bind {σ α β : Type} (o : O σ α) (k : α → σ → O σ β) : O σ β := match o with
  | .ok a s => k a s
  | .ex c fs s => .ex c fs s
  | .no => .no
def O.up {σ α : Type} (p : P α) (s : σ) : O σ α := match p with
  | .ok a _ => .ok a s
  | .ex c fs _ => .ex c fs s
  | .no => .no
def ofO {σ α : Type} (o : Option α) (s : σ) : O σ α := match o with
  | some a => .ok a s
  | none => .no
theorem bind_ok {σ α β : Type} (a : α) (s : σ) (k : α → σ → O σ β) : O.bind (.ok a s) k = k a s := rfl
theorem up_ok {σ α : Type} (a : α) (u : Unit) (s : σ) : O.up (.ok a u : P α) s = .ok a s := rfl
theorem ofO_some {σ α : Type} (a : α) (s : σ) : ofO (some a) s = .ok a s := rfl
theorem bind_assoc {σ α β γ : Type} (o : O σ α) (k : α → σ → O σ β) (j : β → σ → O σ γ) : (o.bind k).bind j = o.bind fun a s => (k a s).bind j := by cases o <;> rfl
theorem bind_pure {σ α : Type} (o : O σ α) : (o.bind fun a s => .ok a s) = o := by cases o <;> rfl

/-! ### frames -/
/-- how a state stands in a store -/
structure Wr (σ : Type) where
  put : σ → Store → Store
  len : ∀ s s' r, (put s r).length = (put s' r).length
  cl : ∀ s s' r, Cl (put s r) → Cl (put s' r)
  app : ∀ s r t, put s (r ++ t) = put s r ++ t
def wU : Wr Unit := ⟨fun _ r => r, fun _ _ _ => rfl, fun _ _ _ h => h, fun _ _ _ => rfl⟩
structure Bs {σ : Type} (wr : Wr σ) where
  rest : Store
  cl : ∀ s, Cl (wr.put s rest)
  b : Nat
  len : ∀ s, (wr.put s rest).length = b
abbrev Bs.st {σ : Type} {wr : Wr σ} (B : Bs wr) (s : σ) : Store := wr.put s B.rest
def lk : List (Nat × W) → Nat → Option W
  | [], _ => none
  | (j, w) :: G, i => match Nat.beq j i with
    | true => some w
    | false => lk G i
structure Ok (b n : Nat) (G : List (Nat × W)) (cs : List (Nat × Cell)) (env : Env) (r : Store) : Prop where
  len : env.length = n
  cl : clean (b + r.length) r = true
  nd : (cs.map Prod.fst).Nodup
  cell : ∀ k c, (k, c) ∈ cs → r[k]? = some c
  var : ∀ i w, lk G i = some w → env[i]? = some (some w)
section
variable {σ : Type} {wr : Wr σ} {b n : Nat} {G G' : List (Nat × W)} {cs cs' : List (Nat × Cell)} {env : Env} {r : Store} {B : Bs wr} {s s' : σ}
theorem below_all {b c : Nat} (h : b ≤ c) {st : Store} (q : clean b st = true) : clean c st = true :=
  List.all_eq_true.mpr fun x hx => cell_below_mono h (List.all_eq_true.mp q x hx)
theorem Bs.clean (B : Bs wr) (s : σ) : clean B.b (B.st s) = true := by
  have := B.cl s
  unfold Cl at this
  rw [B.len s] at this
  exact this
theorem Ok.Cl (h : Ok B.b n G cs env r) (s : σ) : Cl (B.st s ++ r) := by
  unfold VS.Cl VS.clean
  rw [List.all_append, List.length_append, B.len s, Bool.and_eq_true]
  exact ⟨below_all (Nat.le_add_right _ _) (B.clean s), h.cl⟩
def Sub (G' G : List (Nat × W)) : Prop := ∀ i w, lk G' i = some w → lk G i = some w
theorem sub_nil : Sub [] G := fun _ _ h => by cases h
theorem sub_cons {i : Nat} {w : W} (h : lk G i = some w) (t : Sub G' G) : Sub ((i, w) :: G') G := fun j u q => by
  unfold lk at q
  cases e : Nat.beq i j with
  | true =>
    rw [e] at q
    cases q
    cases Nat.eq_of_beq_eq_true e
    exact h
  | false => rw [e] at q; exact t j u q
theorem sub_refl : Sub G G := fun _ _ h => h
theorem Ok.sub (h : Ok b n G cs env r) (hg : Sub G' G) (hc : cs'.Sublist cs) : Ok b n G' cs' env r :=
  ⟨h.len, h.cl, h.nd.sublist (hc.map _), fun k c q => h.cell k c (hc.subset q), fun i w q => h.var i w (hg i w q)⟩
theorem Ok.set (h : Ok b n G cs env r) {i : Nat} (hi : i < n) (w : W) : Ok b n ((i, w) :: G) cs (env.set i (some w)) r := by
  refine ⟨by simp [h.len], h.cl, h.nd, h.cell, fun j u q => ?_⟩
  unfold lk at q
  cases e : Nat.beq i j with
  | true =>
    rw [e] at q
    cases q
    cases Nat.eq_of_beq_eq_true e
    exact List.getElem?_set_self (by rw [h.len]; exact hi)
  | false =>
    rw [e] at q
    have hij : i ≠ j := fun z => by subst z; rw [Nat.beq_refl] at e; cases e
    rw [List.getElem?_set_ne hij]
    exact h.var j u q
/-- a cell more, behind all -/
theorem Ok.push (h : Ok b n G cs env r) {c : Cell} (hc : c.below (b + r.length) = true) : Ok b n G cs env (r ++ [c]) := by
  refine ⟨h.len, ?_, h.nd, fun k d q => ?_, h.var⟩
  · unfold clean
    rw [List.all_append, Bool.and_eq_true]
    refine ⟨below_all (by simp) h.cl, ?_⟩
    simp only [List.all_cons, List.all_nil, Bool.and_true]
    exact cell_below_mono (by simp) hc
  · exact get_app (h.cell k d q)
theorem Ok.cell_lt (h : Ok b n G cs env r) {k : Nat} {c : Cell} (q : (k, c) ∈ cs) : k < r.length := (List.getElem?_eq_some_iff.mp (h.cell k c q)).1
theorem Ok.pop (h : Ok b n G cs env (r ++ [.dead])) : True := trivial
theorem Ok.new (h : Ok b n G cs env r) {c : Cell} (hc : c.below (b + r.length) = true) : Ok b n G ((r.length, c) :: cs) env (r ++ [c]) := by
  have p := h.push hc
  refine ⟨p.len, p.cl, ?_, fun k d q => ?_, p.var⟩
  · rw [List.map_cons, List.nodup_cons]
    refine ⟨fun hm => ?_, h.nd⟩
    obtain ⟨⟨k, d⟩, hkd, e⟩ := List.mem_map.mp hm
    have := h.cell_lt hkd
    have e : k = r.length := e
    omega
  · rcases List.mem_cons.mp q with q | q
    · cases q
      exact last_get _ _
    · exact p.cell k d q
theorem nodup_set_fst {cs : List (Nat × Cell)} {p k : Nat} {c c' : Cell} (hp : cs[p]? = some (k, c)) : (cs.set p (k, c')).map Prod.fst = cs.map Prod.fst := by
  apply List.ext_getElem?
  intro j
  rw [List.getElem?_map, List.getElem?_map, List.getElem?_set]
  by_cases hj : p = j
  · subst hj
    obtain ⟨hl, e⟩ := List.getElem?_eq_some_iff.mp hp
    simp [hl, hp, e]
  · simp [hj]
/-- the cell at place p of cs is changed -/
theorem Ok.write (h : Ok b n G cs env r) {p k : Nat} {c c' : Cell} (hp : cs[p]? = some (k, c)) (hc : c'.below (b + r.length) = true) : Ok b n G (cs.set p (k, c')) env (r.set k c') := by
  have hm : (k, c) ∈ cs := List.mem_of_getElem? hp
  have hk := h.cell_lt hm
  refine ⟨h.len, ?_, by rw [nodup_set_fst hp]; exact h.nd, fun j d q => ?_, h.var⟩
  · rw [List.length_set]
    refine List.all_eq_true.mpr fun x hx => ?_
    rcases List.mem_or_eq_of_mem_set hx with hx | hx
    · exact List.all_eq_true.mp h.cl x hx
    · subst hx; exact hc
  · obtain ⟨i, hi, e⟩ := List.getElem_of_mem q
    rw [List.length_set] at hi
    rw [List.getElem_set] at e
    by_cases hpi : p = i
    · rw [if_pos hpi] at e
      cases e
      rw [List.getElem?_set_self hk]
    · rw [if_neg hpi] at e
      have hjk : k ≠ j := fun z => by
        subst z
        have hpl := (List.getElem?_eq_some_iff.mp hp).1
        have e1 : (cs.map Prod.fst)[p]? = some k := by rw [List.getElem?_map, hp]; rfl
        have e2 : (cs.map Prod.fst)[i]? = some k := by rw [List.getElem?_map, List.getElem?_eq_getElem hi, e]; rfl
        obtain ⟨l1, e1⟩ := List.getElem?_eq_some_iff.mp e1
        obtain ⟨l2, e2⟩ := List.getElem?_eq_some_iff.mp e2
        exact hpi ((List.getElem_inj h.nd).mp (e1.trans e2.symm))
      rw [List.getElem?_set_ne hjk]
      exact h.cell j d (e ▸ List.getElem_mem hi)
theorem st_get (B : Bs wr) (s : σ) (r : Store) (k : Nat) : (B.st s ++ r)[B.b + k]? = r[k]? := by
  rw [List.getElem?_append_right (by rw [B.len s]; omega), B.len s]
  congr 1
  omega
theorem st_set (B : Bs wr) (s : σ) (r : Store) (k : Nat) (c : Cell) : (B.st s ++ r).set (B.b + k) c = B.st s ++ r.set k c := by
  rw [List.set_append_right _ _ (by rw [B.len s]; omega), B.len s]
  congr 2
  omega
theorem st_len (B : Bs wr) (s : σ) (r : Store) : (B.st s ++ r).length = B.b + r.length := by rw [List.length_append, B.len s]
end

/-! ### the judgements of expressions -/
section
variable {σ α β γ : Type} {wr : Wr σ}
/-- of a store's upper part: as long, and as clean -/
structure Pr (r r' : Store) : Prop where
  len : r'.length = r.length
  cl : ∀ b, clean b r = true → clean b r' = true
theorem Pr.refl {r : Store} : Pr r r := ⟨rfl, fun _ h => h⟩
theorem Pr.trans {r r1 r2 : Store} (a : Pr r r1) (b : Pr r1 r2) : Pr r r2 := ⟨b.len.trans a.len, fun c h => b.cl c (a.cl c h)⟩
theorem Pr.set {r : Store} {k : Nat} {c : Cell} (h : ∀ b, c.below b = true) : Pr r (r.set k c) := ⟨by simp, fun b q => List.all_eq_true.mpr fun x hx => by
  rcases List.mem_or_eq_of_mem_set hx with hx | hx
  · exact List.all_eq_true.mp q x hx
  · subst hx; exact h b⟩
def Rl (B : Bs wr) (n : Nat) (G : List (Nat × W)) (cs : List (Nat × Cell)) (env : Env) (r0 : Store) (f : α → β) (x : Res β) (o : O σ α) : Prop := match o with
  | .ok a s' => ∃ r', x = .ok (f a) (B.st s' ++ r') ∧ Ok B.b n G cs env r' ∧ Pr r0 r'
  | .ex c fs s' => ∃ r', x = .exc c fs (B.st s' ++ r') ∧ Ok B.b n G [] env r'
  | .no => True
def E [En α] (B : Bs wr) (n : Nat) (G : List (Nat × W)) (cs cs' : List (Nat × Cell)) (t : TEv) (s : σ) (o : O σ α) : Prop :=
  ∀ env r, Ok B.b n G cs env r → Rl B n G cs' env r (fun a => w_ a) (t env (B.st s ++ r)) o
def ET (B : Bs wr) (n : Nat) (G : List (Nat × W)) (cs cs' : List (Nat × Cell)) (t : TTv) (s : σ) (o : O σ Bool) : Prop :=
  ∀ env r, Ok B.b n G cs env r → Rl B n G cs' env r (fun a => a) (t env (B.st s ++ r)) o
/-- the words of an iterable -/
def EI [En α] (B : Bs wr) (n : Nat) (G : List (Nat × W)) (cs cs' : List (Nat × Cell)) (t : TIv) (s : σ) (o : O σ (List α)) : Prop :=
  ∀ env r, Ok B.b n G cs env r → Rl B n G cs' env r (fun l => l.map fun a => w_ a) (t env (B.st s ++ r)) o
/-- what is looked at: data, or a list's cell -/
def EL [En α] (B : Bs wr) (n : Nat) (G : List (Nat × W)) (cs cs' : List (Nat × Cell)) (t : TEv) (s : σ) (o : O σ α) : Prop :=
  ∀ env r, Ok B.b n G cs env r → match o with
    | .ok a s' => ∃ w r', t env (B.st s ++ r) = .ok w (B.st s' ++ r') ∧ Ok B.b n G cs' env r' ∧ Pr r r' ∧ ∀ s'' r'' env'', Ok B.b n G cs' env'' r'' → look (B.st s'' ++ r'') w = some (En.e a)
    | .ex c fs s' => ∃ r', t env (B.st s ++ r) = .exc c fs (B.st s' ++ r') ∧ Ok B.b n G [] env r'
    | .no => True
class Ar (A : Type) where
  ws : A → List W
instance : Ar Unit := ⟨fun _ => []⟩
instance {α A : Type} [En α] [Ar A] : Ar (α × A) := ⟨fun p => w_ p.1 :: Ar.ws p.2⟩
/-- a place in the store -/
structure Rf where
  k : Nat
instance {A : Type} [Ar A] : Ar (Rf × A) := ⟨fun p => W.loc p.1.k :: Ar.ws p.2⟩
/-- the members of a list display -/
instance {α : Type} [En α] : Ar (List α) := ⟨fun l => l.map fun a => w_ a⟩
def EA0 {A : Type} [Ar A] (B : Bs wr) (n : Nat) (G : List (Nat × W)) (cs cs' : List (Nat × Cell)) (t : TAv) (s : σ) (o : O σ A) : Prop :=
  ∀ env r, Ok B.b n G cs env r → Rl B n G cs' env r (fun x => Ar.ws x) (t env (B.st s ++ r)) o
/-- arguments, by what goes on with them -/
def EA {A : Type} [Ar A] (B : Bs wr) (n : Nat) (G : List (Nat × W)) (cs cs' : List (Nat × Cell)) (t : TAv) (s : σ) (q : (β : Type) → (A → σ → O σ β) → O σ β) : Prop :=
  ∃ o, EA0 B n G cs cs' t s o ∧ ∀ β k, q β k = o.bind k
end
section
variable {σ α β γ δ : Type} {wr : Wr σ} {B : Bs wr} {n : Nat} {G : List (Nat × W)} {cs cs1 cs2 cs3 : List (Nat × Cell)} {env : Env} {r0 : Store} {s : σ}
theorem Rl.bind {f : α → β} {g : γ → δ} {x : Res β} {o : O σ α} {k : β → Store → Res δ} {k' : α → σ → O σ γ} (h : Rl B n G cs1 env r0 f x o)
    (hk : ∀ a s' r', o = .ok a s' → Ok B.b n G cs1 env r' → Pr r0 r' → Rl B n G cs2 env r0 g (k (f a) (B.st s' ++ r')) (k' a s')) : Rl B n G cs2 env r0 g (x.bind k) (o.bind k') := by
  cases o with
  | ok a s' =>
    obtain ⟨r', rfl, ok, hl⟩ := h
    exact hk a s' r' rfl ok hl
  | ex c fs s' => obtain ⟨r', rfl, ok⟩ := h; exact ⟨r', rfl, ok⟩
  | no => trivial
theorem Rl.up {f : α → β} {x : Res β} {o : O σ α} {r1 : Store} (p : Pr r0 r1) (h : Rl B n G cs env r1 f x o) : Rl B n G cs env r0 f x o := by
  cases o with
  | ok a s' => obtain ⟨r', e, k, q⟩ := h; exact ⟨r', e, k, p.trans q⟩
  | ex c fs s' => exact h
  | no => trivial
theorem Rl.mk {f : α → β} {x : Res β} {a : α} {r : Store} (e : x = .ok (f a) (B.st s ++ r)) (ok : Ok B.b n G cs env r) (hl : Pr r0 r) : Rl B n G cs env r0 f x (.ok a s) := ⟨r, e, ok, hl⟩
theorem Rl.opt {f : α → β} {x : Res β} {o : Option α} {r : Store} (e : ∀ a, o = some a → x = .ok (f a) (B.st s ++ r)) (ok : Ok B.b n G cs env r) (hl : Pr r0 r) : Rl B n G cs env r0 f x (ofO o s) := by
  cases o with
  | none => trivial
  | some a => exact ⟨r, e a rfl, ok, hl⟩
variable [En α] [En β] [En γ] [En δ] {ta tb tc te : TEv} {o : O σ α} {o1 : O σ α} {o2 : σ → O σ β} {o3 : σ → O σ γ}
theorem E.el (h : E B n G cs cs1 te s o) : EL B n G cs cs1 te s o := fun env r k => by
  have q := h env r k
  cases o with
  | ok a s' => obtain ⟨r', e, ok, hl⟩ := q; exact ⟨_, r', e, ok, hl, fun _ _ _ _ => rfl⟩
  | ex c fs s' => exact q
  | no => trivial
theorem EL.bind {γ' δ' : Type} {g : γ' → δ'} {k : W → Store → Res δ'} {k' : α → σ → O σ γ'} {env : Env} {r : Store} (h : EL B n G cs cs1 te s o) (ok : Ok B.b n G cs env r)
    (hk : ∀ a s' w r', Ok B.b n G cs1 env r' → Pr r r' → (∀ s'' r'' env'', Ok B.b n G cs1 env'' r'' → look (B.st s'' ++ r'') w = some (En.e a)) → Rl B n G cs2 env r g (k w (B.st s' ++ r')) (k' a s')) :
    Rl B n G cs2 env r g ((te env (B.st s ++ r)).bind k) (o.bind k') := by
  have q := h env r ok
  cases o with
  | ok a s' =>
    obtain ⟨w, r', e, ok', hl, hw⟩ := q
    rw [e]
    exact hk a s' w r' ok' hl hw
  | ex c fs s' => obtain ⟨r', e, ok'⟩ := q; rw [e]; exact ⟨r', rfl, ok'⟩
  | no => trivial
/-! names and constants -/
theorem e_var {i : Nat} {a : α} (h : lk G i = some (w_ a)) : E B n G cs cs (eVar i) s (.ok a s) := fun env r k => by
  refine Rl.mk ?_ k .refl
  unfold eVar
  rw [k.var i _ h]
theorem el_cell {i k : Nat} {l : List α} (h : lk G i = some (.loc (B.b + k))) (hc : (k, cl_ l) ∈ cs) : EL B n G cs cs (eVar i) s (.ok l s) := fun env r ok => by
  refine ⟨.loc (B.b + k), r, ?_, ok, .refl, fun s2 r2 env2 ok2 => ?_⟩
  · unfold eVar
    rw [ok.var i _ h]
  · show lookC (B.st s2 ++ r2)[B.b + k]? = _
    rw [st_get, ok2.cell _ _ hc]
    rfl
theorem e_c {x : F} {a : α} (h : x = En.e a) : E B n G cs cs (eC x) s (.ok a s) := fun env r k => by
  subst h
  exact Rl.mk rfl k .refl
theorem e_int {i : Int} : E B n G cs cs (eC (.int i)) s (.ok i s) := e_c rfl
theorem e_bl {i : Bool} : E B n G cs cs (eC (.bl i)) s (.ok i s) := e_c rfl
theorem e_non : E B n G cs cs (eC .non) s (.ok () s) := e_c rfl
/-- another type for the same data -/
theorem e_co {f : α → β} (hf : ∀ a, En.e (f a) = En.e a) (h : E B n G cs cs1 te s o) : E B n G cs cs1 te s (o.bind fun a s1 => .ok (f a) s1) := fun env r k => by
  have q := h env r k
  cases o with
  | ok a s' =>
    obtain ⟨r', e, ok, hl⟩ := q
    exact ⟨r', by rw [e]; show Res.ok (W.f (En.e a)) _ = .ok (W.f (En.e (f a))) _; rw [hf], ok, hl⟩
  | ex c fs s' => exact q
  | no => trivial
theorem co_any : ∀ a : α, (En.e (En.e a : F) : F) = En.e a := fun _ => rfl
theorem co_some : ∀ a : α, (En.e (some a) : F) = En.e a := fun _ => rfl
/-- a partial change of type -/
theorem e_cop {f : α → Option β} (hf : ∀ a b, f a = some b → En.e b = En.e a) (h : E B n G cs cs1 te s o) : E B n G cs cs1 te s (o.bind fun a s1 => ofO (f a) s1) := fun env r k => by
  have q := h env r k
  cases o with
  | ok a s' =>
    obtain ⟨r', e, ok, hl⟩ := q
    refine Rl.opt (r := r') (fun b hb => ?_) ok hl
    rw [e]; show Res.ok (W.f (En.e a)) _ = .ok (W.f (En.e b)) _; rw [hf a b hb]
  | ex c fs s' => exact q
  | no => trivial
theorem co_get : ∀ (a : Option α) (b : α), a = some b → (En.e b : F) = En.e a := fun _ _ h => by rw [h]; rfl
/-! operators -/
def Op2T (g : F → F → Option F) (op : α → β → Option γ) : Prop := ∀ a b c, op a b = some c → g (En.e a) (En.e b) = some (En.e c)
def Op1T (g : F → Option F) (op : α → Option γ) : Prop := ∀ a c, op a = some c → g (En.e a) = some (En.e c)
theorem e_op2 {g : F → F → Option F} {op : α → β → Option γ} (hg : Op2T g op) (h1 : EL B n G cs cs1 ta s o1) (h2 : ∀ s1, EL B n G cs1 cs1 tb s1 (o2 s1)) :
    E B n G cs cs1 (eOp2 g ta tb) s (o1.bind fun a s1 => (o2 s1).bind fun b s2 => ofO (op a b) s2) := fun env r k => by
  refine h1.bind k fun a s1 w r1 k1 hl1 hw => ?_
  refine Rl.up hl1 ?_
  refine (h2 s1).bind k1 fun b s2 u r2 k2 hl2 hu => ?_
  refine Rl.opt (fun c hc => ?_) k2 hl2
  show lk2 g w u _ = _
  unfold lk2
  rw [hw s2 r2 env k2, hu s2 r2 env k2]
  show ofOpt (g (En.e a) (En.e b)) _ = _
  rw [hg a b c hc]
  rfl
theorem e_op1 {g : F → Option F} {op : α → Option γ} (hg : Op1T g op) (h1 : EL B n G cs cs1 ta s o1) :
    E B n G cs cs1 (eOp1 g ta) s (o1.bind fun a s1 => ofO (op a) s1) := fun env r k => by
  refine h1.bind k fun a s1 w r1 k1 hl1 hw => ?_
  refine Rl.opt (fun c hc => ?_) k1 hl1
  show lk1 g w _ = _
  unfold lk1
  rw [hw s1 r1 env k1]
  show ofOpt (g (En.e a)) _ = _
  rw [hg a c hc]
  rfl
/-! tests -/
variable {wa wb : TTv} {p1 : O σ Bool} {p2 : σ → O σ Bool}
theorem t_val {o : O σ Bool} (h : E B n G cs cs1 te s o) : ET B n G cs cs1 (tVal te) s o := fun env r k => by
  have q := h env r k
  show Rl _ _ _ _ _ _ _ ((te env (B.st s ++ r)).bind fun w st1 => asB w st1) o
  cases o with
  | ok a s' => obtain ⟨r', e, ok, hl⟩ := q; rw [e]; exact ⟨r', rfl, ok, hl⟩
  | ex c fs s' => obtain ⟨r', e, ok⟩ := q; rw [e]; exact ⟨r', rfl, ok⟩
  | no => trivial
theorem t_and (h1 : ET B n G cs cs1 wa s p1) (h2 : ∀ s1, ET B n G cs1 cs1 wb s1 (p2 s1)) : ET B n G cs cs1 (tAndV wa wb) s (p1.bind fun b s1 => if b = true then p2 s1 else .ok false s1) := fun env r k => by
  refine (h1 env r k).bind fun b s1 r1 _ k1 hl => ?_
  refine Rl.up hl ?_
  cases b with
  | true => exact h2 s1 env r1 k1
  | false => exact Rl.mk rfl k1 .refl
theorem t_or (h1 : ET B n G cs cs1 wa s p1) (h2 : ∀ s1, ET B n G cs1 cs1 wb s1 (p2 s1)) : ET B n G cs cs1 (tOrV wa wb) s (p1.bind fun b s1 => if b = true then .ok true s1 else p2 s1) := fun env r k => by
  refine (h1 env r k).bind fun b s1 r1 _ k1 hl => ?_
  refine Rl.up hl ?_
  cases b with
  | true => exact Rl.mk rfl k1 .refl
  | false => exact h2 s1 env r1 k1
theorem t_not (h1 : ET B n G cs cs1 wa s p1) : ET B n G cs cs1 (tNotV wa) s (p1.bind fun b s1 => .ok (!b) s1) := fun env r k => by
  refine (h1 env r k).bind fun b s1 r1 _ k1 hl => ?_
  exact Rl.mk rfl k1 hl
theorem e_and {o1 : O σ Bool} {o2 : σ → O σ Bool} (h1 : E B n G cs cs1 ta s o1) (h2 : ∀ s1, E B n G cs1 cs1 tb s1 (o2 s1)) : E B n G cs cs1 (eAnd ta tb) s (o1.bind fun b s1 => if b = true then o2 s1 else .ok false s1) := fun env r k => by
  refine (h1 env r k).bind fun b s1 r1 _ k1 hl => ?_
  refine Rl.up hl ?_
  cases b with
  | true => exact h2 s1 env r1 k1
  | false => exact Rl.mk rfl k1 .refl
theorem e_andT {a b : Bool} (h1 : E B n G cs cs ta s (.ok a s)) (h2 : ∀ s1, E B n G cs cs tb s1 (.ok b s1)) : E B n G cs cs (eAnd ta tb) s (.ok (a && b) s) := fun env r k => by
  have q := e_and h1 h2 env r k
  cases a <;> exact q
theorem e_not {o1 : O σ Bool} (h1 : E B n G cs cs1 ta s o1) : E B n G cs cs1 (eNot ta) s (o1.bind fun b s1 => .ok (!b) s1) := fun env r k => by
  refine (h1 env r k).bind fun b s1 r1 _ k1 hl => ?_
  exact Rl.mk rfl k1 hl
theorem e_if {o1 o2 : σ → O σ α} (h : ET B n G cs cs1 wa s p1) (h1 : ∀ s1, E B n G cs1 cs2 ta s1 (o1 s1)) (h2 : ∀ s1, E B n G cs1 cs2 tb s1 (o2 s1)) : E B n G cs cs2 (eIf wa ta tb) s (p1.bind fun b s1 => if b = true then o1 s1 else o2 s1) := fun env r k => by
  refine (h env r k).bind fun b s1 r1 _ k1 hl => ?_
  refine Rl.up hl ?_
  cases b with
  | true => exact h1 s1 env r1 k1
  | false => exact h2 s1 env r1 k1
/-- a < b < c -/
theorem e_chain {g g' : F → F → Option F} {op : α → β → Option Bool} {op' : β → γ → Option Bool} (hg : Op2T g op) (hg' : Op2T g' op') (h1 : E B n G cs cs1 ta s o1) (h2 : ∀ s1, E B n G cs1 cs1 tb s1 (o2 s1)) (h3 : ∀ s1, E B n G cs1 cs1 tc s1 (o3 s1)) :
    E B n G cs cs1 (eChain g g' ta tb tc) s (o1.bind fun a s1 => (o2 s1).bind fun b s2 => (ofO (op a b) s2).bind fun k s3 => if k = true then (o3 s3).bind fun c s4 => ofO (op' b c) s4 else .ok false s3) := fun env r k => by
  refine (h1 env r k).bind fun a s1 r1 _ k1 hl1 => ?_
  refine Rl.up hl1 ?_
  refine (h2 s1 env r1 k1).bind fun b s2 r2 _ k2 hl2 => ?_
  refine Rl.up hl2 ?_
  cases q : op a b with
  | none => trivial
  | some v =>
    have e : lk2 g (w_ a) (w_ b) (B.st s2 ++ r2) = .ok (w_ v) (B.st s2 ++ r2) := by
      show ofOpt (g (En.e a) (En.e b)) _ = _
      rw [hg a b v q]; rfl
    show Rl _ _ _ _ _ _ _ ((lk2 g (w_ a) (w_ b) (B.st s2 ++ r2)).bind _) _
    rw [e]
    cases v with
    | false => exact Rl.mk rfl k2 .refl
    | true =>
      refine (h3 s2 env r2 k2).bind fun c s4 r4 _ k4 hl4 => ?_
      refine Rl.opt (fun d hd => ?_) k4 hl4
      show ofOpt (g' (En.e b) (En.e c)) _ = _
      rw [hg' b c d hd]; rfl
theorem e_chainT {g g' : F → F → Option F} {op : α → β → Bool} {op' : β → γ → Bool} {a : α} {b : β} {c : γ} (hg : Op2T g fun x y => some (op x y)) (hg' : Op2T g' fun x y => some (op' x y)) (h1 : E B n G cs cs ta s (.ok a s)) (h2 : ∀ s1, E B n G cs cs tb s1 (.ok b s1)) (h3 : ∀ s1, E B n G cs cs tc s1 (.ok c s1)) :
    E B n G cs cs (eChain g g' ta tb tc) s (.ok (op a b && op' b c) s) := fun env r k => by
  have q := e_chain hg hg' h1 h2 h3 env r k
  have q : Rl B n G cs env r (fun a => w_ a) (eChain g g' ta tb tc env (B.st s ++ r)) (if op a b = true then .ok (op' b c) s else .ok false s) := q
  cases e : op a b with
  | true => rw [e] at q; exact q
  | false => rw [e] at q; exact q
/-! arguments -/
variable {A : Type} [Ar A] {tr : TAv}
theorem a_nil : EA B n G cs cs aNil s (fun _ k => k () s) := ⟨.ok () s, fun env r k => Rl.mk rfl k .refl, fun _ _ => rfl⟩
theorem a_cons {q : σ → (β : Type) → (A → σ → O σ β) → O σ β} (h1 : E B n G cs cs1 ta s o1) (h2 : ∀ s1, EA B n G cs1 cs2 tr s1 (q s1)) : EA B n G cs cs2 (aCons ta tr) s (fun β k => o1.bind fun a s1 => q s1 β fun x s2 => k (a, x) s2) := by
  obtain ⟨oa, h3⟩ := Classical.axiomOfChoice h2
  refine ⟨o1.bind fun a s1 => (oa s1).bind fun x s2 => .ok (a, x) s2, fun env r k => ?_, fun β k => ?_⟩
  · refine (h1 env r k).bind fun a s1 r1 _ k1 hl1 => ?_
    refine Rl.up hl1 ?_
    refine ((h3 s1).1 env r1 k1).bind fun x s2 r2 _ k2 hl2 => ?_
    exact Rl.mk rfl k2 hl2
  · simp only [(h3 _).2, bind_assoc, bind_ok]
theorem al_nil : EA B n G cs cs aNil s (fun _ k => k ([] : List α) s) := ⟨.ok [] s, fun env r k => Rl.mk rfl k .refl, fun _ _ => rfl⟩
theorem al_cons {q : σ → (β : Type) → (List α → σ → O σ β) → O σ β} (h1 : E B n G cs cs1 ta s o1) (h2 : ∀ s1, EA B n G cs1 cs2 tr s1 (q s1)) : EA B n G cs cs2 (aCons ta tr) s (fun β k => o1.bind fun a s1 => q s1 β fun x s2 => k (a :: x) s2) := by
  obtain ⟨oa, h3⟩ := Classical.axiomOfChoice h2
  refine ⟨o1.bind fun a s1 => (oa s1).bind fun x s2 => .ok (a :: x) s2, fun env r k => ?_, fun β k => ?_⟩
  · refine (h1 env r k).bind fun a s1 r1 _ k1 hl1 => ?_
    refine Rl.up hl1 ?_
    refine ((h3 s1).1 env r1 k1).bind fun x s2 r2 _ k2 hl2 => ?_
    exact Rl.mk rfl k2 hl2
  · simp only [(h3 _).2, bind_assoc, bind_ok]
def lstO (l : List α) (s : σ) : O σ (List α) := ofO (if small l.length = true then some l else none) s
theorem allF_w (l : List α) : allF (l.map fun a => w_ a) = some (l.map En.e) := by
  have := allF_map (l.map (En.e (α := α)))
  rw [List.map_map] at this
  exact this
theorem e_lst {q : (β : Type) → (List α → σ → O σ β) → O σ β} (h : EA B n G cs cs1 tr s q) : E B n G cs cs1 (eLst tr) s (q _ fun l s1 => lstO l s1) := fun env r k => by
  obtain ⟨ol, h, hq⟩ := h
  rw [hq]
  refine (h env r k).bind fun l s1 r1 _ k1 hl => ?_
  refine Rl.opt (fun l' hl' => ?_) k1 hl
  obtain ⟨hs, e⟩ := ifSome hl'
  subst e
  show (match allF (l.map fun a => w_ a) with
    | some xs => if small xs.length = true then Res.ok (W.f (F.lst xs)) _ else .stuck
    | none => .stuck) = _
  rw [allF_w]
  simp only [List.length_map]
  rw [if_pos hs]
  rfl
def tupO (l : List α) (s : σ) : O σ (Tu α) := ofO (if small l.length = true then some (Tu.mk l) else none) s
theorem e_tupS {q : (β : Type) → (List α → σ → O σ β) → O σ β} (h : EA B n G cs cs1 tr s q) : E B n G cs cs1 (eTup tr) s (q _ fun l s1 => tupO l s1) := fun env r k => by
  obtain ⟨ol, h, hq⟩ := h
  rw [hq]
  refine (h env r k).bind fun l s1 r1 _ k1 hl => ?_
  refine Rl.opt (fun l' hl' => ?_) k1 hl
  obtain ⟨hs, e⟩ := ifSome hl'
  subst e
  show (match allF (l.map fun a => w_ a) with
    | some xs => if small xs.length = true then Res.ok (W.f (F.tup xs)) _ else .stuck
    | none => .stuck) = _
  rw [allF_w]
  simp only [List.length_map]
  rw [if_pos hs]
  rfl
theorem e_tup2 {q : (β' : Type) → (α × β × Unit → σ → O σ β') → O σ β'} (h : EA B n G cs cs1 tr s q) : E B n G cs cs1 (eTup tr) s (q _ fun x s1 => .ok (x.1, x.2.1) s1) := fun env r k => by
  obtain ⟨oa, h, hq⟩ := h
  rw [hq]
  exact (h env r k).bind fun x s1 r1 _ k1 hl => Rl.mk rfl k1 hl
/-! attributes, members -/
theorem e_attr {i : Nat} {f : α → β} (hf : ∀ (a : α) st, attrW st i (w_ a) = some (w_ (f a))) (h : E B n G cs cs1 te s o) : E B n G cs cs1 (eAttr i te) s (o.bind fun a s1 => .ok (f a) s1) := fun env r k => by
  refine (h env r k).bind fun a s1 r1 _ k1 hl => ?_
  refine Rl.mk ?_ k1 hl
  show ofW (attrW _ i (w_ a)) _ = _
  rw [hf]; rfl
theorem e_ixT {i : Int} {f : α → β} (hf : ∀ (a : α) st, ixW st (w_ a) (.f (.int i)) = some (w_ (f a))) (h : E B n G cs cs1 ta s o) (hi : ∀ s1, E B n G cs1 cs1 tb s1 (.ok i s1)) : E B n G cs cs1 (eIx ta tb) s (o.bind fun a s1 => .ok (f a) s1) := fun env r k => by
  refine (h env r k).bind fun a s1 r1 _ k1 hl => ?_
  obtain ⟨r2, e, k2, hl2⟩ := hi s1 env r1 k1
  refine Rl.mk (r := r2) ?_ k2 (hl.trans hl2)
  show (tb env (B.st s1 ++ r1)).bind _ = _
  rw [e]
  show ofW (ixW _ (w_ a) (.f (.int i))) _ = _
  rw [hf]; rfl
theorem atI_map {α β : Type} (f : α → β) (l : List α) (i : Int) : atI (l.map f) i = (atI l i).map f := by
  unfold atI
  rw [List.length_map]
  cases ixN l.length i with
  | none => rfl
  | some j => simp [List.getElem?_map]
theorem e_ixL {ol : O σ (List α)} {oi : σ → O σ Int} (h : E B n G cs cs1 ta s ol) (hi : ∀ s1, E B n G cs1 cs1 tb s1 (oi s1)) : E B n G cs cs1 (eIx ta tb) s (ol.bind fun l s1 => (oi s1).bind fun i s2 => ofO (atI l i) s2) := fun env r k => by
  refine (h env r k).bind fun l s1 r1 _ k1 hl => ?_
  refine Rl.up hl ?_
  refine (hi s1 env r1 k1).bind fun i s2 r2 _ k2 hl2 => ?_
  refine Rl.opt (fun a ha => ?_) k2 hl2
  show ofW ((atI (l.map En.e) i).map W.f) _ = _
  rw [atI_map, ha]; rfl
@[irreducible] def ixS (l : List Nat) (i : Int) : Option Ch := if l.length ≤ 1000000 then (atI l i).map Ch.mk else none
/-- of a list's cell -/
theorem e_ixC {i k : Nat} {l : List α} {oi : O σ Int} (h : lk G i = some (.loc (B.b + k))) (hc : (k, cl_ l) ∈ cs1) (hi : E B n G cs cs1 tb s oi) : E B n G cs cs1 (eIx (eVar i) tb) s (oi.bind fun i s2 => ofO (atI l i) s2) := fun env r q => by
  have e : eVar i env (B.st s ++ r) = .ok (.loc (B.b + k)) (B.st s ++ r) := by
    unfold eVar
    rw [q.var i _ h]
  unfold eIx
  rw [e]
  refine (hi env r q).bind fun i s2 r2 _ k2 hl2 => ?_
  refine Rl.opt (fun a ha => ?_) k2 hl2
  show ofW (ixC i (B.st s2 ++ r2)[B.b + k]?) _ = _
  rw [st_get, k2.cell _ _ hc]
  show ofW ((atI (l.map En.e) i).map W.f) _ = _
  rw [atI_map, ha]; rfl
end
end TL

set_option Elab.async false
set_option linter.all false
set_option maxRecDepth 100000
set_option maxHeartbeats 4000000
set_option autoImplicit false
/-! T2: calls, what is walked, comprehensions, statements, defs. -/
namespace TL
open VS
open L2 (atI ixN)

/-! ### defs -/
section
variable {σ R A : Type}
def FnG [Ar A] [En R] (wr : Wr σ) (m : FnM) (d : A → σ → O σ R) : Prop := ∀ rest s a, Cl (wr.put s rest) → match d a s with
  | .ok x s' => m (Ar.ws a) (wr.put s rest) = .ok (w_ x) (wr.put s' rest)
  | .ex c fs s' => ∃ j, m (Ar.ws a) (wr.put s rest) = .exc c fs (wr.put s' rest ++ j) ∧ Cl (wr.put s' rest ++ j)
  | .no => True
abbrev FnP [Ar A] [En R] (m : FnM) (d : A → P R) : Prop := FnG wU m (fun a _ => d a)
end
section
variable {σ α β γ δ R A : Type} {wr : Wr σ} {B : Bs wr} {n : Nat} {G : List (Nat × W)} {cs cs1 cs2 cs3 : List (Nat × Cell)} {env : Env} {s : σ}
theorem Ok.noCells {b n : Nat} {G : List (Nat × W)} {cs : List (Nat × Cell)} {env : Env} {r : Store} (h : Ok b n G cs env r) : Ok b n G [] env r := h.sub sub_refl (List.nil_sublist _)
theorem Ok.junk {b n : Nat} {G : List (Nat × W)} {cs : List (Nat × Cell)} {env : Env} {r j : Store} (h : Ok b n G cs env r) (hc : clean (b + (r ++ j).length) (r ++ j) = true) : Ok b n G [] env (r ++ j) :=
  ⟨h.len, hc, List.nodup_nil, (fun _ _ q => nomatch q), h.var⟩
theorem cl_tail {B : Bs wr} {s : σ} {t : Store} (h : Cl (B.st s ++ t)) : clean (B.b + t.length) t = true := by
  unfold Cl clean at h
  rw [List.all_append, Bool.and_eq_true, List.length_append, B.len s] at h
  exact h.2
theorem callP [Ar A] [En R] {m : FnM} {d : A → P R} (F : FnP m d) {env : Env} {r : Store} (k : Ok B.b n G cs env r) (x : A) : Rl B n G cs env r (fun a => w_ a) (m (Ar.ws x) (B.st s ++ r)) ((d x).up s) := by
  have q := F (B.st s ++ r) () x (k.Cl s)
  cases e : d x with
  | ok a u => simp only [e] at q; exact Rl.mk q k .refl
  | ex c fs u =>
    simp only [e] at q
    obtain ⟨j, e1, e2⟩ := q
    refine ⟨r ++ j, by rw [← List.append_assoc]; exact e1, k.junk (cl_tail (s := s) (by rw [← List.append_assoc]; exact e2))⟩
  | no => trivial
theorem callS [Ar A] [En R] {m : FnM} {d : A → σ → O σ R} (F : FnG wr m d) {env : Env} {r : Store} (k : Ok B.b n G cs env r) (x : A) : Rl B n G cs env r (fun a => w_ a) (m (Ar.ws x) (B.st s ++ r)) (d x s) := by
  have q := F (B.rest ++ r) s x (by rw [wr.app]; exact k.Cl s)
  rw [wr.app] at q
  cases e : d x s with
  | ok a u => simp only [e] at q; rw [wr.app] at q; exact Rl.mk q k .refl
  | ex c fs u =>
    simp only [e] at q
    obtain ⟨j, e1, e2⟩ := q
    rw [wr.app] at e1 e2
    refine ⟨r ++ j, by rw [← List.append_assoc]; exact e1, k.junk (cl_tail (s := u) (by rw [← List.append_assoc]; exact e2))⟩
  | no => trivial
theorem up_unit {α : Type} (p : P α) (u : Unit) : p.up u = p := by cases p <;> rfl
variable [En α] [En β] [En γ] [En δ] [En R] [Ar A] {ta tb tc te to : TEv} {tr : TAv} {m : FnM} {o1 : O σ α} {o2 : σ → O σ β}
theorem e_call {d : A → P R} {q : (β : Type) → (A → σ → O σ β) → O σ β} (F : FnP m d) (h : EA B n G cs cs1 tr s q) : E B n G cs cs1 (eCall m tr) s (q _ fun x s1 => (d x).up s1) := fun env r k => by
  obtain ⟨oa, h, hq⟩ := h
  rw [hq]
  refine (h env r k).bind fun x s1 r1 _ k1 hl => ?_
  refine Rl.up hl ?_
  exact callP F k1 x
theorem e_callU {B : Bs wU} {d : A → P R} {q : (β : Type) → (A → Unit → O Unit β) → O Unit β} {s : Unit} (F : FnP m d) (h : EA B n G cs cs1 tr s q) : E B n G cs cs1 (eCall m tr) s (q _ fun x _ => d x) := fun env r k => by
  have z := e_call F h env r k
  simp only [up_unit] at z
  exact z
theorem e_callS {d : A → σ → O σ R} {q : (β : Type) → (A → σ → O σ β) → O σ β} (F : FnG wr m d) (h : EA B n G cs cs1 tr s q) : E B n G cs cs1 (eCall m tr) s (q _ fun x s1 => d x s1) := fun env r k => by
  obtain ⟨oa, h, hq⟩ := h
  rw [hq]
  refine (h env r k).bind fun x s1 r1 _ k1 hl => ?_
  refine Rl.up hl ?_
  exact callS F k1 x
/-! methods of data -/
theorem e_meth {c : Nat} {d : α × A → P R} {q : σ → (β : Type) → (A → σ → O σ β) → O σ β} (hc : ∀ (a : α) st, clsW st (w_ a) = some c) (F : FnP m d) (ho : E B n G cs cs1 to s o1) (h : ∀ s1, EA B n G cs1 cs1 tr s1 (q s1)) : E B n G cs cs1 (eMeth c m to tr) s (o1.bind fun a s1 => q s1 _ fun x s2 => (d (a, x)).up s2) := fun env r k => by
  refine (ho env r k).bind fun a s1 r1 _ k1 hl => ?_
  rw [if_pos (hc a _)]
  refine Rl.up hl ?_
  obtain ⟨oa, h, hq⟩ := h s1
  rw [hq]
  refine (h env r1 k1).bind fun x s2 r2 _ k2 hl2 => ?_
  refine Rl.up hl2 ?_
  exact callP F k2 (a, x)
theorem e_methU {B : Bs wU} {s : Unit} {c : Nat} {d : α × A → P R} {o1 : P α} {q : Unit → (β : Type) → (A → Unit → O Unit β) → O Unit β} (hc : ∀ (a : α) st, clsW st (w_ a) = some c) (F : FnP m d) (ho : E B n G cs cs1 to s o1) (h : ∀ s1, EA B n G cs1 cs1 tr s1 (q s1)) : E B n G cs cs1 (eMeth c m to tr) s (o1.bind fun a s1 => q s1 _ fun x s2 => d (a, x)) := fun env r k => by
  have z := e_meth hc F ho h env r k
  simp only [up_unit] at z
  exact z
/-- bounds by Nat.ble: they get stuck at once where nothing is known -/
def inRg (k : Nat) (i : Int) : Bool := Nat.ble i.natAbs k
def posB (i : Int) : Bool := match i with
  | .ofNat _ => true
  | .negSucc _ => false
theorem inRg_iff {k : Nat} {i : Int} : inRg k i = true ↔ i.natAbs ≤ k := by unfold inRg; rw [Nat.ble_eq]
theorem posB_iff {i : Int} : posB i = true ↔ 0 ≤ i := by cases i <;> simp [posB] <;> omega
@[irreducible] def lenI (i : Int) (s : σ) : O σ Int := ofO (if (posB i && inRg 9223372036854775807 i) = true then some i else none) s
theorem e_lenO {c : Nat} {d : α × Unit → P Int} (hc : ∀ (a : α) st, clsW st (w_ a) = some c) (F : FnP m d) (ho : E B n G cs cs1 to s o1) : E B n G cs cs1 (eLenO c m to) s (o1.bind fun a s1 => ((d (a, ())).up s1).bind fun i s2 => lenI i s2) := fun env r k => by
  refine (ho env r k).bind fun a s1 r1 _ k1 hl => ?_
  unfold own1
  rw [if_pos (hc a _)]
  refine Rl.up hl ?_
  refine (callP F k1 (a, ())).bind fun i s2 r2 _ k2 hl2 => ?_
  unfold lenI
  refine Rl.opt (fun j hj => ?_) k2 hl2
  obtain ⟨hs, rfl⟩ := ifSome hj
  rw [Bool.and_eq_true, posB_iff, inRg_iff] at hs
  exact if_pos ⟨hs.1, by omega⟩
theorem e_lenOU {B : Bs wU} {s : Unit} {o1 : P α} {c : Nat} {d : α × Unit → P Int} (hc : ∀ (a : α) st, clsW st (w_ a) = some c) (F : FnP m d) (ho : E B n G cs cs1 to s o1) : E B n G cs cs1 (eLenO c m to) s (o1.bind fun a s1 => (d (a, ())).bind fun i s2 => lenI i s2) := fun env r k => by
  have q := e_lenO hc F ho env r k
  simp only [up_unit] at q
  exact q
theorem e_own2 {c : Nat} {ok : Store → W → Bool} {d : α × β × Unit → P R} (hc : ∀ (a : α) st, clsW st (w_ a) = some c) (hok : ∀ (b : β) st, ok st (w_ b) = true) (F : FnP m d) (h1 : E B n G cs cs1 ta s o1) (h2 : ∀ s1, E B n G cs1 cs1 tb s1 (o2 s1)) :
    E B n G cs cs1 (eOwn2 c ok m ta tb) s (o1.bind fun a s1 => (o2 s1).bind fun b s2 => (d (a, b, ())).up s2) := fun env r k => by
  refine (h1 env r k).bind fun a s1 r1 _ k1 hl => ?_
  refine Rl.up hl ?_
  refine (h2 s1 env r1 k1).bind fun b s2 r2 _ k2 hl2 => ?_
  unfold own2
  rw [if_pos (hok b _), if_pos (hc a _)]
  refine Rl.up hl2 ?_
  exact callP F k2 (a, b, ())
/-- a type's test whose answer is known -/
theorem e_isi {gs : List Tg} {b : Bool} (hk : ∀ a : α, isiAny gs (kyF (En.e a)) = b) (h : E B n G cs cs1 te s o1) : E B n G cs cs1 (eIsi gs te) s (o1.bind fun _ s1 => .ok b s1) := fun env r k => by
  refine (h env r k).bind fun a s1 r1 _ k1 hl => ?_
  refine Rl.mk ?_ k1 hl
  show Res.ok (W.f (F.bl (isiAny gs (kyF (En.e a))))) _ = _
  rw [hk]
  rfl
theorem e_isiD {gs : List Tg} {f : α → Bool} (hk : ∀ a : α, isiAny gs (kyF (En.e a)) = f a) (h : E B n G cs cs1 te s o1) : E B n G cs cs1 (eIsi gs te) s (o1.bind fun a s1 => .ok (f a) s1) := fun env r k => by
  refine (h env r k).bind fun a s1 r1 _ k1 hl => ?_
  refine Rl.mk ?_ k1 hl
  show Res.ok (W.f (F.bl (isiAny gs (kyF (En.e a))))) _ = _
  rw [hk]
  rfl
/-! built-in functions -/
theorem looks1 {st : Store} {w : W} {x : F} (h : look st w = some x) : looks st [w] = some [x] := by
  unfold looks looks
  rw [h]; rfl
theorem e_cb1 {g : F → Option F} {op : α → Option γ} (hg : Op1T g op) (h1 : EL B n G cs cs1 ta s o1) : E B n G cs cs1 (eCB (g1 g) (aCons ta aNil)) s (o1.bind fun a s1 => ofO (op a) s1) := fun env r k => by
  have e : eCB (g1 g) (aCons ta aNil) env (B.st s ++ r) = (ta env (B.st s ++ r)).bind fun w st1 => lkN (g1 g) [w] st1 := by
    unfold eCB aCons aNil
    cases ta env (B.st s ++ r) <;> rfl
  rw [e]
  refine h1.bind k fun a s1 w r1 k1 hl1 hw => ?_
  refine Rl.opt (fun c hc => ?_) k1 hl1
  unfold lkN
  rw [looks1 (hw s1 r1 env k1)]
  show ofOpt (g (En.e a)) _ = _
  rw [hg a c hc]; rfl
theorem e_cb2 {g : F → F → Option F} {op : α → β → Option γ} (hg : Op2T g op) (h1 : E B n G cs cs1 ta s o1) (h2 : ∀ s1, E B n G cs1 cs1 tb s1 (o2 s1)) :
    E B n G cs cs1 (eCB (g2 g) (aCons ta (aCons tb aNil))) s (o1.bind fun a s1 => (o2 s1).bind fun b s2 => ofO (op a b) s2) := fun env r k => by
  have e : eCB (g2 g) (aCons ta (aCons tb aNil)) env (B.st s ++ r) = (ta env (B.st s ++ r)).bind fun w st1 => (tb env st1).bind fun u st2 => lkN (g2 g) [w, u] st2 := by
    unfold eCB aCons aNil
    cases ta env (B.st s ++ r) with
    | ok w st1 =>
      show ((((tb env st1).bind fun u st2 => Res.ok [u] st2)).bind fun ws st2 => Res.ok (w :: ws) st2).bind _ = _
      cases q : tb env st1 <;> simp [aCons, Res.bind, q]
    | exc _ _ _ => rfl
    | stuck => rfl
  rw [e]
  refine (h1 env r k).bind fun a s1 r1 _ k1 hl1 => ?_
  refine Rl.up hl1 ?_
  refine (h2 s1 env r1 k1).bind fun b s2 r2 _ k2 hl2 => ?_
  refine Rl.opt (fun c hc => ?_) k2 hl2
  show ofOpt (g (En.e a) (En.e b)) _ = _
  rw [hg a b c hc]; rfl
/-! a cell becomes data -/
theorem e_frz {i k p : Nat} {l : List α} (h : lk G i = some (.loc (B.b + k))) (hp : cs[p]? = some (k, cl_ l)) : E B n G cs (cs.set p (k, .dead)) (eFrzC (eVar i)) s (.ok l s) := fun env r q => by
  have e : eVar i env (B.st s ++ r) = .ok (.loc (B.b + k)) (B.st s ++ r) := by
    unfold eVar
    rw [q.var i _ h]
  refine ⟨r.set k .dead, ?_, q.write hp rfl, .set fun _ => rfl⟩
  unfold eFrzC
  rw [e]
  show (match (B.st s ++ r)[B.b + k]? with
    | some (.lstF xs) => Res.ok (W.f (F.lst xs)) ((B.st s ++ r).set (B.b + k) .dead)
    | some (.dct xs) => Res.ok (W.f (F.dct xs)) ((B.st s ++ r).set (B.b + k) .dead)
    | _ => .stuck) = _
  rw [st_get, q.cell _ _ (List.mem_of_getElem? hp)]
  show Res.ok (W.f (F.lst (l.map En.e))) ((B.st s ++ r).set (B.b + k) .dead) = _
  rw [st_set]
  rfl
/-! ### what is walked -/
theorem i_any {f : α → List β} (hf : ∀ a : α, itemsF (En.e a) = some ((f a).map fun b => w_ b)) (h : E B n G cs cs1 te s o1) : EI B n G cs cs1 (iAny te) s (o1.bind fun a s1 => .ok (f a) s1) := fun env r k => by
  refine (h env r k).bind fun a s1 r1 _ k1 hl => ?_
  refine Rl.mk ?_ k1 hl
  show ofL (itemsF (En.e a)) _ = _
  rw [hf]; rfl
theorem it_lst : ∀ l : List β, itemsF (En.e l) = some (l.map fun b => w_ b) := fun l => by
  show some ((l.map En.e).map W.f) = _
  rw [List.map_map]; rfl
def rgI (lo : Int) (n : Nat) : List Int := (List.range n).map fun i => lo + (i : Nat)
def smI (i : Int) : Bool := inRg 4611686018427387903 i
theorem smI_ok {i : Int} (h : smI i = true) : smallI i = true := by
  unfold smI at h
  rw [inRg_iff] at h
  unfold smallI
  rw [Bool.and_eq_true, decide_eq_true_iff, decide_eq_true_iff]
  omega
@[irreducible] def rg1 (j : Int) (s : σ) : O σ (List Int) := ofO (if smI j = true then some (rgI 0 j.toNat) else none) s
@[irreducible] def rg2 (i j : Int) (s : σ) : O σ (List Int) := ofO (if smI i = true ∧ smI j = true then some (rgI i (j - i).toNat) else none) s
theorem rgI_w (lo : Int) (k : Nat) : rangeW lo 1 k = (rgI lo k).map fun b => w_ b := by
  unfold rangeW rgI
  rw [List.map_map]
  refine List.map_congr_left fun i _ => ?_
  show W.f (F.int (lo + (i : Nat) * 1)) = W.f (F.int (lo + (i : Nat)))
  rw [Int.mul_one]
theorem i_rg1 {o : O σ Int} (h : E B n G cs cs1 te s o) : EI B n G cs cs1 (iRange1 (aCons te aNil)) s (o.bind fun j s1 => rg1 j s1) := fun env r k => by
  have e : iRange1 (aCons te aNil) env (B.st s ++ r) = (te env (B.st s ++ r)).bind fun w st1 => rng1 [w] st1 := by
    unfold iRange1 aCons aNil
    cases te env (B.st s ++ r) <;> rfl
  rw [e]
  refine (h env r k).bind fun j s1 r1 _ k1 hl => ?_
  unfold rg1
  refine Rl.opt (fun l hl' => ?_) k1 hl
  obtain ⟨hs, rfl⟩ := ifSome hl'
  show (if smallI j = true then Res.ok (rangeW 0 1 j.toNat) _ else .stuck) = _
  rw [if_pos (smI_ok hs), rgI_w]
theorem i_rg2 {o : O σ Int} {o' : σ → O σ Int} (h : E B n G cs cs1 ta s o) (h' : ∀ s1, E B n G cs1 cs1 tb s1 (o' s1)) : EI B n G cs cs1 (iRange2 (aCons ta (aCons tb aNil))) s (o.bind fun i s1 => (o' s1).bind fun j s2 => rg2 i j s2) := fun env r k => by
  have e : iRange2 (aCons ta (aCons tb aNil)) env (B.st s ++ r) = (ta env (B.st s ++ r)).bind fun w st1 => (tb env st1).bind fun u st2 => rng2 [w, u] st2 := by
    unfold iRange2 aCons aNil
    cases ta env (B.st s ++ r) with
    | ok w st1 => cases q : tb env st1 <;> simp [aCons, Res.bind, q]
    | exc _ _ _ => rfl
    | stuck => rfl
  rw [e]
  refine (h env r k).bind fun i s1 r1 _ k1 hl => ?_
  refine Rl.up hl ?_
  refine (h' s1 env r1 k1).bind fun j s2 r2 _ k2 hl2 => ?_
  unfold rg2
  refine Rl.opt (fun l hl' => ?_) k2 hl2
  obtain ⟨hs, rfl⟩ := ifSome hl'
  show (if (smallI i && smallI j) = true then Res.ok (rangeW i 1 (j - i).toNat) (B.st s2 ++ r2) else .stuck) = _
  rw [if_pos (by rw [smI_ok hs.1, smI_ok hs.2]; rfl), rgI_w]
theorem d_lst : ∀ l : List β, itemsD (En.e l) = some (l.map En.e) := fun l => rfl
def enI : Nat → List α → List (Int × α)
  | _, [] => []
  | k, x :: xs => ((k : Int), x) :: enI (k + 1) xs
theorem enI_w : ∀ (k : Nat) (l : List α), (enumL k (l.map En.e)).map W.f = (enI k l).map fun p => w_ p
  | _, [] => rfl
  | k, x :: l => by
    simp only [List.map_cons, enumL, enI, enI_w (k + 1) l]
    rfl
theorem i_enum {f : α → List γ} (hf : ∀ a : α, itemsD (En.e a) = some ((f a).map En.e)) (h1 : E B n G cs cs1 ta s o1) : EI B n G cs cs1 (iEnum (aCons ta aNil)) s (o1.bind fun a s1 => .ok (enI 0 (f a)) s1) := fun env r k => by
  have e : iEnum (aCons ta aNil) env (B.st s ++ r) = (ta env (B.st s ++ r)).bind fun w st1 => enumW [w] st1 := by
    unfold iEnum aCons aNil
    cases ta env (B.st s ++ r) <;> rfl
  rw [e]
  refine (h1 env r k).bind fun a s1 r1 _ k1 hl => ?_
  refine Rl.mk ?_ k1 hl
  show (match itemsD (En.e a) with
    | some xs => Res.ok ((enumL 0 xs).map W.f) (B.st s1 ++ r1)
    | _ => .stuck) = _
  rw [hf]
  show Res.ok _ _ = Res.ok _ _
  rw [enI_w]
end
end TL

set_option Elab.async false
set_option linter.all false
set_option maxRecDepth 100000
set_option maxHeartbeats 4000000
set_option autoImplicit false
/-! T3: targets, comprehensions, statements, defs. -/
namespace TL
open VS
open L2 (atI ixN)
section
variable {σ α β γ δ ε R X S : Type} {wr : Wr σ} {B : Bs wr} {n : Nat} {G G' : List (Nat × W)} {cs cs1 cs2 cs3 : List (Nat × Cell)} {env : Env} {s : σ}
/-! ### targets -/
def Holds (G : List (Nat × W)) (env : Env) : Prop := ∀ i w, lk G i = some w → env[i]? = some (some w)
def Tgt [En α] (n : Nat) (g : TGv) (f : α → List (Nat × W)) : Prop := ∀ a env, env.length = n → ∃ env', g (w_ a) env = some env' ∧ env'.length = n ∧ ∀ G, Holds G env → Holds (f a ++ G) env'
theorem holds_set {env : Env} {i : Nat} {w : W} (hi : i < env.length) (h : Holds G env) : Holds ((i, w) :: G) (env.set i (some w)) := fun j u q => by
  unfold lk at q
  cases e : Nat.beq i j with
  | true =>
    rw [e] at q
    cases q
    cases Nat.eq_of_beq_eq_true e
    exact List.getElem?_set_self hi
  | false =>
    rw [e] at q
    have hij : i ≠ j := fun z => by subst z; rw [Nat.beq_refl] at e; cases e
    rw [List.getElem?_set_ne hij]
    exact h j u q
theorem tg_nm [En α] {i : Nat} (hi : i < n) : Tgt (α := α) n (gNm i) fun a => [(i, w_ a)] := fun a env hl =>
  ⟨env.set i (some (w_ a)), rfl, by simp [hl], fun G h => holds_set (by omega) h⟩
theorem tg_2 [En α] [En β] {g1 g2 : TGv} {f1 : α → List (Nat × W)} {f2 : β → List (Nat × W)} (h1 : Tgt n g1 f1) (h2 : Tgt n g2 f2) : Tgt (α := α × β) n (gTp (gsCons g1 (gsCons g2 gsNil))) fun p => f2 p.2 ++ f1 p.1 := fun p env hl => by
  obtain ⟨e1, q1, l1, k1⟩ := h1 p.1 env hl
  obtain ⟨e2, q2, l2, k2⟩ := h2 p.2 e1 l1
  refine ⟨e2, ?_, l2, fun G h => by rw [List.append_assoc]; exact k2 _ (k1 _ h)⟩
  show (g1 (w_ p.1) env).bind (fun env1 => (g2 (w_ p.2) env1).bind fun env2 => some env2) = _
  rw [q1]; show (g2 (w_ p.2) e1).bind _ = _; rw [q2]; rfl
theorem lk_cons (j : Nat) (w : W) (A : List (Nat × W)) (i : Nat) : lk ((j, w) :: A) i = match Nat.beq j i with
    | true => some w
    | false => lk A i := rfl
theorem lk_self (i : Nat) (w : W) (A : List (Nat × W)) : lk ((i, w) :: A) i = some w := by rw [lk_cons, Nat.beq_refl]
theorem lk_append (A C : List (Nat × W)) (i : Nat) : lk (A ++ C) i = match lk A i with
    | some w => some w
    | none => lk C i := by
  induction A with
  | nil => rfl
  | cons p A ih =>
    obtain ⟨j, w⟩ := p
    rw [List.cons_append, lk_cons, lk_cons]
    cases Nat.beq j i with
    | true => rfl
    | false => exact ih
theorem wipeE_len (env : Env) : ∀ vs : List Nat, (wipeE env vs).length = env.length
  | [] => rfl
  | v :: vs => by show ((wipeE env vs).set v none).length = _; rw [List.length_set, wipeE_len env vs]
theorem wipeE_get (env : Env) {i : Nat} : ∀ vs : List Nat, i ∉ vs → (wipeE env vs)[i]? = env[i]?
  | [], _ => rfl
  | v :: vs, h => by
    show ((wipeE env vs).set v none)[i]? = _
    rw [List.getElem?_set_ne (fun z => h (by simp [z])), wipeE_get env vs fun z => h (by simp [z])]
/-- behind a wipe of the names that the target sets -/
theorem tg_wipe [En α] {g : TGv} {f : α → List (Nat × W)} {vs : List Nat} (h : Tgt n g f) (hv : ∀ a, (vs.all fun v => (lk (f a) v).isSome) = true) (a : α) {env : Env} (hl : env.length = n) :
    ∃ env', g (w_ a) (wipeE env vs) = some env' ∧ env'.length = n ∧ ∀ G, Holds G env → Holds (f a ++ G) env' := by
  obtain ⟨env', e, l', k⟩ := h a (wipeE env vs) (by rw [wipeE_len]; exact hl)
  refine ⟨env', e, l', fun G hG i w q => ?_⟩
  rw [lk_append] at q
  cases c : lk (f a) i with
  | some u =>
    rw [c] at q
    have := k [] (fun _ _ z => by cases z) i u (by rw [lk_append, c])
    rw [this, ← q]
  | none =>
    rw [c] at q
    have hni : i ∉ vs := fun hm => by
      have := List.all_eq_true.mp (hv a) i hm
      rw [c] at this; cases this
    refine k [(i, w)] (fun j u z => ?_) i w (by rw [lk_append, c]; exact lk_self i w [])
    rw [lk_cons] at z
    cases c2 : Nat.beq i j with
    | true =>
      rw [c2] at z; cases z
      cases Nat.eq_of_beq_eq_true c2
      rw [wipeE_get env vs hni]; exact hG i w q
    | false => rw [c2] at z; cases z
theorem Ok.holds {b : Nat} {r : Store} (h : Ok b n G cs env r) : Holds G env := h.var
theorem Ok.inE {b : Nat} {r : Store} (h : Ok b n G cs env r) {env' : Env} (hl : env'.length = n) (k : Holds G' env') : Ok b n G' cs env' r := ⟨hl, h.cl, h.nd, h.cell, k⟩
/-! ### comprehensions -/
def lcO (c : β → σ → O σ Bool) (v : β → σ → O σ α) : List β → σ → O σ (List α)
  | [], s => .ok [] s
  | x :: xs, s => (c x s).bind fun b s1 => if b = true then (v x s1).bind fun a s2 => (lcO c v xs s2).bind fun l s3 => .ok (a :: l) s3 else lcO c v xs s1
def mapO (v : β → σ → O σ α) : List β → σ → O σ (List α)
  | [], s => .ok [] s
  | x :: xs, s => (v x s).bind fun a s2 => (mapO v xs s2).bind fun l s3 => .ok (a :: l) s3
@[irreducible] def smL (xs : List β) (s : σ) : O σ (List β) := ofO (if xs.length ≤ 1000000 then some xs else none) s
theorem doCell_acc {B : Bs wr} {s : σ} {r : Store} {acc : List F} {x : F} (hl : acc.length < 1000000) : doCell cAppend (B.b + r.length) [.f x] (B.st s ++ (r ++ [.lstF acc])) = .ok (.f .non) (B.st s ++ (r ++ [.lstF (acc ++ [x])])) := by
  have h := doCell_app (st := B.st s ++ r) (acc := acc) (x := x) hl
  rw [st_len] at h
  rw [← List.append_assoc, h, List.append_assoc]
theorem Ok.split {b : Nat} {G : List (Nat × W)} {env : Env} {r : Store} {k : Nat} {c : Cell} (h : Ok b n G ((k, c) :: cs) env r) (hl : r.length = k + 1) : ∃ r0, r = r0 ++ [c] ∧ r0.length = k ∧ (clean (b + k) r0 = true → Ok b n G cs env r0) := by
  have e := h.cell k c (by simp)
  obtain ⟨hk, e⟩ := List.getElem?_eq_some_iff.mp e
  refine ⟨r.take k, ?_, by simp; omega, fun hcl => ?_⟩
  · apply List.ext_getElem?
    intro j
    by_cases hj : j < k
    · rw [List.getElem?_append_left (by simp; omega), List.getElem?_take_of_lt hj]
    · by_cases hj2 : j = k
      · subst hj2
        rw [List.getElem?_append_right (by simp; omega)]
        simp [hk, e, Nat.min_eq_left (Nat.le_of_lt hk)]
      · rw [List.getElem?_eq_none (by omega), List.getElem?_eq_none (by simp; omega)]
  · have hnd := h.nd
    rw [List.map_cons, List.nodup_cons] at hnd
    refine ⟨h.len, by rw [List.length_take, Nat.min_eq_left (by omega)]; exact hcl, hnd.2, fun j d q => ?_, h.var⟩
    have hj : j ≠ k := fun z => hnd.1 (List.mem_map.mpr ⟨(j, d), q, z⟩)
    have hd := h.cell j d (by simp [q])
    have hjl := (List.getElem?_eq_some_iff.mp hd).1
    rw [List.getElem?_take_of_lt (by omega)]
    exact hd
/-- a change above keeps the part below -/
theorem Ok.below {b : Nat} {G G' : List (Nat × W)} {env env' : Env} {r : Store} {k : Nat} {acc acc' : List F} {q : Store} (h : Ok b n G cs env r) (hk : k = r.length) (h2 : Ok b n G' ((k, .lstF acc') :: cs) env' q) (p : Pr (r ++ [.lstF acc]) q) :
    ∃ r1, q = r1 ++ [.lstF acc'] ∧ Pr r r1 ∧ Ok b n G' cs env' r1 := by
  subst hk
  obtain ⟨r1, e, l1, k1⟩ := h2.split (by rw [p.len]; simp)
  subst e
  have pc : ∀ c, clean c r = true → clean c r1 = true := fun c hc => by
    have z := p.cl c (by unfold clean; rw [List.all_append, Bool.and_eq_true]; exact ⟨hc, rfl⟩)
    unfold clean at z
    rw [List.all_append, Bool.and_eq_true] at z
    exact z.1
  exact ⟨r1, rfl, ⟨l1, pc⟩, k1 (pc _ h.cl)⟩
theorem lc_run [En α] [En β] {g : TGv} {tt : TTv} {te : TEv} {vs : List Nat} {f : β → List (Nat × W)} {c : β → σ → O σ Bool} {v : β → σ → O σ α} (hg : Tgt n g f) (hv : ∀ a, (vs.all fun v => (lk (f a) v).isSome) = true)
    (ht : ∀ x s k acc, ET B n (f x ++ G) ((k, .lstF acc) :: cs) ((k, .lstF acc) :: cs) tt s (c x s)) (he : ∀ x s k acc, E B n (f x ++ G) ((k, .lstF acc) :: cs) ((k, .lstF acc) :: cs) te s (v x s)) {env : Env} :
    ∀ (xs : List β) (acc : List α) (s : σ) (r : Store), acc.length + xs.length ≤ 1000000 → Ok B.b n G cs env r → match lcO c v xs s with
      | .ok l s' => ∃ r', lcL g tt te (B.b + r.length) (wipeE env vs) (xs.map fun b => w_ b) (B.st s ++ (r ++ [cl_ acc])) = .ok (.loc (B.b + r.length)) (B.st s' ++ (r' ++ [cl_ (acc ++ l)])) ∧ Ok B.b n G cs env r' ∧ Pr r r'
      | .ex e fs s' => ∃ r', lcL g tt te (B.b + r.length) (wipeE env vs) (xs.map fun b => w_ b) (B.st s ++ (r ++ [cl_ acc])) = .exc e fs (B.st s' ++ r') ∧ clean (B.b + r'.length) r' = true
      | .no => True
  | [], acc, s, r, _, k => ⟨r, by simp [lcL], k, .refl⟩
  | x :: xs, acc, s, r, hl, k => by
    have ih := fun (acc' : List α) (s' : σ) (r' : Store) (hl' : acc'.length + xs.length ≤ 1000000) (k' : Ok B.b n G cs env r') => lc_run hg hv ht he xs acc' s' r' hl' k'
    simp only [List.length_cons] at hl
    obtain ⟨env', e, l', kk⟩ := tg_wipe hg hv x k.len
    have ok1 : Ok B.b n (f x ++ G) ((r.length, cl_ acc) :: cs) env' (r ++ [cl_ acc]) := (k.new (c := cl_ acc) rfl).inE l' (kk G k.var)
    have hstep : ∀ st, lcL g tt te (B.b + r.length) (wipeE env vs) ((x :: xs).map fun b => w_ b) st = (tt env' st).bind fun b st1 => if b = true then (te env' st1).bind fun y st2 => (doCell cAppend (B.b + r.length) [y] st2).bind fun _ st3 => lcL g tt te (B.b + r.length) (wipeE env vs) (xs.map fun b => w_ b) st3 else lcL g tt te (B.b + r.length) (wipeE env vs) (xs.map fun b => w_ b) st1 := fun st => by
      rw [List.map_cons, lcL, e]
    rw [hstep]
    unfold lcO
    have q1 := ht x s r.length (acc.map En.e) env' (r ++ [cl_ acc]) ok1
    cases e1 : c x s with
    | no => trivial
    | ex d fs s1 => rw [e1] at q1; obtain ⟨r1, z, k1⟩ := q1; rw [z]; exact ⟨r1, rfl, k1.cl⟩
    | ok b s1 =>
      rw [e1] at q1
      obtain ⟨q, z, k1, p1⟩ := q1
      rw [z]
      simp only [Res.bind, O.bind]
      cases b with
      | false =>
        obtain ⟨r1, rfl, p2, k2⟩ := Ok.below k rfl k1 p1
        have i := ih acc s1 r1 (by omega) (k2.inE k.len k.var)
        simp only [Bool.false_eq_true, if_false]
        rw [p2.len] at i
        cases e2 : lcO c v xs s1 with
        | no => trivial
        | ex d fs s2 => simp only [e2] at i; exact i
        | ok l s2 => simp only [e2] at i; obtain ⟨r', y, k3, p3⟩ := i; exact ⟨r', y, k3, p2.trans p3⟩
      | true =>
        simp only [if_true]
        have q2 := he x s1 r.length (acc.map En.e) env' q k1
        cases e2 : v x s1 with
        | no => trivial
        | ex d fs s2 => rw [e2] at q2; obtain ⟨r1, z2, k2⟩ := q2; rw [z2]; exact ⟨r1, rfl, k2.cl⟩
        | ok a s2 =>
          rw [e2] at q2
          obtain ⟨q', z2, k2, p2⟩ := q2
          rw [z2]
          obtain ⟨r1, rfl, p3, k3⟩ := Ok.below k rfl k2 (p1.trans p2)
          simp only
          rw [← p3.len, show w_ a = W.f (En.e a) from rfl, doCell_acc (by simp; omega)]
          have i := ih (acc ++ [a]) s2 r1 (by simp; omega) (k3.inE k.len k.var)
          have ec : (acc.map En.e ++ [En.e a] : List F) = (acc ++ [a]).map En.e := by simp
          simp only
          rw [ec]
          cases e3 : lcO c v xs s2 with
          | no => trivial
          | ex d fs s3 => simp only [e3] at i; exact i
          | ok l s3 =>
            simp only [e3] at i
            obtain ⟨r', y, k4, p4⟩ := i
            refine ⟨r', ?_, k4, p3.trans p4⟩
            rw [y]
            simp
/-- a list that is made, as the last cell -/
def EC [En α] (B : Bs wr) (n : Nat) (G : List (Nat × W)) (cs cs' : List (Nat × Cell)) (t : TEv) (s : σ) (o : O σ (List α)) : Prop := ∀ env r, Ok B.b n G cs env r → match o with
  | .ok l s' => ∃ r', t env (B.st s ++ r) = .ok (.loc (B.b + r'.length)) (B.st s' ++ (r' ++ [cl_ l])) ∧ Ok B.b n G cs' env r' ∧ Pr r r'
  | .ex c fs s' => ∃ r', t env (B.st s ++ r) = .exc c fs (B.st s' ++ r') ∧ Ok B.b n G [] env r'
  | .no => True
theorem Ok.exc {b : Nat} {G : List (Nat × W)} {cs : List (Nat × Cell)} {env : Env} {r r' : Store} (h : Ok b n G cs env r) (hc : clean (b + r'.length) r' = true) : Ok b n G [] env r' := ⟨h.len, hc, List.nodup_nil, (fun _ _ q => nomatch q), h.var⟩
theorem c_lc [En α] [En β] {ti : TIv} {g : TGv} {tt : TTv} {te : TEv} {vs : List Nat} {f : β → List (Nat × W)} {c : β → σ → O σ Bool} {v : β → σ → O σ α} {oi : O σ (List β)} (hi : EI B n G cs cs1 ti s oi) (hg : Tgt n g f) (hv : ∀ a, (vs.all fun v => (lk (f a) v).isSome) = true)
    (ht : ∀ x s k acc, ET B n (f x ++ G) ((k, .lstF acc) :: cs1) ((k, .lstF acc) :: cs1) tt s (c x s)) (he : ∀ x s k acc, E B n (f x ++ G) ((k, .lstF acc) :: cs1) ((k, .lstF acc) :: cs1) te s (v x s)) :
    EC B n G cs cs1 (eLc ti g tt te vs) s (oi.bind fun xs s1 => (smL xs s1).bind fun xs s2 => lcO c v xs s2) := fun env r k => by
  have q := hi env r k
  unfold eLc
  cases oi with
  | no => trivial
  | ex d fs s1 => obtain ⟨r1, z, k1⟩ := q; rw [z]; exact ⟨r1, rfl, k1⟩
  | ok xs s1 =>
    obtain ⟨r1, z, k1, p1⟩ := q
    rw [z]
    simp only [O.bind, Res.bind]
    unfold smL
    by_cases hl : xs.length ≤ 1000000
    · simp only [if_pos hl, ofO]
      have y := lc_run hg hv ht he xs [] s1 r1 (by simpa using hl) k1
      rw [st_len, List.append_assoc]
      cases e : lcO c v xs s1 with
      | no => trivial
      | ex d fs s2 => simp only [e] at y; obtain ⟨r2, y1, y2⟩ := y; exact ⟨r2, y1, k1.exc y2⟩
      | ok l s2 =>
        simp only [e] at y
        obtain ⟨r2, y1, k2, p2⟩ := y
        refine ⟨r2, ?_, k2, p1.trans p2⟩
        rw [p2.len]
        exact y1
    · simp only [if_neg hl, ofO]
theorem frz_top {B : Bs wr} {s s' : σ} {r r' : Store} {l : List F} (k : Ok B.b n G cs env r') (p : Pr r r') : frz (B.st s ++ r).length (.loc (B.b + r'.length)) (B.st s' ++ (r' ++ [.lstF l])) = .ok (.f (.lst l)) (B.st s' ++ r') := by
  have h := frz_lst (k.Cl s') l
  rw [st_len] at h ⊢
  rw [← p.len, ← List.append_assoc]
  exact h
/-- frozen at once -/
theorem c_frz [En α] {t : TEv} {o : O σ (List α)} (h : EC B n G cs cs1 t s o) : E B n G cs cs1 (eFrz t) s o := fun env r k => by
  have q := h env r k
  show Rl _ _ _ _ _ _ _ ((t env (B.st s ++ r)).bind _) o
  cases o with
  | no => trivial
  | ex c fs s1 => obtain ⟨r1, z, k1⟩ := q; rw [z]; exact ⟨r1, rfl, k1⟩
  | ok l s1 =>
    obtain ⟨r1, z, k1, p⟩ := q
    rw [z]
    refine ⟨r1, ?_, k1, p⟩
    show frz _ _ _ = _
    rw [frz_top k1 p]
    rfl
theorem lcO_map (v : β → σ → O σ α) : ∀ (xs : List β) (s : σ), lcO (fun _ s => .ok true s) v xs s = mapO v xs s
  | [], _ => rfl
  | x :: xs, s => by
    show (v x s).bind (fun a s2 => (lcO _ v xs s2).bind fun l s3 => .ok (a :: l) s3) = (v x s).bind fun a s2 => (mapO v xs s2).bind fun l s3 => .ok (a :: l) s3
    congr 1
    funext a s2
    rw [lcO_map v xs s2]
theorem lcO_tot (c : β → Bool) (v : β → α) : ∀ (xs : List β) (s : σ), lcO (fun x s => .ok (c x) s) (fun x s => .ok (v x) s) xs s = .ok ((xs.filter c).map v) s
  | [], _ => rfl
  | x :: xs, s => by
    unfold lcO
    simp only [O.bind, lcO_tot c v xs s]
    cases h : c x with
    | true => simp [h]
    | false => simp [h]
theorem lcO_totM (v : β → α) : ∀ (xs : List β) (s : σ), lcO (fun _ s => .ok true s) (fun x s => .ok (v x) s) xs s = .ok (xs.map v) s
  | [], _ => rfl
  | x :: xs, s => by
    unfold lcO
    simp only [O.bind, lcO_totM v xs s]
    simp
variable {α' : Type}
theorem c_map [En α] [En β] {ti : TIv} {g : TGv} {te : TEv} {vs : List Nat} {f : β → List (Nat × W)} {v : β → σ → O σ α} {oi : O σ (List β)} (hi : EI B n G cs cs1 ti s oi) (hg : Tgt n g f) (hv : ∀ a, (vs.all fun v => (lk (f a) v).isSome) = true)
    (he : ∀ x s k acc, E B n (f x ++ G) ((k, .lstF acc) :: cs1) ((k, .lstF acc) :: cs1) te s (v x s)) :
    EC B n G cs cs1 (eLc ti g tYesV te vs) s (oi.bind fun xs s1 => (smL xs s1).bind fun xs s2 => mapO v xs s2) := by
  have h := c_lc (c := fun _ s => .ok true s) hi hg hv (fun x s k acc env r q => Rl.mk rfl q .refl) he
  simp only [lcO_map] at h
  exact h
theorem c_lcT [En α] [En β] {ti : TIv} {g : TGv} {tt : TTv} {te : TEv} {vs : List Nat} {f : β → List (Nat × W)} {c : β → Bool} {v : β → α} {oi : O σ (List β)} (hi : EI B n G cs cs1 ti s oi) (hg : Tgt n g f) (hv : ∀ a, (vs.all fun v => (lk (f a) v).isSome) = true)
    (ht : ∀ x s k acc, ET B n (f x ++ G) ((k, .lstF acc) :: cs1) ((k, .lstF acc) :: cs1) tt s (.ok (c x) s)) (he : ∀ x s k acc, E B n (f x ++ G) ((k, .lstF acc) :: cs1) ((k, .lstF acc) :: cs1) te s (.ok (v x) s)) :
    EC B n G cs cs1 (eLc ti g tt te vs) s (oi.bind fun xs s1 => (smL xs s1).bind fun xs s2 => .ok ((xs.filter c).map v) s2) := by
  have h := c_lc (c := fun x s => .ok (c x) s) (v := fun x s => .ok (v x) s) hi hg hv ht he
  simp only [lcO_tot] at h
  exact h
theorem c_mapT [En α] [En β] {ti : TIv} {g : TGv} {te : TEv} {vs : List Nat} {f : β → List (Nat × W)} {v : β → α} {oi : O σ (List β)} (hi : EI B n G cs cs1 ti s oi) (hg : Tgt n g f) (hv : ∀ a, (vs.all fun v => (lk (f a) v).isSome) = true)
    (he : ∀ x s k acc, E B n (f x ++ G) ((k, .lstF acc) :: cs1) ((k, .lstF acc) :: cs1) te s (.ok (v x) s)) :
    EC B n G cs cs1 (eLc ti g tYesV te vs) s (oi.bind fun xs s1 => (smL xs s1).bind fun xs s2 => .ok (xs.map v) s2) := by
  have h := c_lc (c := fun _ s => .ok true s) (v := fun x s => .ok (v x) s) hi hg hv (fun x s k acc env r q => Rl.mk rfl q .refl) he
  simp only [lcO_totM] at h
  exact h
theorem c_lst [En α] {tr : TAv} {q : (β : Type) → (List α → σ → O σ β) → O σ β} (h : EA B n G cs cs1 tr s q) : EC B n G cs cs1 (eLstM tr) s (q _ fun l s1 => lstO l s1) := fun env r k => by
  obtain ⟨ol, h, hq⟩ := h
  rw [hq]
  have q := h env r k
  unfold eLstM
  cases ol with
  | no => trivial
  | ex c fs s1 => obtain ⟨r1, z, k1⟩ := q; rw [z]; exact ⟨r1, rfl, k1⟩
  | ok l s1 =>
    obtain ⟨r1, z, k1, p⟩ := q
    rw [z]
    simp only [O.bind, Res.bind]
    unfold lstO
    by_cases hs : small l.length = true
    · simp only [if_pos hs, ofO]
      refine ⟨r1, ?_, k1, p⟩
      rw [if_pos (by show small (l.map fun a => w_ a).length = true; rw [List.length_map]; exact hs), st_len, List.append_assoc]
      unfold cellOf
      rw [show allF (Ar.ws l) = _ from allF_w l]
    · simp only [if_neg hs, ofO]
end
end TL

set_option Elab.async false
set_option linter.all false
set_option maxRecDepth 100000
set_option maxHeartbeats 4000000
set_option autoImplicit false
/-! T4: statements and defs. -/
namespace TL
open VS
open L2 (atI ixN)
inductive Fl (S R : Type) where
  | nx (s : S) | bk (s : S) | rt (r : R)
section
variable {σ α β γ δ R X S A : Type} {wr : Wr σ}
/-- a block: what it comes to -/
def J (B : Bs wr) (n : Nat) (K : X → σ → SR → Prop) (G : List (Nat × W)) (cs : List (Nat × Cell)) (t : TSv) (s : σ) (o : O σ X) : Prop := ∀ env r, Ok B.b n G cs env r → match o with
  | .ok x s' => K x s' (t env (B.st s ++ r))
  | .ex c fs s' => ∃ r', t env (B.st s ++ r) = .exc c fs (B.st s' ++ r') ∧ clean (B.b + r'.length) r' = true
  | .no => True
/-- a def's body -/
def Kfn [En R] (B : Bs wr) : R → σ → SR → Prop := fun x s sr => (∃ r', sr = .rt (w_ x) (B.st s ++ r')) ∨ ((En.e x : F) = .non ∧ ∃ env' r', sr = .nx env' (B.st s ++ r'))
/-- a join: the names and cells that go on -/
def Kj (B : Bs wr) (n : Nat) (oG : S → List (Nat × W)) (oC : S → List (Nat × Cell)) : S → σ → SR → Prop := fun v s sr => ∃ env' r', sr = .nx env' (B.st s ++ r') ∧ Ok B.b n (oG v) (oC v) env' r'
/-- a loop's body without break and return -/
def Ks (B : Bs wr) (n : Nat) (oG : S → List (Nat × W)) (oC : S → List (Nat × Cell)) : S → σ → SR → Prop := fun v s sr => ∃ env' r', (sr = .nx env' (B.st s ++ r') ∨ sr = .ct env' (B.st s ++ r')) ∧ Ok B.b n (oG v) (oC v) env' r'
/-- a loop's body -/
def Kl [En R] (B : Bs wr) (n : Nat) (oG : S → List (Nat × W)) (oC : S → List (Nat × Cell)) : Fl S R → σ → SR → Prop := fun x s sr => match x with
  | .nx v => ∃ env' r', (sr = .nx env' (B.st s ++ r') ∨ sr = .ct env' (B.st s ++ r')) ∧ Ok B.b n (oG v) (oC v) env' r'
  | .bk v => ∃ env' r', sr = .bk env' (B.st s ++ r') ∧ Ok B.b n (oG v) (oC v) env' r'
  | .rt a => ∃ r', sr = .rt (w_ a) (B.st s ++ r')
def KT (K : X → σ → SR → Prop) : X → σ → SR → Prop := fun x s sr => K x s sr ∧ ∀ env st, sr ≠ .nx env st
/-- what K takes for a return -/
def RetK [En α] (B : Bs wr) (K : X → σ → SR → Prop) (f : α → X) : Prop := ∀ a s r, K (f a) s (.rt (w_ a) (B.st s ++ r))
theorem ret_fn [En R] {B : Bs wr} : RetK B (Kfn (R := R) B) (fun a : R => a) := fun a s r => .inl ⟨r, rfl⟩
theorem ret_l [En R] {B : Bs wr} {n : Nat} {oG : S → List (Nat × W)} {oC : S → List (Nat × Cell)} : RetK B (Kl (R := R) B n oG oC) (fun a : R => Fl.rt a) := fun a s r => ⟨r, rfl⟩
theorem ret_t [En α] {B : Bs wr} {K : X → σ → SR → Prop} {f : α → X} (h : RetK B K f) : RetK B (KT K) f := fun a s r => ⟨h a s r, fun _ _ => nofun⟩
/-- what K takes for an end -/
def EndK (B : Bs wr) (n : Nat) (K : X → σ → SR → Prop) (G : List (Nat × W)) (cs : List (Nat × Cell)) (x : X) : Prop := ∀ env r s, Ok B.b n G cs env r → K x s (.nx env (B.st s ++ r))
variable {B : Bs wr} {n : Nat} {G G' : List (Nat × W)} {cs cs1 cs2 cs3 : List (Nat × Cell)} {s : σ} {K : X → σ → SR → Prop} {oG : S → List (Nat × W)} {oC : S → List (Nat × Cell)} {rest t t1 t2 : TSv} {ta tb te : TEv} {wa : TTv} {tr : TAv}
theorem end_j {v : S} (h : Sub (oG v) G) (hc : (oC v).Sublist cs) : EndK B n (Kj B n oG oC) G cs v := fun env r s k => ⟨env, r, rfl, k.sub h hc⟩
theorem end_s {v : S} (h : Sub (oG v) G) (hc : (oC v).Sublist cs) : EndK B n (Ks B n oG oC) G cs v := fun env r s k => ⟨env, r, .inl rfl, k.sub h hc⟩
theorem end_l [En R] {v : S} (h : Sub (oG v) G) (hc : (oC v).Sublist cs) : EndK B n (Kl (R := R) B n oG oC) G cs (.nx v) := fun env r s k => ⟨env, r, .inl rfl, k.sub h hc⟩
/-! a statement whose value is had goes on -/
def RlS (B : Bs wr) (K : X → σ → SR → Prop) (sr : SR) (o : O σ X) : Prop := match o with
  | .ok x s' => K x s' sr
  | .ex c fs s' => ∃ r', sr = .exc c fs (B.st s' ++ r') ∧ clean (B.b + r'.length) r' = true
  | .no => True
theorem Rl.thenS {α β : Type} {env : Env} {r0 : Store} {f : α → β} {x : Res β} {o : O σ α} {k : β → Store → SR} {k' : α → σ → O σ X} (h : Rl B n G cs1 env r0 f x o)
    (hk : ∀ a s' r', o = .ok a s' → Ok B.b n G cs1 env r' → Pr r0 r' → RlS B K (k (f a) (B.st s' ++ r')) (k' a s')) : RlS B K (x.thenS k) (o.bind k') := by
  cases o with
  | ok a s' =>
    obtain ⟨r', rfl, ok, hl⟩ := h
    exact hk a s' r' rfl ok hl
  | ex c fs s' => obtain ⟨r', rfl, ok⟩ := h; exact ⟨r', rfl, ok.cl⟩
  | no => trivial
theorem J.at_ {o : O σ X} (h : J B n K G cs t s o) {env : Env} {r : Store} (k : Ok B.b n G cs env r) : RlS B K (t env (B.st s ++ r)) o := h env r k
theorem J.of {o : O σ X} (h : ∀ env r, Ok B.b n G cs env r → RlS B K (t env (B.st s ++ r)) o) : J B n K G cs t s o := h
theorem j_last {o : O σ X} (h : J B n K G cs (bCons t bNil) s o) : J B n K G cs t s o := fun env r k => by
  have q := h env r k
  have e : bCons t bNil env (B.st s ++ r) = t env (B.st s ++ r) := by
    unfold bCons bNil
    cases t env (B.st s ++ r) <;> rfl
  rw [e] at q
  exact q
theorem j_end {x : X} (h : EndK B n K G cs x) : J B n K G cs bNil s (.ok x s) := fun env r k => h env r s k
/-- a block that never ends normally, and what stands behind it -/
theorem j_term {o : O σ X} (h : J B n (KT K) G cs t s o) : J B n K G cs (bCons t rest) s o := fun env r k => by
  have q := h env r k
  unfold bCons
  cases o with
  | no => trivial
  | ex c fs s' => obtain ⟨r', e, c⟩ := q; rw [e]; exact ⟨r', rfl, c⟩
  | ok x s' =>
    obtain ⟨q1, q2⟩ := q
    cases e : t env (B.st s ++ r) with
    | nx e1 s1 => exact absurd e (q2 e1 s1)
    | _ => rw [e] at q1; exact q1
theorem j_nil {o : O σ X} (h : J B n K G cs rest s o) : J B n K G cs (bCons bNil rest) s o := h
theorem j_ret [En α] {o : O σ α} {f : α → X} (hK : RetK B K f) (h : E B n G cs cs1 te s o) : J B n K G cs (bCons (sRet te) rest) s (o.bind fun a s1 => .ok (f a) s1) := fun env r k => by
  have q : RlS B K (sRet te env (B.st s ++ r)) (o.bind fun a s1 => .ok (f a) s1) := (h env r k).thenS fun a s1 r1 _ k1 p1 => hK a s1 r1
  unfold bCons
  cases o with
  | no => trivial
  | ex c fs s' => obtain ⟨r', e, c⟩ := q; rw [e]; exact ⟨r', rfl, c⟩
  | ok x s' =>
    obtain ⟨r', e, k', p⟩ := h env r k
    have e2 : sRet te env (B.st s ++ r) = .rt (w_ x) (B.st s' ++ r') := by unfold sRet; rw [e]; rfl
    rw [e2]
    exact hK x s' r'
theorem j_never : J B n K G cs t s .no := fun _ _ _ => trivial
/-! assignments -/
theorem j_set [En α] {i : Nat} {o : O σ α} {k : α → σ → O σ X} (hi : i < n) (h : E B n G cs cs1 te s o) (hr : ∀ a s1, J B n K ((i, w_ a) :: G) cs1 rest s1 (k a s1)) : J B n K G cs (bCons (sSet i te) rest) s (o.bind k) := fun env r q => by
  have e : bCons (sSet i te) rest env (B.st s ++ r) = (te env (B.st s ++ r)).thenS fun w st1 => rest (env.set i (some w)) st1 := by
    unfold bCons sSet
    cases te env (B.st s ++ r) <;> rfl
  rw [e]
  exact (h env r q).thenS fun a s1 r1 _ k1 p1 => hr a s1 _ _ (k1.set hi _)
theorem j_setC [En α] {i : Nat} {o : O σ (List α)} {k : List α → σ → O σ X} (hi : i < n) (h : EC B n G cs cs1 te s o) (hr : ∀ c a s1, J B n K ((i, .loc (B.b + c)) :: G) ((c, cl_ a) :: cs1) rest s1 (k a s1)) : J B n K G cs (bCons (sSet i te) rest) s (o.bind k) := fun env r q => by
  have z := h env r q
  have e : bCons (sSet i te) rest env (B.st s ++ r) = (te env (B.st s ++ r)).thenS fun w st1 => rest (env.set i (some w)) st1 := by
    unfold bCons sSet
    cases te env (B.st s ++ r) <;> rfl
  rw [e]
  cases o with
  | no => trivial
  | ex c fs s' => obtain ⟨r', e, k'⟩ := z; rw [e]; exact ⟨r', rfl, k'.cl⟩
  | ok l s1 =>
    obtain ⟨r1, e, k1, p1⟩ := z
    rw [e]
    exact hr r1.length l s1 _ _ ((k1.new rfl).set hi _)
theorem j_asg [En α] {g : TGv} {f : α → List (Nat × W)} {o : O σ α} {k : α → σ → O σ X} (hg : Tgt n g f) (h : E B n G cs cs1 te s o) (hr : ∀ a s1, J B n K (f a ++ G) cs1 rest s1 (k a s1)) : J B n K G cs (bCons (sAsg te g) rest) s (o.bind k) := fun env r q => by
  have e : bCons (sAsg te g) rest env (B.st s ++ r) = (te env (B.st s ++ r)).thenS fun w st1 => match g w env with
      | some env1 => rest env1 st1
      | none => .stuck := by
    unfold bCons sAsg
    cases te env (B.st s ++ r) with
    | ok w st1 => simp only [Res.thenS]; cases g w env <;> rfl
    | _ => rfl
  rw [e]
  refine (h env r q).thenS fun a s1 r1 _ k1 p1 => ?_
  obtain ⟨env', e2, l2, kk⟩ := hg a env k1.len
  rw [e2]
  exact hr a s1 _ _ (k1.inE l2 (kk G k1.var))
/-! lists that change -/
@[irreducible] def appO [En α] (l : List α) (a : α) (s : σ) : O σ (List α) := ofO (if small (l.length + 1) = true then some (l ++ [a]) else none) s
@[irreducible] def extO [En α] (l : List α) (a : List α) (s : σ) : O σ (List α) := ofO (if small (l.length + a.length) = true then some (l ++ a) else none) s
theorem j_app [En α] {i k p : Nat} {l : List α} {o : O σ α} {kk : List α → σ → O σ X} (hv : lk G i = some (.loc (B.b + k))) (h : E B n G cs cs1 te s o) (hc0 : (k, cl_ l) ∈ cs) (hp : cs1[p]? = some (k, cl_ l)) (hr : ∀ l' s1, J B n K G (cs1.set p (k, cl_ l')) rest s1 (kk l' s1)) :
    J B n K G cs (bCons (sExpr (eMut false cAppend (eVar i) (aCons te aNil))) rest) s (o.bind fun a s1 => (appO l a s1).bind kk) := fun env r q => by
  have ev : eVar i env (B.st s ++ r) = .ok (.loc (B.b + k)) (B.st s ++ r) := by
    unfold eVar
    rw [q.var i _ hv]
  have e : bCons (sExpr (eMut false cAppend (eVar i) (aCons te aNil))) rest env (B.st s ++ r) = (te env (B.st s ++ r)).thenS fun w st1 => (doCell cAppend (B.b + k) [w] st1).thenS fun _ st2 => rest env st2 := by
    unfold bCons sExpr eMut aCons aNil
    rw [ev]
    simp only [Res.bind]
    rw [if_pos (by rw [st_get, q.cell _ _ hc0]; rfl)]
    cases te env (B.st s ++ r) with
    | ok w st1 =>
      simp only [Res.bind, Res.thenS]
      cases doCell cAppend (B.b + k) [w] st1 <;> rfl
    | _ => rfl
  rw [e]
  refine (h env r q).thenS fun a s1 r1 _ k1 p1 => ?_
  unfold appO
  by_cases hs : small (l.length + 1) = true
  · rw [if_pos hs]
    have e2 : doCell cAppend (B.b + k) [w_ a] (B.st s1 ++ r1) = .ok (.f .non) (B.st s1 ++ r1.set k (cl_ (l ++ [a]))) := by
      unfold doCell
      rw [st_get, k1.cell _ _ (List.mem_of_getElem? hp)]
      show (match (if small ((l.map En.e).length + 1) = true then some (W.f .non, Cell.lstF (l.map En.e ++ [En.e a])) else none) with
        | some (w, c') => Res.ok w ((B.st s1 ++ r1).set (B.b + k) c')
        | none => .stuck) = _
      rw [if_pos (by rw [List.length_map]; exact hs)]
      show Res.ok (W.f .non) ((B.st s1 ++ r1).set (B.b + k) (Cell.lstF (l.map En.e ++ [En.e a]))) = _
      rw [st_set]
      simp [cl_]
    rw [e2]
    exact hr (l ++ [a]) s1 _ _ (k1.write hp rfl)
  · rw [if_neg hs]; trivial
@[irreducible] def setO [En α] (l : List α) (i : Int) (a : α) (s : σ) : O σ (List α) := ofO ((ixN l.length i).map fun j => l.set j a) s
/-! if -/
theorem ifD {env : Env} {st : Store} : bCons (sIf wa t1 t2) rest env st = (wa env st).thenS fun b st1 => if b = true then bCons t1 rest env st1 else bCons t2 rest env st1 := by
  unfold bCons sIf
  cases wa env st with
  | ok b st1 => cases b <;> rfl
  | _ => rfl
theorem j_if {o : O σ Bool} {o1 o2 : σ → O σ X} (hc : ET B n G cs cs1 wa s o) (h1 : ∀ s1, J B n K G cs1 (bCons t1 rest) s1 (o1 s1)) (h2 : ∀ s1, J B n K G cs1 (bCons t2 rest) s1 (o2 s1)) : J B n K G cs (bCons (sIf wa t1 t2) rest) s (o.bind fun b s1 => if b = true then o1 s1 else o2 s1) := fun env r q => by
  rw [ifD]
  refine (hc env r q).thenS fun b s1 r1 _ k1 p1 => ?_
  cases b with
  | true => exact h1 s1 env r1 k1
  | false => exact h2 s1 env r1 k1
/-- a block, then the rest of what goes on -/
theorem j_seq {o : O σ S} {k : S → σ → O σ X} (h : J B n (Kj B n oG oC) G cs t s o) (hr : ∀ v s1, J B n K (oG v) (oC v) rest s1 (k v s1)) : J B n K G cs (bCons t rest) s (o.bind k) := fun env r q => by
  have z := h env r q
  unfold bCons
  cases o with
  | no => trivial
  | ex c fs s' => obtain ⟨r', e, k'⟩ := z; rw [e]; exact ⟨r', rfl, k'⟩
  | ok v s1 =>
    obtain ⟨env', r', e, k'⟩ := z
    rw [e]
    exact hr v s1 env' r' k'
/-- both ways go on -/
theorem j_ifJ {o : O σ Bool} {o1 o2 : σ → O σ S} {k : S → σ → O σ X} (hc : ET B n G cs cs1 wa s o) (h1 : ∀ s1, J B n (Kj B n oG oC) G cs1 t1 s1 (o1 s1)) (h2 : ∀ s1, J B n (Kj B n oG oC) G cs1 t2 s1 (o2 s1)) (hr : ∀ v s1, J B n K (oG v) (oC v) rest s1 (k v s1)) :
    J B n K G cs (bCons (sIf wa t1 t2) rest) s (o.bind fun b s1 => (if b = true then o1 s1 else o2 s1).bind k) := fun env r q => by
  rw [ifD]
  refine (hc env r q).thenS fun b s1 r1 _ k1 p1 => ?_
  cases b with
  | true => exact j_seq (h1 s1) hr env r1 k1
  | false => exact j_seq (h2 s1) hr env r1 k1
/-! loops -/
def foldO (body : β → S → σ → O σ S) : List β → S → σ → O σ S
  | [], v, s => .ok v s
  | x :: xs, v, s => (body x v s).bind fun v1 s1 => foldO body xs v1 s1
def forO (body : β → S → σ → O σ (Fl S R)) : List β → S → σ → O σ (Fl S R)
  | [], v, s => .ok (.nx v) s
  | x :: xs, v, s => (body x v s).bind fun y s1 => match y with
    | .nx v1 => forO body xs v1 s1
    | .bk v1 => .ok (.nx v1) s1
    | .rt a => .ok (.rt a) s1
def flB (k : S → σ → O σ X) (f : R → X) : Fl S R → σ → O σ X := fun y s => match y with
  | .nx v => k v s
  | .bk v => k v s
  | .rt a => .ok (f a) s
theorem for_run [En β] {g : TGv} {f : β → List (Nat × W)} {body : β → S → σ → O σ S} (hg : Tgt n g f) (hb : ∀ x v s, J B n (Ks B n oG oC) (f x ++ oG v) (oC v) t s (body x v s)) :
    ∀ (xs : List β) (v : S) (s : σ), J B n (Kj B n oG oC) (oG v) (oC v) (forL g t (xs.map fun b => w_ b)) s (foldO body xs v s)
  | [], v, s => fun env r k => ⟨env, r, rfl, k⟩
  | x :: xs, v, s => fun env r k => by
    have ih := for_run hg hb xs
    obtain ⟨env', e, l', kk⟩ := hg x env k.len
    have k1 : Ok B.b n (f x ++ oG v) (oC v) env' r := k.inE l' (kk _ k.var)
    have z := hb x v s env' r k1
    rw [List.map_cons]
    unfold forL
    rw [e]
    unfold foldO
    cases eb : body x v s with
    | no => trivial
    | ex c fs s' => rw [eb] at z; obtain ⟨r', e', c'⟩ := z; simp only [e']; exact ⟨r', rfl, c'⟩
    | ok v1 s1 =>
      rw [eb] at z
      obtain ⟨env2, r2, e2, k2⟩ := z
      rcases e2 with e2 | e2
      · simp only [e2]; exact ih v1 s1 env2 r2 k2
      · simp only [e2]; exact ih v1 s1 env2 r2 k2
/-- a block with a loop's ends -/
def KF [En R] (B : Bs wr) (n : Nat) (oG : S → List (Nat × W)) (oC : S → List (Nat × Cell)) : Fl S R → σ → SR → Prop := fun x s sr => match x with
  | .nx v => ∃ env' r', sr = .nx env' (B.st s ++ r') ∧ Ok B.b n (oG v) (oC v) env' r'
  | .bk v => ∃ env' r', sr = .nx env' (B.st s ++ r') ∧ Ok B.b n (oG v) (oC v) env' r'
  | .rt a => ∃ r', sr = .rt (w_ a) (B.st s ++ r')
theorem for_runL [En β] [En R] {g : TGv} {f : β → List (Nat × W)} {body : β → S → σ → O σ (Fl S R)} (hg : Tgt n g f) (hb : ∀ x v s, J B n (Kl B n oG oC) (f x ++ oG v) (oC v) t s (body x v s)) :
    ∀ (xs : List β) (v : S) (s : σ), J B n (KF B n oG oC) (oG v) (oC v) (forL g t (xs.map fun b => w_ b)) s (forO body xs v s)
  | [], v, s => fun env r k => ⟨env, r, rfl, k⟩
  | x :: xs, v, s => fun env r k => by
    have ih := for_runL hg hb xs
    obtain ⟨env', e, l', kk⟩ := hg x env k.len
    have k1 : Ok B.b n (f x ++ oG v) (oC v) env' r := k.inE l' (kk _ k.var)
    have z := hb x v s env' r k1
    rw [List.map_cons]
    unfold forL
    rw [e]
    unfold forO
    cases eb : body x v s with
    | no => trivial
    | ex c fs s' => rw [eb] at z; obtain ⟨r', e', c'⟩ := z; simp only [e']; exact ⟨r', rfl, c'⟩
    | ok y s1 =>
      rw [eb] at z
      cases y with
      | nx v1 =>
        obtain ⟨env2, r2, e2, k2⟩ := z
        rcases e2 with e2 | e2
        · simp only [e2]; exact ih v1 s1 env2 r2 k2
        · simp only [e2]; exact ih v1 s1 env2 r2 k2
      | bk v1 => obtain ⟨env2, r2, e2, k2⟩ := z; simp only [e2]; exact ⟨env2, r2, rfl, k2⟩
      | rt a => obtain ⟨r2, e2⟩ := z; simp only [e2]; exact ⟨r2, rfl⟩
theorem j_seqF [En R] {o : O σ (Fl S R)} {k : S → σ → O σ X} {f : R → X} (hK : RetK B K f) (h : J B n (KF B n oG oC) G cs t s o) (hr : ∀ v s1, J B n K (oG v) (oC v) rest s1 (k v s1)) : J B n K G cs (bCons t rest) s (o.bind (flB k f)) := fun env r q => by
  have z := h env r q
  unfold bCons
  cases o with
  | no => trivial
  | ex c fs s' => obtain ⟨r', e, k'⟩ := z; rw [e]; exact ⟨r', rfl, k'⟩
  | ok y s1 =>
    cases y with
    | nx v => obtain ⟨env', r', e, k'⟩ := z; rw [e]; exact hr v s1 env' r' k'
    | bk v => obtain ⟨env', r', e, k'⟩ := z; rw [e]; exact hr v s1 env' r' k'
    | rt a => obtain ⟨r', e⟩ := z; rw [e]; exact hK a s1 r'
theorem forE {ti : TIv} {g : TGv} {env : Env} {st : Store} : bCons (sFor ti g t) rest env st = (ti env st).thenS fun ws st1 => bCons (forL g t ws) rest env st1 := by
  unfold bCons sFor
  cases ti env st <;> rfl
theorem j_for [En β] {ti : TIv} {g : TGv} {f : β → List (Nat × W)} {body : β → S → σ → O σ S} {v0 : S} {oi : O σ (List β)} {k : S → σ → O σ X} (hi : EI B n G cs cs1 ti s oi) (hg : Tgt n g f) (hb : ∀ x v s, J B n (Ks B n oG oC) (f x ++ oG v) (oC v) t s (body x v s))
    (h0 : Sub (oG v0) G) (hc0 : (oC v0).Sublist cs1) (hr : ∀ v s1, J B n K (oG v) (oC v) rest s1 (k v s1)) : J B n K G cs (bCons (sFor ti g t) rest) s (oi.bind fun xs s1 => (foldO body xs v0 s1).bind k) := fun env r q => by
  rw [forE]
  refine (hi env r q).thenS fun xs s1 r1 _ k1 p1 => ?_
  exact j_seq (for_run hg hb xs v0 s1) hr env r1 (k1.sub h0 hc0)
theorem j_forL [En β] [En R] {ti : TIv} {g : TGv} {f : β → List (Nat × W)} {body : β → S → σ → O σ (Fl S R)} {v0 : S} {oi : O σ (List β)} {k : S → σ → O σ X} {rf : R → X} (hK : RetK B K rf) (hi : EI B n G cs cs1 ti s oi) (hg : Tgt n g f) (hb : ∀ x v s, J B n (Kl B n oG oC) (f x ++ oG v) (oC v) t s (body x v s))
    (h0 : Sub (oG v0) G) (hc0 : (oC v0).Sublist cs1) (hr : ∀ v s1, J B n K (oG v) (oC v) rest s1 (k v s1)) : J B n K G cs (bCons (sFor ti g t) rest) s (oi.bind fun xs s1 => (forO body xs v0 s1).bind (flB k rf)) := fun env r q => by
  rw [forE]
  refine (hi env r q).thenS fun xs s1 r1 _ k1 p1 => ?_
  exact j_seqF hK (for_runL hg hb xs v0 s1) hr env r1 (k1.sub h0 hc0)
def whO (c : S → σ → O σ Bool) (body : S → σ → O σ S) : Nat → S → σ → O σ S
  | 0, _, _ => .no
  | m + 1, v, s => (c v s).bind fun b s1 => if b = true then (body v s1).bind fun v1 s2 => whO c body m v1 s2 else .ok v s1
theorem wh_run {c : S → σ → O σ Bool} {body : S → σ → O σ S} (hc : ∀ v s, ET B n (oG v) (oC v) (oC v) wa s (c v s)) (hb : ∀ v s, J B n (Ks B n oG oC) (oG v) (oC v) t s (body v s)) :
    ∀ (m : Nat) (v : S) (s : σ), J B n (Kj B n oG oC) (oG v) (oC v) (whileF wa t m) s (whO c body m v s)
  | 0, v, s => fun env r k => trivial
  | m + 1, v, s => fun env r k => by
    have ih := wh_run hc hb m
    unfold whileF whO
    refine (hc v s env r k).thenS (K := Kj B n oG oC) fun b s1 r1 _ k1 p1 => ?_
    cases b with
    | false => exact ⟨env, r1, rfl, k1⟩
    | true =>
      have z := hb v s1 env r1 k1
      simp only [if_true]
      cases eb : body v s1 with
      | no => trivial
      | ex c fs s' => rw [eb] at z; obtain ⟨r', e', c'⟩ := z; simp only [e']; exact ⟨r', rfl, c'⟩
      | ok v1 s2 =>
        rw [eb] at z
        obtain ⟨env2, r2, e2, k2⟩ := z
        rcases e2 with e2 | e2
        · simp only [e2]; exact ih v1 s2 env2 r2 k2
        · simp only [e2]; exact ih v1 s2 env2 r2 k2
theorem j_wh {c : S → σ → O σ Bool} {body : S → σ → O σ S} {m : Nat} {v0 : S} {k : S → σ → O σ X} (hc : ∀ v s, ET B n (oG v) (oC v) (oC v) wa s (c v s)) (hb : ∀ v s, J B n (Ks B n oG oC) (oG v) (oC v) t s (body v s))
    (h0 : Sub (oG v0) G) (hc0 : (oC v0).Sublist cs) (hr : ∀ v s1, J B n K (oG v) (oC v) rest s1 (k v s1)) : J B n K G cs (bCons (whileF wa t m) rest) s ((whO c body m v0 s).bind k) := fun env r q =>
  j_seq (wh_run hc hb m v0 s) hr env r (q.sub h0 hc0)
/-! defs -/
def argG : Nat → List W → List (Nat × W)
  | _, [] => []
  | i, w :: ws => (i, w) :: argG (i + 1) ws
theorem argG_get : ∀ (ws : List W) (i j : Nat) (w : W), lk (argG i ws) j = some w → i ≤ j ∧ ws[j - i]? = some w
  | [], i, j, w, h => by cases h
  | u :: ws, i, j, w, h => by
    unfold argG at h
    rw [lk_cons] at h
    cases e : Nat.beq i j with
    | true =>
      rw [e] at h; cases h
      cases Nat.eq_of_beq_eq_true e
      exact ⟨Nat.le_refl _, by simp⟩
    | false =>
      rw [e] at h
      obtain ⟨h1, h2⟩ := argG_get ws (i + 1) j w h
      refine ⟨by omega, ?_⟩
      rw [show j - i = (j - (i + 1)) + 1 from by omega]
      simpa using h2
theorem ok_start {b : Nat} {ws : List W} (hl : ws.length ≤ n) {r : Store} {cs : List (Nat × Cell)} (hr : clean (b + r.length) r = true) (hn : (cs.map Prod.fst).Nodup) (hc : ∀ k c, (k, c) ∈ cs → r[k]? = some c) : Ok b n (argG 0 ws) cs (ws.map some ++ List.replicate (n - ws.length) none) r := by
  refine ⟨by simp; omega, hr, hn, hc, fun i w h => ?_⟩
  obtain ⟨_, h2⟩ := argG_get ws 0 i w h
  have h2 : ws[i]? = some w := by simpa using h2
  have hi := (List.getElem?_eq_some_iff.mp h2).1
  rw [List.getElem?_append_left (by simp; exact hi), List.getElem?_map, h2]
  rfl
def mkB (wr : Wr σ) (rest : Store) (s : σ) (h : Cl (wr.put s rest)) : Bs wr := ⟨rest, fun s' => wr.cl s s' rest h, (wr.put s rest).length, fun s' => wr.len s' s rest⟩
theorem fn_ok [En R] [Ar A] {np : Nat} {d : A → σ → O σ R} (hw : ∀ a : A, (Ar.ws a).length = np) (hn : np ≤ n) (h : ∀ (B : Bs wr) (a : A) (s : σ), J B n (Kfn B) (argG 0 (Ar.ws a)) [] t s (d a s)) : FnG wr (fnM np n t) d := fun rest s a hcl => by
  have z := h (mkB wr rest s hcl) a s ((Ar.ws a).map some ++ List.replicate (n - (Ar.ws a).length) none) [] (ok_start (by rw [hw]; exact hn) (by simp [clean]) (by simp) (fun _ _ q => nomatch q))
  rw [List.append_nil] at z
  have e : fnM np n t (Ar.ws a) (wr.put s rest) = (match t ((Ar.ws a).map some ++ List.replicate (n - (Ar.ws a).length) none) (wr.put s rest) with
      | .rt w st1 => retW (wr.put s rest).length w st1
      | .nx _ st1 => retW (wr.put s rest).length (.f .non) st1
      | .exc c fs st1 => .exc c fs st1
      | _ => .stuck) := by
    unfold fnM runFn
    rw [if_pos (hw a)]
    all_goals (cases t ((Ar.ws a).map some ++ List.replicate (n - (Ar.ws a).length) none) (wr.put s rest) <;> rfl)
  rw [e]
  cases ed : d a s with
  | no => trivial
  | ex c fs s' =>
    rw [ed] at z
    obtain ⟨r', e1, e2⟩ := z
    simp only [show t _ (wr.put s rest) = _ from e1]
    refine ⟨r', rfl, ?_⟩
    have hb := wr.cl s s' rest hcl
    unfold Cl VS.clean at hb ⊢
    rw [List.all_append, Bool.and_eq_true, List.length_append]
    refine ⟨below_all (Nat.le_add_right _ _) hb, ?_⟩
    rw [wr.len s' s rest]
    exact e2
  | ok x s' =>
    rw [ed] at z
    have hb := wr.cl s s' rest hcl
    rcases z with ⟨r', e1⟩ | ⟨e0, env', r', e1⟩
    · simp only [show t _ (wr.put s rest) = _ from e1]
      rw [wr.len s s' rest]
      exact retW_tmp hb _ r'
    · simp only [show t _ (wr.put s rest) = _ from e1]
      rw [wr.len s s' rest]
      have z := retW_tmp hb .non r'
      rw [← e0] at z ⊢
      exact z
theorem fn_okP [En R] [Ar A] {np : Nat} {d : A → P R} (hw : ∀ a : A, (Ar.ws a).length = np) (hn : np ≤ n) (h : ∀ (B : Bs wU) (a : A) (s : Unit), J B n (Kfn B) (argG 0 (Ar.ws a)) [] t s (d a)) : FnP (fnM np n t) d := fn_ok hw hn fun B a s => h B a s
end
end TL

set_option Elab.async false
set_option linter.all false
set_option maxRecDepth 100000
set_option maxHeartbeats 4000000
set_option autoImplicit false
/-! T5: objects made as data; the operators. -/
namespace TL
open VS
open L2 (atI ixN)
section
variable {σ α β γ δ R X S A : Type} {wr : Wr σ} {B : Bs wr} {n : Nat} {G G' : List (Nat × W)} {cs cs1 cs2 cs3 : List (Nat × Cell)} {s : σ} {K : X → σ → SR → Prop} {oG : S → List (Nat × W)} {oC : S → List (Nat × Cell)} {rest t t1 t2 : TSv} {ta tb te : TEv} {wa : TTv} {tr : TAv} {T : Tab}
/-! ### __init__ -/
end
end TL

set_option Elab.async false
set_option linter.all false
set_option maxRecDepth 100000
set_option maxHeartbeats 4000000
set_option autoImplicit false
/-! T6: the operators. -/
namespace TL
open VS
open L2 (atI ixN)
section
variable {σ α β γ δ R : Type}
/-! ### numbers -/
theorem o_addI : Op2T addF fun (a b : Int) => some (a + b) := fun a b c h => by cases h; rfl
theorem o_subI : Op2T subF fun (a b : Int) => some (a - b) := fun a b c h => by cases h; rfl
@[irreducible] def mulO (i j : Int) : Option Int := if (inRg 18446744073709551615 i || (inRg 18446744073709551615 j || Nat.ble (bitsI i + bitsI j) 999999)) = true then some (i * j) else none
theorem o_mulI : Op2T mulF mulO := fun a b c h => by
  unfold mulO at h
  obtain ⟨hs, rfl⟩ := ifSome h
  rw [Bool.or_eq_true, Bool.or_eq_true, inRg_iff, inRg_iff, Nat.ble_eq] at hs
  refine if_pos ?_
  rcases hs with hs | hs | hs
  · exact .inl (by simp only [Bool.and_eq_true, decide_eq_true_eq]; omega)
  · exact .inr (.inl (by simp only [Bool.and_eq_true, decide_eq_true_eq]; omega))
  · exact .inr (.inr (by omega))
theorem mulO_ok {i j : Int} (h : -(2 ^ 64) < i ∧ i < 2 ^ 64 ∨ -(2 ^ 64) < j ∧ j < 2 ^ 64) : mulO i j = some (i * j) := by
  unfold mulO
  refine if_pos ?_
  rw [Bool.or_eq_true, Bool.or_eq_true, inRg_iff, inRg_iff]
  rcases h with h | h
  · exact .inl (by omega)
  · exact .inr (.inl (by omega))
@[irreducible] def divO (i j : Int) : Option Int := if 0 < j ∧ bitsI j < 9000 then some (i / j) else none
theorem o_divI : Op2T fdivF divO := fun a b c h => by
  unfold divO at h
  obtain ⟨hs, rfl⟩ := ifSome h
  exact if_pos hs
theorem log2_64 {n : Nat} (h : n < 2 ^ 64) : n.log2 < 9000 := by
  by_cases q : n = 0
  · subst q; decide
  · have h1 := (Nat.log2_lt q (k := 64)).mpr h
    omega
theorem divO_ok {i j : Int} (h : 0 < j) (h' : j < 2 ^ 64) : divO i j = some (i / j) := by
  unfold divO
  exact if_pos ⟨h, log2_64 (by omega)⟩
@[irreducible] def modO (i j : Int) : Option Int := if 0 < j then some (i % j) else none
theorem o_modI : Op2T modF modO := fun a b c h => by
  unfold modO at h
  obtain ⟨hs, rfl⟩ := ifSome h
  exact if_pos hs
theorem modO_ok {i j : Int} (h : 0 < j) : modO i j = some (i % j) := by
  unfold modO
  exact if_pos h
@[irreducible] def powO (i j : Int) : Option Int := if (posB j && (inRg 1000 j && inRg 18446744073709551615 i)) = true then some (i ^ j.toNat) else none
theorem o_powI : Op2T powF powO := fun a b c h => by
  unfold powO at h
  obtain ⟨hs, rfl⟩ := ifSome h
  rw [Bool.and_eq_true, Bool.and_eq_true, inRg_iff, inRg_iff, posB_iff] at hs
  exact if_pos ⟨hs.1, by omega, by omega⟩
theorem powO_ok {i : Int} {j : Nat} (hj : j ≤ 1000) (hi : i.natAbs < 2 ^ 64) : powO i j = some (i ^ j) := by
  unfold powO
  rw [if_pos (by rw [Bool.and_eq_true, Bool.and_eq_true, inRg_iff, inRg_iff, posB_iff]; omega)]
  rfl
theorem o_neg : Op1T negF fun (a : Int) => some (-a) := fun a c h => by cases h; rfl
theorem o_lt : Op2T ltF fun (a b : Int) => some (decide (a < b)) := fun a b c h => by cases h; rfl
theorem o_le : Op2T leF fun (a b : Int) => some (decide (a ≤ b)) := fun a b c h => by cases h; rfl
theorem o_gt : Op2T gtF fun (a b : Int) => some (decide (b < a)) := fun a b c h => by cases h; rfl
theorem o_ge : Op2T geF fun (a b : Int) => some (decide (b ≤ a)) := fun a b c h => by cases h; rfl
theorem o_max2 : Op2T max2F fun (a b : Int) => some (if b > a then b else a) := fun a b c h => by cases h; rfl
theorem o_intI : Op1T intF fun (a : Int) => some a := fun a c h => by cases h; rfl
@[irreducible] def lenRg (a : Int) : Option Int := if Nat.ble a.toNat 4611686018427387903 = true then some ((a.toNat : Nat) : Int) else none
/-! ### texts and lists -/
@[irreducible] def addS (a b : List Nat) : Option (List Nat) := if small (a.length + b.length) = true then some (a ++ b) else none
@[irreducible] def addL (a b : List α) : Option (List α) := if small (a.length + b.length) = true then some (a ++ b) else none
theorem o_addL [En α] : Op2T addF (addL (α := α)) := fun a b c h => by
  unfold addL at h
  obtain ⟨hs, rfl⟩ := ifSome h
  show (if small ((a.map En.e).length + (b.map En.e).length) = true then some (F.lst (a.map En.e ++ b.map En.e)) else none) = _
  rw [if_pos (by rw [List.length_map, List.length_map]; exact hs), ← List.map_append]
  rfl
@[irreducible] def mulS (a : List Nat) (k : Int) : Option (List Nat) := if decide (-1000000 ≤ k) = true ∧ decide (k ≤ 1000000) = true ∧ small (a.length * k.toNat) = true then some (repS k a) else none
@[irreducible] def mulL (a : List α) (k : Int) : Option (List α) := if decide (-1000000 ≤ k) = true ∧ decide (k ≤ 1000000) = true ∧ small (a.length * k.toNat) = true then some (List.replicate k.toNat a).flatten else none
theorem o_mulL [En α] : Op2T mulF (mulL (α := α)) := fun a b c h => by
  unfold mulL at h
  obtain ⟨hs, rfl⟩ := ifSome h
  show (if decide (-1000000 ≤ b) = true ∧ decide (b ≤ 1000000) = true ∧ small ((a.map En.e).length * b.toNat) = true then some (F.lst (List.replicate b.toNat (a.map En.e)).flatten) else none) = _
  rw [if_pos (by rw [List.length_map]; exact hs)]
  show some (F.lst _) = some (F.lst _)
  rw [List.map_flatten, List.map_replicate]
theorem o_lenL [En α] : Op1T lenF fun (l : List α) => some (l.length : Int) := fun a c h => by
  cases h
  show some (F.int ((a.map En.e).length : Nat)) = _
  rw [List.length_map]; rfl
theorem o_lenP [En α] [En β] : Op1T lenF fun (_ : α × β) => some (2 : Int) := fun a c h => by cases h; rfl
@[irreducible] def lenS (l : List Nat) : Option Int := if small l.length = true then some (l.length : Int) else none
theorem o_lenS : Op1T lenF lenS := fun a c h => by
  unfold lenS at h
  obtain ⟨hs, rfl⟩ := ifSome h
  exact if_pos hs
theorem intsOf_e (l : List Int) : intsOf (l.map En.e) = some l := intsOf_map l
def minO : List Int → Option Int
  | [] => none
  | m :: r => some (minL m r)
theorem o_minL : Op1T minF minO := fun a c h => by
  show (intsOf (a.map En.e)).bind _ = _
  rw [intsOf_e]
  cases a with
  | nil => cases h
  | cons m r => cases h; rfl
theorem o_tupleL [En α] : Op1T tupleF fun (l : List α) => some (Tu.mk l) := fun a c h => by cases h; rfl
@[irreducible] def joinS (sep : List Nat) (ts : List (List Nat)) : Option (List Nat) := if small ((ts.map List.length).sum + ts.length * sep.length) = true then some (VS.joinL sep ts) else none
@[irreducible] def sidx (l : List Nat) (c : Ch) : Option Int := match sidxF (.str l) [.str [c.c]] with
  | some (.int i) => some i
  | _ => none
/-! in -/
/-! is None -/
class NN (α : Type) [En α] where
  nn : ∀ a : α, isNF (En.e a) .non = some (.bl false)
instance : NN Int := ⟨fun _ => rfl⟩
instance : NN Bool := ⟨fun _ => rfl⟩
instance : NN Ch := ⟨fun _ => rfl⟩
instance : NN (List Nat) := ⟨fun _ => rfl⟩
instance {α : Type} [En α] : NN (List α) := ⟨fun _ => rfl⟩
instance {α : Type} [En α] : NN (Tu α) := ⟨fun _ => rfl⟩
instance {α β : Type} [En α] [En β] : NN (α × β) := ⟨fun _ => rfl⟩
instance {α β γ : Type} [En α] [En β] [En γ] : NN (T3 α β γ) := ⟨fun _ => rfl⟩
instance {α β γ δ : Type} [En α] [En β] [En γ] [En δ] : NN (T4 α β γ δ) := ⟨fun _ => rfl⟩
/-! equality -/
theorem o_eqI : Op2T eqF fun (a b : Int) => some (decide (a = b)) := fun a b c h => by cases h; rfl
theorem o_eqB : Op2T eqF fun (a b : Bool) => some (decide (a = b)) := fun a b c h => by cases h; rfl
theorem dec_ch (a b : Ch) : decide ([a.c] = [b.c]) = decide (a = b) := by
  obtain ⟨a⟩ := a; obtain ⟨b⟩ := b
  simp
theorem ne_of {op : α → β → Option Bool} [En α] [En β] (h : Op2T eqF op) : Op2T neF fun a b => (op a b).map fun c => !c := fun a b c q => by
  obtain ⟨d, e, rfl⟩ := opt_map_some q
  have z := h a b d e
  obtain ⟨b', e1, e2⟩ := opt_map_some (show (eqB (En.e a) (En.e b)).map F.bl = some (F.bl d) from z)
  cases e2
  show (eqB (En.e a) (En.e b)).map _ = _
  rw [e1]; rfl
theorem S_beq (a b : List Nat) : (VS.S a == VS.S b) = decide (a = b) := by
  by_cases e : a = b
  · subst e; simp
  · rw [beq_eq_false_iff_ne.mpr (fun q => e (S_inj.mp q)), decide_eq_false e]
/-- data whose == is equality -/
class EqT (α : Type) [En α] [DecidableEq α] where
  d : α → PySem.PyData
  ok : α → Bool
  dep : Nat
  toD : ∀ a, VS.toD (En.e a) = some (d a)
  lay : ∀ a, ok a = true → (d a).canLay0 = true
  depth : ∀ a, (d a).depth ≤ dep
  eqv : ∀ a b, PySem.PyData.eqv (d a) (d b) = decide (a = b)
instance : EqT Int := ⟨.int, fun _ => true, 0, fun _ => rfl, fun _ _ => by simp [PySem.PyData.canLay0], fun _ => by simp [PySem.PyData.depth], fun a b => by simp [PySem.PyData.eqv]; rfl⟩
instance : EqT Bool := ⟨.bool, fun _ => true, 0, fun _ => rfl, fun _ _ => by simp [PySem.PyData.canLay0], fun _ => by simp [PySem.PyData.depth], fun a b => by simp [PySem.PyData.eqv]; rfl⟩
instance : EqT (List Nat) := ⟨fun s => .str (S s), fun s => s.all (· < 0x110000), 0, fun _ => rfl, fun s h => by simp only [PySem.PyData.canLay0, PySem.PyData.strOk, S]; simpa using h, fun _ => by simp [PySem.PyData.depth], fun a b => by simp only [PySem.PyData.eqv]; exact S_beq a b⟩
instance : EqT Ch := ⟨fun s => .str (S [s.c]), fun s => decide (s.c < 0x110000), 0, fun _ => rfl, fun s h => by simp only [PySem.PyData.canLay0, PySem.PyData.strOk, S]; simpa using h, fun _ => by simp [PySem.PyData.depth], fun a b => by rw [← dec_ch]; simp only [PySem.PyData.eqv]; exact S_beq _ _⟩
end
section
variable {α β γ δ : Type} [En α] [DecidableEq α] [EqT α] [En β] [DecidableEq β] [EqT β] [En γ] [DecidableEq γ] [EqT γ] [En δ] [DecidableEq δ] [EqT δ]
theorem toDs_e : ∀ l : List α, toDs (l.map En.e) = some (l.map EqT.d)
  | [] => rfl
  | x :: l => by
    show (VS.toD (En.e x)).bind _ = _
    rw [EqT.toD x]
    show (toDs (l.map En.e)).map _ = _
    rw [toDs_e l]; rfl
theorem lay_all : ∀ l : List α, l.all EqT.ok = true → PySem.PyData.canLayAll0 (l.map EqT.d) = true
  | [], _ => by simp [PySem.PyData.canLayAll0]
  | x :: l, h => by
    rw [List.all_cons, Bool.and_eq_true] at h
    simp [PySem.PyData.canLayAll0, EqT.lay x h.1, lay_all l h.2]
theorem depth_all : ∀ l : List α, PySem.PyData.depthAll (l.map EqT.d) ≤ EqT.dep α
  | [] => by simp [PySem.PyData.depthAll]
  | x :: l => by
    simp only [List.map_cons, PySem.PyData.depthAll]
    have := EqT.depth x
    have := depth_all l
    omega
theorem eqv_all : ∀ l m : List α, PySem.PyData.eqvAll (l.map EqT.d) (m.map EqT.d) = decide (l = m)
  | [], [] => by simp [PySem.PyData.eqvAll]
  | [], _ :: _ => by simp [PySem.PyData.eqvAll]
  | _ :: _, [] => by simp [PySem.PyData.eqvAll]
  | x :: l, y :: m => by
    simp only [List.map_cons, PySem.PyData.eqvAll, EqT.eqv x y, eqv_all l m, List.cons.injEq, Bool.decide_and]
instance : EqT (List α) := ⟨fun l => .list (l.map EqT.d), fun l => l.all EqT.ok, EqT.dep α + 1, fun l => by
    show (toDs (l.map En.e)).map _ = _
    rw [toDs_e]; rfl, fun l h => by simpa [PySem.PyData.canLay0] using lay_all l h, fun l => by
    have := depth_all l
    simp only [PySem.PyData.depth]; omega, fun a b => by simp only [PySem.PyData.eqv]; exact eqv_all a b⟩
instance : EqT (Tu α) := ⟨fun l => .tuple (l.l.map EqT.d), fun l => l.l.all EqT.ok, EqT.dep α + 1, fun l => by
    show (toDs (l.l.map En.e)).map _ = _
    rw [toDs_e]; rfl, fun l h => by simpa [PySem.PyData.canLay0] using lay_all l.l h, fun l => by
    have := depth_all l.l
    simp only [PySem.PyData.depth]; omega, fun a b => by
      simp only [PySem.PyData.eqv]; rw [eqv_all a.l b.l]
      cases a; cases b; simp⟩
instance : EqT (α × β) := ⟨fun p => .tuple [EqT.d p.1, EqT.d p.2], fun p => EqT.ok p.1 && EqT.ok p.2, max (EqT.dep α) (EqT.dep β) + 1, fun p => by
    show (toDs [En.e p.1, En.e p.2]).map _ = _
    simp [toDs, EqT.toD p.1, EqT.toD p.2], fun p h => by
    rw [Bool.and_eq_true] at h
    simp [PySem.PyData.canLay0, PySem.PyData.canLayAll0, EqT.lay _ h.1, EqT.lay _ h.2], fun p => by
    have := EqT.depth p.1; have := EqT.depth p.2
    simp only [PySem.PyData.depth, PySem.PyData.depthAll]; omega, fun a b => by
      obtain ⟨a1, a2⟩ := a; obtain ⟨b1, b2⟩ := b
      simp [PySem.PyData.eqv, PySem.PyData.eqvAll, EqT.eqv]⟩
instance : EqT (T3 α β γ) := ⟨fun p => .tuple [EqT.d p.a, EqT.d p.b, EqT.d p.c], fun p => EqT.ok p.a && (EqT.ok p.b && EqT.ok p.c), max (EqT.dep α) (max (EqT.dep β) (EqT.dep γ)) + 1, fun p => by
    show (toDs [En.e p.a, En.e p.b, En.e p.c]).map _ = _
    simp [toDs, EqT.toD p.a, EqT.toD p.b, EqT.toD p.c], fun p h => by
    rw [Bool.and_eq_true, Bool.and_eq_true] at h
    simp [PySem.PyData.canLay0, PySem.PyData.canLayAll0, EqT.lay _ h.1, EqT.lay _ h.2.1, EqT.lay _ h.2.2], fun p => by
    have := EqT.depth p.a; have := EqT.depth p.b; have := EqT.depth p.c
    simp only [PySem.PyData.depth, PySem.PyData.depthAll]; omega, fun a b => by
      obtain ⟨a1, a2, a3⟩ := a; obtain ⟨b1, b2, b3⟩ := b
      simp [PySem.PyData.eqv, PySem.PyData.eqvAll, EqT.eqv]⟩
@[irreducible] def eqO (a b : α) : Option Bool := if EqT.ok a = true ∧ EqT.ok b = true then some (decide (a = b)) else none
theorem o_eq (hd : EqT.dep α ≤ 64) : Op2T eqF (eqO (α := α)) := fun a b c h => by
  unfold eqO at h
  obtain ⟨⟨h1, h2⟩, rfl⟩ := ifSome h
  have e1 := EqT.toD a
  have e2 := EqT.toD b
  have key : eqD (En.e a) (En.e b) = some (decide (a = b)) := by
    unfold eqD
    rw [e1, e2]
    have s1 : PySem.SeqAt.shaped (EqT.d a) = true := by unfold PySem.SeqAt.shaped; rw [EqT.lay a h1]; simpa using Nat.le_trans (EqT.depth a) hd
    have s2 : PySem.SeqAt.shaped (EqT.d b) = true := by unfold PySem.SeqAt.shaped; rw [EqT.lay b h2]; simpa using Nat.le_trans (EqT.depth b) hd
    simp [s1, s2, EqT.eqv]
  show (eqB (En.e a) (En.e b)).map F.bl = _
  have : eqB (En.e a) (En.e b) = some (decide (a = b)) := by
    have ev := EqT.eqv a b
    generalize (En.e a : F) = x at e1 key
    generalize (En.e b : F) = y at e2 key
    unfold eqB
    split
    · rename_i i j
      have h1 : PySem.PyData.int i = EqT.d a := Option.some.inj e1
      have h2 : PySem.PyData.int j = EqT.d b := Option.some.inj e2
      rw [← ev, ← h1, ← h2]; simp only [PySem.PyData.eqv]; rfl
    · rename_i i j
      have h1 : PySem.PyData.str (S i) = EqT.d a := Option.some.inj e1
      have h2 : PySem.PyData.str (S j) = EqT.d b := Option.some.inj e2
      rw [← ev, ← h1, ← h2]; simp only [PySem.PyData.eqv]; rw [S_beq]
    · rename_i i j
      have h1 : PySem.PyData.bool i = EqT.d a := Option.some.inj e1
      have h2 : PySem.PyData.bool j = EqT.d b := Option.some.inj e2
      rw [← ev, ← h1, ← h2]; simp only [PySem.PyData.eqv]; rfl
    · exact key
  rw [this]; rfl
end
/-! slices -/
section
variable {σ α : Type} {wr : Wr σ} {B : Bs wr} {n : Nat} {G : List (Nat × W)} {cs cs1 cs2 cs3 : List (Nat × Cell)} {s : σ} {ta te : TEv} {tl th : TOv}
def EO (B : Bs wr) (n : Nat) (G : List (Nat × W)) (cs cs' : List (Nat × Cell)) (t : TOv) (s : σ) (o : O σ (Option Int)) : Prop :=
  ∀ env r, Ok B.b n G cs env r → Rl B n G cs' env r (fun a => a) (t env (B.st s ++ r)) o
theorem o_no : EO B n G cs cs oNone s (.ok none s) := fun env r k => Rl.mk rfl k .refl
theorem o_so {o : O σ Int} (h : E B n G cs cs1 te s o) : EO B n G cs cs1 (oSome te) s (o.bind fun i s1 => .ok (some i) s1) := fun env r k => by
  refine (h env r k).bind fun i s1 r1 _ k1 hl => ?_
  exact Rl.mk rfl k1 hl
def SlT [En α] (op : Option Int → Option Int → α → Option α) : Prop := ∀ lo hi a c, op lo hi a = some c → slF lo hi (En.e a) = some (En.e c)
theorem e_sl [En α] {op : Option Int → Option Int → α → Option α} {o1 : O σ α} {o2 o3 : σ → O σ (Option Int)} (hs : SlT op) (h1 : EL B n G cs cs1 ta s o1) (h2 : ∀ s1, EO B n G cs1 cs1 tl s1 (o2 s1)) (h3 : ∀ s1, EO B n G cs1 cs1 th s1 (o3 s1)) :
    E B n G cs cs1 (eSl ta tl th) s (o1.bind fun a s1 => (o2 s1).bind fun lo s2 => (o3 s2).bind fun hi s3 => ofO (op lo hi a) s3) := fun env r k => by
  refine h1.bind k fun a s1 w r1 k1 hl1 hw => ?_
  refine Rl.up hl1 ?_
  refine (h2 s1 env r1 k1).bind fun lo s2 r2 _ k2 hl2 => ?_
  refine Rl.up hl2 ?_
  refine (h3 s2 env r2 k2).bind fun hi s3 r3 _ k3 hl3 => ?_
  refine Rl.opt (fun c hc => ?_) k3 hl3
  show lk1 (slF lo hi) w _ = _
  unfold lk1
  rw [hw s3 r3 env k3]
  show ofOpt (slF lo hi (En.e a)) _ = _
  rw [hs lo hi a c hc]; rfl
theorem cutL_map {α β : Type} (f : α → β) (l : List α) (lo hi : Option Int) : cutL (l.map f) lo hi = (cutL l lo hi).map f := by
  unfold cutL
  rw [List.length_map, ← List.map_drop, ← List.map_take]
theorem sl_lst [En α] : SlT fun lo hi (l : List α) => some (cutL l lo hi) := fun lo hi a c h => by
  cases h
  show some (F.lst (cutL (a.map En.e) lo hi)) = _
  rw [cutL_map]; rfl
@[irreducible] def slS (lo hi : Option Int) (l : List Nat) : Option (List Nat) := if small l.length = true then some (cutL l lo hi) else none
theorem sl_str : SlT slS := fun lo hi a c h => by
  unfold slS at h
  obtain ⟨hs, rfl⟩ := ifSome h
  exact if_pos hs
end
end TL

set_option Elab.async false
set_option linter.all false
set_option maxRecDepth 100000
set_option maxHeartbeats 4000000
set_option autoImplicit false
/-! T7: further rules; the spring of draws as a state. -/
namespace TL
open VS
open L2 (atI ixN)
section
variable {σ α β γ δ R X S A : Type} {wr : Wr σ} {B : Bs wr} {n : Nat} {G G' : List (Nat × W)} {cs cs1 cs2 cs3 : List (Nat × Cell)} {s : σ} {K : X → σ → SR → Prop} {rest t t1 t2 : TSv} {ta tb te : TEv} {wa : TTv} {tr : TAv} {T : Tab}
theorem j_retI [En R] {K : R → σ → SR → Prop} {o : O σ R} (hK : RetK B K fun a : R => a) (h : E B n G cs cs1 te s o) : J B n K G cs (bCons (sRet te) rest) s o := by
  have q := j_ret (rest := rest) hK h
  rw [bind_pure] at q
  exact q
theorem co_none [En α] : ∀ a : Unit, (En.e (none : Option α) : F) = En.e a := fun _ => rfl
end
/-! ### the spring -/
structure Sp where
  cells : List Int
  big : Int
  cnt : Int
  mix : Int
def spS (s : Sp) : Store := [.lstF (s.cells.map F.int), .lstW [.loc 0, .f (.int s.big), .f (.int s.cnt), .f (.int s.mix)]]
def wS : Wr Sp := ⟨fun s r => spS s ++ r, fun _ _ _ => by simp [spS], fun s s' r h => by
    unfold Cl clean at h ⊢
    rw [List.all_append, Bool.and_eq_true] at h ⊢
    refine ⟨?_, ?_⟩
    · simp [spS, Cell.below, W.below]
    · have := h.2
      simpa [spS] using this, fun s r t => by simp [List.append_assoc]⟩
/-- the spring as an argument -/
structure Rs where
instance {A : Type} [Ar A] : Ar (Rs × A) := ⟨fun p => W.loc 1 :: Ar.ws p.2⟩
section
variable {α β X A : Type} {B : Bs wS} {n : Nat} {G : List (Nat × W)} {cs cs1 cs2 : List (Nat × Cell)} {s : Sp} {K : X → Sp → SR → Prop} {rest t : TSv} {ta tb te : TEv} {tr : TAv}
theorem a_sp [Ar A] {i : Nat} {q : (β : Type) → (A → Sp → O Sp β) → O Sp β} (h : lk G i = some (.loc 1)) (h2 : EA B n G cs cs2 tr s q) : EA B n G cs cs2 (aCons (eVar i) tr) s (fun β k => q β fun x s2 => k (Rs.mk, x) s2) := by
  obtain ⟨oa, h3, h4⟩ := h2
  refine ⟨oa.bind fun x s2 => .ok (Rs.mk, x) s2, fun env r q => ?_, fun β k => ?_⟩
  · have e : eVar i env (B.st s ++ r) = .ok (.loc 1) (B.st s ++ r) := by
      unfold eVar
      rw [q.var i _ h]
    unfold aCons
    rw [e]
    refine (h3 env r q).bind fun x s2 r2 _ k2 hl2 => ?_
    exact Rl.mk rfl k2 hl2
  · simp only [h4, bind_assoc, bind_ok]
theorem sp_at0 (B : Bs wS) (s : Sp) (r : Store) : (B.st s ++ r)[0]? = some (.lstF (s.cells.map F.int)) := rfl
theorem sp_ev {i : Nat} (h : lk G i = some (.loc 1)) {env : Env} {r : Store} (q : Ok B.b n G cs env r) : eVar i env (B.st s ++ r) = .ok (.loc 1) (B.st s ++ r) := by
  unfold eVar
  rw [q.var i _ h]
theorem e_sp1 {i : Nat} (h : lk G i = some (.loc 1)) : E B n G cs cs (eIx (eVar i) (eC (.int 1))) s (.ok s.big s) := fun env r q => by
  refine Rl.mk ?_ q .refl
  unfold eIx
  rw [sp_ev h q]
  rfl
theorem e_sp2 {i : Nat} (h : lk G i = some (.loc 1)) : E B n G cs cs (eIx (eVar i) (eC (.int 2))) s (.ok s.cnt s) := fun env r q => by
  refine Rl.mk ?_ q .refl
  unfold eIx
  rw [sp_ev h q]
  rfl
theorem e_sp3 {i : Nat} (h : lk G i = some (.loc 1)) : E B n G cs cs (eIx (eVar i) (eC (.int 3))) s (.ok s.mix s) := fun env r q => by
  refine Rl.mk ?_ q .refl
  unfold eIx
  rw [sp_ev h q]
  rfl
theorem okEs_int : ∀ l : List Int, okEs 0 (l.map F.int) = true
  | [] => by simp [okEs]
  | x :: l => by simp [okEs, okE, okEs_int l]
theorem ne_nil (l : List Int) : neF (.lst (l.map F.int)) (.lst []) = some (.bl (!l.isEmpty)) := by
  unfold neF
  cases l with
  | nil => rw [show List.map F.int [] = [] from rfl, eqB_yes (n := 1) (by decide) (by simp [okE, okEs])]; rfl
  | cons x r => rw [eqB_no (n := 1) (m := 1) (by decide) (by decide) (by simpa [okE] using okEs_int (x :: r)) (by simp [okE, okEs]) (by simp)]; rfl
theorem t_sp0 {i : Nat} (h : lk G i = some (.loc 1)) : ET B n G cs cs (tVal (eOp2 neF (eIx (eVar i) (eC (.int 0))) (eLst aNil))) s (.ok (!s.cells.isEmpty) s) := fun env r q => by
  refine Rl.mk ?_ q .refl
  unfold tVal eOp2 eIx
  rw [sp_ev h q]
  show (lk2 neF (.loc 0) (.f (.lst [])) (B.st s ++ r)).bind _ = _
  have e : lk2 neF (.loc 0) (.f (.lst [])) (B.st s ++ r) = .ok (.f (.bl (!s.cells.isEmpty))) (B.st s ++ r) := by
    unfold lk2
    show ofOpt ((lookC (some (Cell.lstF (s.cells.map F.int)))).bind fun x => (some (F.lst [])).bind fun y => neF x y) _ = _
    show ofOpt (neF (.lst (s.cells.map F.int)) (.lst [])) _ = _
    rw [ne_nil]; rfl
  rw [e]; rfl
theorem j_sp {i j : Nat} {o : O Sp Int} {up : Sp → Int → Sp} {k : Sp → O Sp X} {ti : Int} (h : lk G i = some (.loc 1)) (he : E B n G cs cs1 te s o)
    (hu : ∀ (s1 : Sp) (a : Int) (r : Store), setI (.f (.int a)) (wS.put s1 r) (.loc 1) (.f (.int ti)) = some (wS.put (up s1 a) r)) (hr : ∀ s1, J B n K G cs1 rest s1 (k s1)) :
    J B n K G cs (bCons (sSub (eVar i) (eC (.int ti)) te) rest) s (o.bind fun a s1 => k (up s1 a)) := fun env r q => by
  have e : bCons (sSub (eVar i) (eC (.int ti)) te) rest env (B.st s ++ r) = (te env (B.st s ++ r)).thenS fun w st1 => (eVar i env st1).thenS fun o st2 => match setI w st2 o (.f (.int ti)) with
      | some st4 => rest env st4
      | none => .stuck := by
    unfold bCons sSub
    cases te env (B.st s ++ r) with
    | ok w st1 =>
      simp only [Res.thenS]
      cases eVar i env st1 with
      | ok o st2 => simp only [eC]; cases setI w st2 o (.f (.int ti)) <;> rfl
      | _ => rfl
    | _ => rfl
  rw [e]
  refine (he env r q).thenS fun a s1 r1 _ k1 p1 => ?_
  rw [sp_ev h k1]
  have e2 : setI (w_ a) (B.st s1 ++ r1) (.loc 1) (.f (.int ti)) = some (B.st (up s1 a) ++ r1) := by
    have := hu s1 a (B.rest ++ r1)
    rw [wS.app, wS.app] at this
    exact this
  simp only [Res.thenS]
  rw [e2]
  exact hr (up s1 a) _ _ k1
theorem j_spPop {i j : Nat} {k : Int → Sp → O Sp X} (hj : j < n) (h : lk G i = some (.loc 1)) (hr : ∀ a s1, J B n K ((j, w_ a) :: G) cs rest s1 (k a s1)) :
    J B n K G cs (bCons (sSet j (eMut false cPopAt (eIx (eVar i) (eC (.int 0))) (aCons (eC (.int 0)) aNil))) rest) s (match s.cells with
      | [] => .no
      | a :: l => k a { s with cells := l }) := fun env r q => by
  cases hs : s.cells with
  | nil => trivial
  | cons a l =>
    have hd : doCell cPopAt 0 [.f (.int 0)] (B.st s ++ r) = .ok (.f (.int a)) (B.st { s with cells := l } ++ r) := by
      have e0 : cPopAt (Cell.lstF ((a :: l).map F.int)) [.f (.int 0)] = some (.f (.int a), .lstF (l.map F.int)) := by
        have e1 : PySem.seqIndex? 0 ((a :: l).map F.int).length = some 0 := by
          unfold PySem.seqIndex?
          simp
        show (if smallI 0 = true then (PySem.seqIndex? 0 ((a :: l).map F.int).length).bind fun k => (((a :: l).map F.int)[k]?).map fun x => (W.f x, Cell.lstF (((a :: l).map F.int).eraseIdx k)) else none) = _
        rw [e1]
        rfl
      unfold doCell
      rw [sp_at0, hs]
      show (match cPopAt (Cell.lstF ((a :: l).map F.int)) [.f (.int 0)] with
        | some (w, c') => Res.ok w ((B.st s ++ r).set 0 c')
        | none => .stuck) = _
      rw [e0]
      rfl
    have e : bCons (sSet j (eMut false cPopAt (eIx (eVar i) (eC (.int 0))) (aCons (eC (.int 0)) aNil))) rest env (B.st s ++ r) = rest (env.set j (some (w_ a))) (B.st { s with cells := l } ++ r) := by
      unfold bCons sSet eMut eIx
      rw [sp_ev h q]
      show (match Res.thenS (if isCell false (B.st s ++ r)[0]? = true then Res.bind (.ok [.f (.int 0)] (B.st s ++ r)) fun ws st2 => doCell cPopAt 0 ws st2 else .stuck) fun w st1 => SR.nx (env.set j (some w)) st1 with
        | .nx env1 st1 => rest env1 st1
        | x => x) = _
      rw [sp_at0]
      show (match Res.thenS (doCell cPopAt 0 [.f (.int 0)] (B.st s ++ r)) fun w st1 => SR.nx (env.set j (some w)) st1 with
        | .nx env1 st1 => rest env1 st1
        | x => x) = _
      rw [hd]
      rfl
    show RlS B K _ _
    rw [e]
    exact hr a { s with cells := l } _ _ (q.set hj _)
end
end TL

set_option Elab.async false
set_option linter.all false
set_option maxRecDepth 100000
set_option maxHeartbeats 4000000
set_option autoImplicit false
/-! T8: the law's own sameness; the law itself. -/
namespace TL
open VS
open L2 (atI ixN)
/-! ### equality of plain data -/
mutual
def eqS : F → F → Bool
  | .non, .non => true
  | .bl a, .bl b => a == b
  | .int a, .int b => decide (a = b)
  | .str a, .str b => decide (a = b)
  | .lst xs, .lst ys => eqSs xs ys
  | .tup xs, .tup ys => eqSs xs ys
  | _, _ => false
def eqSs : List F → List F → Bool
  | [], [] => true
  | x :: xs, y :: ys => eqS x y && eqSs xs ys
  | _, _ => false
end
mutual
def okP : Nat → F → Bool
  | _, .non => true
  | _, .bl _ => true
  | _, .int _ => true
  | _, .str s => s.all (· < 0x110000)
  | n + 1, .lst xs => small xs.length && okPs n xs
  | n + 1, .tup xs => small xs.length && okPs n xs
  | _, _ => false
def okPs : Nat → List F → Bool
  | _, [] => true
  | n, x :: xs => okP n x && okPs n xs
end
mutual
theorem eqS_refl : ∀ (n : Nat) (x : F), okP n x = true → eqS x x = true
  | _, .non, _ => by simp [eqS]
  | _, .bl _, _ => by simp [eqS]
  | _, .int _, _ => by simp [eqS]
  | _, .str _, _ => by simp [eqS]
  | n + 1, .lst xs, h => by simp only [eqS]; exact eqSs_refl n xs (by rw [okP, Bool.and_eq_true] at h; exact h.2)
  | n + 1, .tup xs, h => by simp only [eqS]; exact eqSs_refl n xs (by rw [okP, Bool.and_eq_true] at h; exact h.2)
  | 0, .lst xs, h => by simp [okP] at h
  | 0, .tup xs, h => by simp [okP] at h
  | 0, .dct _, h => by simp [okP] at h
  | 0, .dlk _ _, h => by simp [okP] at h
  | 0, .ktp _, h => by simp [okP] at h
  | 0, .obj _ _, h => by simp [okP] at h
  | 0, .scr _, h => by simp [okP] at h
  | _ + 1, .dct _, h => by simp [okP] at h
  | _ + 1, .dlk _ _, h => by simp [okP] at h
  | _ + 1, .ktp _, h => by simp [okP] at h
  | _ + 1, .obj _ _, h => by simp [okP] at h
  | _ + 1, .scr _, h => by simp [okP] at h
theorem eqSs_refl : ∀ (n : Nat) (x : List F), okPs n x = true → eqSs x x = true
  | _, [], _ => by simp [eqSs]
  | n, x :: xs, h => by
    have h : okP n x = true ∧ okPs n xs = true := by simpa [okPs] using h
    simp [eqSs, eqS_refl n x h.1, eqSs_refl n xs h.2]
end
def tSame (r : FnM) : TSv :=
  (bCons (sIf (tVal (eIsi [.lst, .tup] (eVar 1))) (bCons (sIf (tOrV (tVal (eOp2 neF (eIsi [.lst] (eVar 0)) (eIsi [.lst] (eVar 1)))) (tVal (eOp2 neF (eIsi [.tup] (eVar 0)) (eIsi [.tup] (eVar 1))))) (sRet (eC (.bl false))) bNil)
    (sRet (eAnd (eOp2 eqF (eCB (g1 lenF) (aCons (eVar 0) aNil)) (eCB (g1 lenF) (aCons (eVar 1) aNil))) (eCB (g1 allB) (aCons (eFrz (eLc (iZip (aCons (eVar 0) (aCons (eVar 1) aNil))) (gTp (gsCons (gNm 2) (gsCons (gNm 3) gsNil))) tYesV (eCall r (aCons (eVar 2) (aCons (eVar 3) aNil))) [2, 3])) aNil))))) bNil)
    (bCons (sIf (tVal (eIsi [.int] (eVar 1))) (sRet (eAnd (eIsi [.int] (eVar 0)) (eAnd (eOp2 eqF (eIsi [.bl] (eVar 0)) (eIsi [.bl] (eVar 1))) (eOp2 eqF (eVar 0) (eVar 1))))) bNil)
    (sRet (eAnd (eOp2 isNF (eIsi [.int, .lst, .tup] (eVar 0)) (eC (.bl false))) (eOp2 eqF (eVar 0) (eVar 1))))))
def mSame : Nat → FnM
  | 0 => fnM 2 4 bStuck
  | n + 1 => fnM 2 4 (tSame (mSame n))
mutual
theorem okP_toD : ∀ (n : Nat) (x : F), okP n x = true → ∃ d, toD x = some d ∧ d.canLay0 = true ∧ d.depth ≤ n
  | _, .non, _ => ⟨.none, rfl, by simp [PySem.PyData.canLay0], by simp [PySem.PyData.depth]⟩
  | _, .bl b, _ => ⟨.bool b, rfl, by simp [PySem.PyData.canLay0], by simp [PySem.PyData.depth]⟩
  | _, .int i, _ => ⟨.int i, rfl, by simp [PySem.PyData.canLay0], by simp [PySem.PyData.depth]⟩
  | _, .str s, h => ⟨.str (S s), rfl, by
      have h : s.all (· < 0x110000) = true := by simpa [okP] using h
      simp only [PySem.PyData.canLay0, PySem.PyData.strOk, S]
      simpa using h, by simp [PySem.PyData.depth]⟩
  | n + 1, .lst xs, h => by
    obtain ⟨ds, e, c, dp⟩ := okPs_toD n xs (by rw [okP, Bool.and_eq_true] at h; exact h.2)
    exact ⟨.list ds, by simp [toD, e], by simpa [PySem.PyData.canLay0] using c, by simp only [PySem.PyData.depth]; omega⟩
  | n + 1, .tup xs, h => by
    obtain ⟨ds, e, c, dp⟩ := okPs_toD n xs (by rw [okP, Bool.and_eq_true] at h; exact h.2)
    exact ⟨.tuple ds, by simp [toD, e], by simpa [PySem.PyData.canLay0] using c, by simp only [PySem.PyData.depth]; omega⟩
  | 0, .lst xs, h => by simp [okP] at h
  | 0, .tup xs, h => by simp [okP] at h
  | 0, .dct _, h => by simp [okP] at h
  | 0, .dlk _ _, h => by simp [okP] at h
  | 0, .ktp _, h => by simp [okP] at h
  | 0, .obj _ _, h => by simp [okP] at h
  | 0, .scr _, h => by simp [okP] at h
  | _ + 1, .dct _, h => by simp [okP] at h
  | _ + 1, .dlk _ _, h => by simp [okP] at h
  | _ + 1, .ktp _, h => by simp [okP] at h
  | _ + 1, .obj _ _, h => by simp [okP] at h
  | _ + 1, .scr _, h => by simp [okP] at h
theorem okPs_toD : ∀ (n : Nat) (xs : List F), okPs n xs = true → ∃ ds, toDs xs = some ds ∧ PySem.PyData.canLayAll0 ds = true ∧ PySem.PyData.depthAll ds ≤ n
  | _, [], _ => ⟨[], rfl, by simp [PySem.PyData.canLayAll0], by simp [PySem.PyData.depthAll]⟩
  | n, x :: xs, h => by
    have h : okP n x = true ∧ okPs n xs = true := by simpa [okPs] using h
    obtain ⟨d, e, c, dp⟩ := okP_toD n x h.1
    obtain ⟨ds, e', c', dp'⟩ := okPs_toD n xs h.2
    exact ⟨d :: ds, by simp [toDs, e, e'], by simp [PySem.PyData.canLayAll0, c, c'], by simp only [PySem.PyData.depthAll]; omega⟩
end
theorem okP_shaped {n : Nat} (hn : n ≤ 64) {x : F} (h : okP n x = true) : ∃ d, toD x = some d ∧ PySem.SeqAt.shaped d = true := by
  obtain ⟨d, e, c, dp⟩ := okP_toD n x h
  exact ⟨d, e, by unfold PySem.SeqAt.shaped; rw [c]; simp; omega⟩
/-- == of other kinds than the text's or None's -/
theorem eqB_other {n : Nat} (hn : n ≤ 64) {x y : F} (hx : okP n x = true) (hy : okP n y = true) (h1 : kyF x = .non ∨ kyF x = .str) (h2 : kyF y = .non ∨ kyF y = .str) : eqB x y = some (eqS x y) := by
  obtain ⟨d, e, s⟩ := okP_shaped hn hx
  obtain ⟨d', e', s'⟩ := okP_shaped hn hy
  cases x <;> simp [kyF] at h1 <;> cases y <;> simp [kyF] at h2
  · simp only [eqB, eqD, toD, eqS]; rfl
  · have e' : some (PySem.PyData.str (S _)) = some d' := e'
    have := Option.some.inj e'
    subst this
    simp only [eqB, eqD, toD, eqS, Option.bind_some, s']
    rfl
  · have e : some (PySem.PyData.str (S _)) = some d := e
    have := Option.some.inj e
    subst this
    simp only [eqB, eqD, toD, eqS, Option.bind_some, s]
    rfl
  · simp [eqB, eqS]
theorem same_rt {r : FnM} {x y : F} {st : Store} {b : Bool} (h : tSame r [some (.f x), some (.f y), none, none] st = .rt (.f (.bl b)) st) : fnM 2 4 (tSame r) [.f x, .f y] st = .ok (.f (.bl b)) st := by
  show (match tSame r [some (.f x), some (.f y), none, none] st with
    | .rt w st1 => retW st.length w st1
    | .nx _ st1 => retW st.length (.f .non) st1
    | .exc c fs st1 => .exc c fs st1
    | _ => .stuck) = _
  rw [h]
  exact retW_same st _
theorem same_oth {r : FnM} {n : Nat} (hn : n ≤ 64) {x y : F} {st : Store} (hx : okP n x = true) (hy : okP n y = true) (h1 : kyF x = .non ∨ kyF x = .str) (h2 : kyF y = .non ∨ kyF y = .str) : fnM 2 4 (tSame r) [.f x, .f y] st = .ok (.f (.bl (eqS x y))) st := by
  apply same_rt
  have e : tSame r [some (.f x), some (.f y), none, none] st = (ofOpt ((eqB x y).map F.bl) st).thenS fun w st1 => .rt w st1 := by
    cases x <;> simp [kyF] at h1 <;> cases y <;> simp [kyF] at h2 <;> rfl
  rw [e, eqB_other hn hx hy h1 h2]
  rfl
def sameZ (w : W) : F := match w with
  | .f (.tup [a, b]) => .bl (eqS a b)
  | _ => .non
theorem sameZ_all : ∀ (xs ys : List F), xs.length = ys.length → blsOf (((xs.zip ys).map fun q => W.f (.tup [q.1, q.2])).map sameZ) = some ((xs.zip ys).map fun q => eqS q.1 q.2) ∧ ((xs.zip ys).map fun q => eqS q.1 q.2).all id = eqSs xs ys
  | [], [], _ => ⟨rfl, by simp [eqSs]⟩
  | [], _ :: _, h => by simp at h
  | _ :: _, [], h => by simp at h
  | x :: xs, y :: ys, h => by
    obtain ⟨h1, h2⟩ := sameZ_all xs ys (by simpa using h)
    refine ⟨?_, ?_⟩
    · show (blsOf (((xs.zip ys).map fun q => W.f (.tup [q.1, q.2])).map sameZ)).map (eqS x y :: ·) = _
      rw [h1]; rfl
    · show (eqS x y && ((xs.zip ys).map fun q => eqS q.1 q.2).all id) = _
      rw [h2]
      simp [eqSs]
theorem eqSs_len : ∀ (xs ys : List F), xs.length ≠ ys.length → eqSs xs ys = false
  | [], [], h => by simp at h
  | [], _ :: _, _ => by simp [eqSs]
  | _ :: _, [], _ => by simp [eqSs]
  | x :: xs, y :: ys, h => by simp [eqSs, eqSs_len xs ys (by simpa using h)]
theorem okPs_mem {n : Nat} : ∀ {xs : List F} {x : F}, okPs n xs = true → x ∈ xs → okP n x = true
  | y :: ys, x, h, hm => by
    have h : okP n y = true ∧ okPs n ys = true := by simpa [okPs] using h
    rcases List.mem_cons.mp hm with q | q
    · subst q; exact h.1
    · exact okPs_mem h.2 q
abbrev sameC (r : FnM) : TEv := eFrz (eLc (iZip (aCons (eVar 0) (aCons (eVar 1) aNil))) (gTp (gsCons (gNm 2) (gsCons (gNm 3) gsNil))) tYesV (eCall r (aCons (eVar 2) (aCons (eVar 3) aNil))) [2, 3])
theorem same_seq {r : FnM} {n : Nat} {x y : F} {xs ys : List F} {st : Store} (hc : Cl st) (hx : okPs n xs = true) (hy : okPs n ys = true) (dx : itemsD x = some xs) (dy : itemsD y = some ys) (hl : xs.length ≤ 1000000)
    (ih : ∀ a b, okP n a = true → okP n b = true → ∀ st, Cl st → r [.f a, .f b] st = .ok (.f (.bl (eqS a b))) st) (he : xs.length = ys.length) :
    (eCB (g1 allB) (aCons (sameC r) aNil)) [some (.f x), some (.f y), none, none] st = .ok (.f (.bl (eqSs xs ys))) st := by
  obtain ⟨z1, z2⟩ := sameZ_all xs ys he
  have hz : iZip (aCons (eVar 0) (aCons (eVar 1) aNil)) [some (.f x), some (.f y), none, none] st = .ok ((xs.zip ys).map fun q => W.f (.tup [q.1, q.2])) st := by
    show zipW [.f x, .f y] st = _
    unfold zipW
    simp only [dx, dy]
  have e : sameC r [some (.f x), some (.f y), none, none] st = .ok (.f (.lst (((xs.zip ys).map fun q => W.f (.tup [q.1, q.2])).map sameZ))) st := by
    refine lcf_map hc sameZ hz (by simp; omega) fun w hw acc => ?_
    obtain ⟨⟨a, b⟩, hab, rfl⟩ := List.mem_map.mp hw
    have h1 := List.of_mem_zip hab
    refine ⟨_, rfl, ?_⟩
    show r [.f a, .f b] (st ++ [.lstF acc]) = _
    rw [ih a b (okPs_mem hx h1.1) (okPs_mem hy h1.2) _ (hc.push acc)]
    rfl
  have e2 : (eCB (g1 allB) (aCons (sameC r) aNil)) [some (.f x), some (.f y), none, none] st = ((sameC r [some (.f x), some (.f y), none, none] st).bind fun w st1 => lkN (g1 allB) [w] st1) := by
    unfold eCB aCons
    cases sameC r [some (.f x), some (.f y), none, none] st <;> rfl
  rw [e2, e]
  show ofOpt ((blsOf _).map fun ns => F.bl (ns.all id)) st = _
  rw [z1]
  show Res.ok (W.f (F.bl _)) st = _
  rw [z2]
theorem bCons_rt {t rest : TSv} {env : Env} {st : Store} {R : Res W} (h : t env st = R.thenS fun w s => .rt w s) : bCons t rest env st = R.thenS fun w s => .rt w s := by
  unfold bCons
  rw [h]
  cases R <;> rfl
theorem J.cast {σ X : Type} {wr : Wr σ} {B : Bs wr} {n : Nat} {K : X → σ → SR → Prop} {G : List (Nat × W)} {cs : List (Nat × Cell)} {t : TSv} {s : σ} {o o' : O σ X} (h : J B n K G cs t s o) (e : o = o') : J B n K G cs t s o' := e ▸ h
/-! ### the law -/
theorem law_run {n i : Nat} {ms : FnM} {rest : TSv} {ns : List Int} {o : O Sp Bool} (hn : 1 ≤ n) (hi : i < n) (hs : ms [.f (.scr ns)] [] = .ok (.loc 1) (spS ⟨ns, 0, 0, 11⟩))
    (h : ∀ B : Bs wS, J B n (Kfn B) [(i, .loc 1)] [] rest ⟨ns, 0, 0, 11⟩ o) (ho : ∃ s', o = .ok true s') : ∃ st, fnM 1 n (bCons (sSet i (eCall ms (aCons (eVar 0) aNil))) rest) [.f (.scr ns)] [] = .ok (.f (.bl true)) st := by
  obtain ⟨s', rfl⟩ := ho
  have hcl : Cl (wS.put ⟨ns, 0, 0, 11⟩ []) := by
    show clean _ _ = true
    simp [wS, spS, clean, Cell.below, W.below]
  have ok0 : Ok (mkB wS [] ⟨ns, 0, 0, 11⟩ hcl).b n [(i, W.loc 1)] [] ((some (W.f (F.scr ns)) :: List.replicate (n - 1) none).set i (some (.loc 1))) [] := by
    refine ⟨by simp; omega, by simp [clean], by simp, (fun _ _ q => nomatch q), fun j w q => ?_⟩
    rw [lk_cons] at q
    cases e : Nat.beq i j with
    | true =>
      rw [e] at q; cases q
      cases Nat.eq_of_beq_eq_true e
      exact List.getElem?_set_self (by simp; omega)
    | false => rw [e] at q; cases q
  have z := h (mkB wS [] ⟨ns, 0, 0, 11⟩ hcl) _ _ ok0
  have e : bCons (sSet i (eCall ms (aCons (eVar 0) aNil))) rest (some (W.f (F.scr ns)) :: List.replicate (n - 1) none) [] = rest ((some (W.f (F.scr ns)) :: List.replicate (n - 1) none).set i (some (.loc 1))) (spS ⟨ns, 0, 0, 11⟩) := by
    unfold bCons sSet eCall
    show (match Res.thenS (Res.bind (.ok [W.f (F.scr ns)] []) fun ws st1 => ms ws st1) fun w st1 => SR.nx ((some (W.f (F.scr ns)) :: List.replicate (n - 1) none).set i (some w)) st1 with
      | .nx env1 st1 => rest env1 st1
      | x => x) = _
    show (match Res.thenS (ms [W.f (F.scr ns)] []) fun w st1 => SR.nx ((some (W.f (F.scr ns)) :: List.replicate (n - 1) none).set i (some w)) st1 with
      | .nx env1 st1 => rest env1 st1
      | x => x) = _
    rw [hs]; rfl
  have e0 : fnM 1 n (bCons (sSet i (eCall ms (aCons (eVar 0) aNil))) rest) [.f (.scr ns)] [] = (match rest ((some (W.f (F.scr ns)) :: List.replicate (n - 1) none).set i (some (.loc 1))) (spS ⟨ns, 0, 0, 11⟩) with
      | .rt w st1 => retW 0 w st1
      | .nx _ st1 => retW 0 (.f .non) st1
      | .exc c fs st1 => .exc c fs st1
      | _ => .stuck) := by
    rw [← e]
    show (match bCons (sSet i (eCall ms (aCons (eVar 0) aNil))) rest (some (W.f (F.scr ns)) :: List.replicate (n - 1) none) [] with
      | .rt w st1 => retW 0 w st1
      | .nx _ st1 => retW 0 (.f .non) st1
      | .exc c fs st1 => .exc c fs st1
      | _ => .stuck) = _
    cases bCons (sSet i (eCall ms (aCons (eVar 0) aNil))) rest (some (W.f (F.scr ns)) :: List.replicate (n - 1) none) [] <;> rfl
  have hz : rest ((some (W.f (F.scr ns)) :: List.replicate (n - 1) none).set i (some (.loc 1))) (spS ⟨ns, 0, 0, 11⟩) = rest ((some (W.f (F.scr ns)) :: List.replicate (n - 1) none).set i (some (.loc 1))) ((mkB wS [] ⟨ns, 0, 0, 11⟩ hcl).st ⟨ns, 0, 0, 11⟩ ++ []) := by
    show _ = rest _ ((spS ⟨ns, 0, 0, 11⟩ ++ []) ++ [])
    rw [List.append_nil, List.append_nil]
  rw [e0, hz]
  rcases z with ⟨r', e1⟩ | ⟨e1, _⟩
  · rw [e1]
    exact ⟨[], rfl⟩
  · cases e1
end TL

set_option Elab.async false
set_option linter.all false
set_option maxRecDepth 100000
set_option maxHeartbeats 4000000
set_option autoImplicit false
/-! T9: parallel assignments, of data and of cells. -/
namespace TL
open VS
open L2 (atI ixN)
section
variable {σ α β γ δ R X S A : Type} {wr : Wr σ} {B : Bs wr} {n : Nat} {G G' : List (Nat × W)} {cs cs1 cs2 cs3 : List (Nat × Cell)} {s : σ} {K : X → σ → SR → Prop} {rest t t1 t2 : TSv} {ta tb te : TEv} {wa : TTv} {tr : TAv} {T : Tab} {fin : List W → TSv} {acc : List W}
def JA (B : Bs wr) (n : Nat) (K : X → σ → SR → Prop) (G : List (Nat × W)) (cs : List (Nat × Cell)) (fin : List W → TSv) (acc : List W) (tr : TAv) (s : σ) (o : O σ X) : Prop :=
  ∀ env r, Ok B.b n G cs env r → RlS B K ((tr env (B.st s ++ r)).thenS fun ws st => fin (acc ++ ws) env st) o
def bindG : List Nat → List W → List (Nat × W) → List (Nat × W)
  | i :: is, w :: ws, G => bindG is ws ((i, w) :: G)
  | _, _, G => G
def setAll (env : Env) : List Nat → List W → Env
  | i :: is, w :: ws => setAll (env.set i (some w)) is ws
  | _, _ => env
theorem setAll_ok {b : Nat} {r : Store} : ∀ {is : List Nat} {ws : List W} {G : List (Nat × W)} {env : Env}, (is.all fun i => decide (i < n)) = true → Ok b n G cs env r → Ok b n (bindG is ws G) cs (setAll env is ws) r
  | [], _, _, _, _, k => k
  | _ :: _, [], _, _, _, k => k
  | i :: is, w :: ws, G, env, h, k => by
    rw [List.all_cons, Bool.and_eq_true] at h
    exact setAll_ok (is := is) (ws := ws) h.2 (k.set (of_decide_eq_true h.1) w)
theorem ja_end {is : List Nat} {o : O σ X} (hi : (is.all fun i => decide (i < n)) = true) (hf : ∀ env st, fin (acc ++ []) env st = rest (setAll env is acc) st) (h : J B n K (bindG is acc G) cs rest s o) : JA B n K G cs fin acc aNil s o := fun env r k => by
  show RlS B K (fin (acc ++ []) env (B.st s ++ r)) o
  rw [hf]
  exact h _ _ (setAll_ok hi k)
theorem ja_v [En α] {o : O σ α} {k : α → σ → O σ X} (h : E B n G cs cs1 ta s o) (hr : ∀ a s1, JA B n K G cs1 fin (acc ++ [w_ a]) tr s1 (k a s1)) : JA B n K G cs fin acc (aCons ta tr) s (o.bind k) := fun env r q => by
  have e : ((aCons ta tr) env (B.st s ++ r)).thenS (fun ws st => fin (acc ++ ws) env st) = (ta env (B.st s ++ r)).thenS fun w st1 => (tr env st1).thenS fun ws st2 => fin ((acc ++ [w]) ++ ws) env st2 := by
    unfold aCons
    cases ta env (B.st s ++ r) with
    | ok w st1 =>
      simp only [Res.bind, Res.thenS]
      cases tr env st1 with
      | ok ws st2 => simp
      | _ => rfl
    | _ => rfl
  rw [e]
  exact (h env r q).thenS fun a s1 r1 _ k1 p1 => hr a s1 env r1 k1
theorem ja_c [En α] {o : O σ (List α)} {k : List α → σ → O σ X} (h : EC B n G cs cs1 ta s o) (hr : ∀ c a s1, JA B n K G ((c, cl_ a) :: cs1) fin (acc ++ [.loc (B.b + c)]) tr s1 (k a s1)) : JA B n K G cs fin acc (aCons ta tr) s (o.bind k) := fun env r q => by
  have e : ((aCons ta tr) env (B.st s ++ r)).thenS (fun ws st => fin (acc ++ ws) env st) = (ta env (B.st s ++ r)).thenS fun w st1 => (tr env st1).thenS fun ws st2 => fin ((acc ++ [w]) ++ ws) env st2 := by
    unfold aCons
    cases ta env (B.st s ++ r) with
    | ok w st1 =>
      simp only [Res.bind, Res.thenS]
      cases tr env st1 with
      | ok ws st2 => simp
      | _ => rfl
    | _ => rfl
  rw [e]
  have z := h env r q
  cases o with
  | no => trivial
  | ex c fs s' => obtain ⟨r', e, k'⟩ := z; rw [e]; exact ⟨r', rfl, k'.cl⟩
  | ok l s1 =>
    obtain ⟨r1, e, k1, p1⟩ := z
    rw [e]
    exact hr r1.length l s1 env _ (k1.new rfl)
def fin2 (i j : Nat) (rest : TSv) : List W → TSv := fun ws env st => match ws with
  | [w1, w2] => rest ((env.set i (some w1)).set j (some w2)) st
  | _ => .stuck
def finU (gs : List TM) (rest : TSv) : List W → TSv := fun ws env st => if small ws.length = true then (match msRun gs ws env st with
  | some r => rest r.1 r.2
  | none => .stuck) else .stuck
theorem j_a2 {i j : Nat} {o : O σ X} (h : JA B n K G cs (fin2 i j rest) [] tr s o) : J B n K G cs (bCons (sPar2 i j tr) rest) s o := fun env r q => by
  have z := h env r q
  have e : bCons (sPar2 i j tr) rest env (B.st s ++ r) = (tr env (B.st s ++ r)).thenS fun ws st => fin2 i j rest ([] ++ ws) env st := by
    unfold bCons sPar2
    cases tr env (B.st s ++ r) with
    | ok w st1 => simp only [Res.thenS]; rcases w with _ | ⟨a, _ | ⟨b, _ | ⟨c, d⟩⟩⟩ <;> rfl
    | _ => rfl
  rw [e]
  exact z
theorem j_aU {gs : List TM} {o : O σ X} (h : JA B n K G cs (finU gs rest) [] tr s o) : J B n K G cs (bCons (sUnp gs tr) rest) s o := fun env r q => by
  have z := h env r q
  have e : bCons (sUnp gs tr) rest env (B.st s ++ r) = (tr env (B.st s ++ r)).thenS fun ws st => finU gs rest ([] ++ ws) env st := by
    unfold bCons sUnp
    cases tr env (B.st s ++ r) with
    | ok w st1 =>
      simp only [Res.thenS, finU, List.nil_append]
      cases hs : small w.length with
      | false => rfl
      | true => simp only [if_true]; cases msRun gs w env st1 <;> rfl
    | _ => rfl
  rw [e]
  exact z
end
end TL

set_option Elab.async false
set_option linter.all false
set_option maxRecDepth 100000
set_option maxHeartbeats 4000000
set_option autoImplicit false
/-! T10: dicts, typed. -/
namespace TL
open VS PySem PySem.Spec PyProof.Rows L2
/-- the one or the other -/
inductive Ei (α β : Type) where
  | a (x : α) | b (x : β)
instance {α β : Type} [En α] [En β] : En (Ei α β) := ⟨fun o => match o with
  | .a x => En.e x
  | .b x => En.e x⟩
class Ky (κ : Type) [En κ] where
  key : κ → Key
  ok : ∀ a, keyF (En.e a) = some (key a)
  inj : ∀ a b, key a = key b → a = b
theorem S_inj {a b : List Nat} (h : S a = S b) : a = b := by
  unfold S at h
  injection h with h
  simpa using h
instance : Ky Int := ⟨fun i => .inl i, fun _ => rfl, fun a b h => by injection h⟩
instance : Ky (List Nat) := ⟨fun i => .inr (S i), fun _ => rfl, fun a b h => by injection h with h; exact S_inj h⟩
instance : Ky Ch := ⟨fun i => .inr (S [i.c]), fun _ => rfl, fun a b h => by
  injection h with h
  have := S_inj h
  cases a; cases b
  simp at this
  rw [this]⟩
section
variable {κ ν : Type} [En κ] [En ν] [Ky κ] [DecidableEq κ]
theorem keyEq_ky (a b : κ) : keyEq (En.e a) (En.e b) = decide (a = b) := by
  rw [keyEq_of (Ky.ok a) (Ky.ok b)]
  exact decide_eq_decide.mpr ⟨Ky.inj a b, fun e => by rw [e]⟩
def eP (p : κ × ν) : F × F := (En.e p.1, En.e p.2)
def lookD (l : List (κ × ν)) (y : κ) : Option ν := (l.find? fun p => decide (p.1 = y)).map (·.2)
def putD (l : List (κ × ν)) (y : κ) (x : ν) : List (κ × ν) :=
  if (l.any fun p => decide (p.1 = y)) = true then l.map (fun p => if p.1 = y then (p.1, x) else p) else l ++ [(y, x)]
def mergeD (l more : List (κ × ν)) : List (κ × ν) := more.foldl (fun acc p => putD acc p.1 p.2) l
theorem lookF_ky (y : κ) : ∀ l : List (κ × ν), lookF (l.map eP) (En.e y) = (lookD l y).map En.e
  | [] => rfl
  | p :: l => by
    have e : keyEq (eP p).1 (En.e y) = decide (p.1 = y) := keyEq_ky p.1 y
    have ih := lookF_ky y l
    unfold lookF lookD at ih ⊢
    rw [List.map_cons]
    by_cases h : p.1 = y
    · rw [List.find?_cons_of_pos (by rw [e]; exact decide_eq_true h), List.find?_cons_of_pos (by exact decide_eq_true h)]
      rfl
    · rw [List.find?_cons_of_neg (by rw [e]; simp [h]), List.find?_cons_of_neg (by simp [h])]
      exact ih
theorem putDF_ky (y : κ) (x : ν) (l : List (κ × ν)) : putDF (l.map eP) (En.e y) (En.e x) = (putD l y x).map eP := by
  unfold putDF putD
  have e : ((l.map eP).any fun p => keyEq p.1 (En.e y)) = (l.any fun p => decide (p.1 = y)) := by
    rw [List.any_map]
    congr 1
    funext p
    exact keyEq_ky p.1 y
  rw [e]
  by_cases h : (l.any fun p => decide (p.1 = y)) = true
  · rw [if_pos h, if_pos h, List.map_map, List.map_map]
    refine List.map_congr_left fun p _ => ?_
    show (if keyEq (En.e p.1) (En.e y) = true then (En.e p.1, En.e x) else eP p) = eP (if p.1 = y then (p.1, x) else p)
    rw [keyEq_ky]
    by_cases q : p.1 = y
    · rw [if_pos (decide_eq_true q), if_pos q]; rfl
    · rw [if_neg (by simp [q]), if_neg q]
  · rw [if_neg h, if_neg h, List.map_append]
    rfl
theorem mergeF_ky : ∀ (m l : List (κ × ν)), mergeF (l.map eP) (m.map eP) = (mergeD l m).map eP
  | [], l => rfl
  | p :: m, l => by
    have ih := mergeF_ky m (putD l p.1 p.2)
    rw [← putDF_ky] at ih
    exact ih
theorem pairsF_ky : ∀ l : List (κ × ν), pairsF (l.map fun p => (w_ p.1, w_ p.2)) = some (l.map eP)
  | [] => rfl
  | p :: l => by
    show (if (keyF (En.e p.1)).isSome = true then (pairsF (l.map fun p => (w_ p.1, w_ p.2))).map ((En.e p.1, En.e p.2) :: ·) else none) = _
    rw [Ky.ok, pairsF_ky l]
    rfl
def dispO {σ : Type} (l : List (κ × ν)) (s : σ) : O σ (Dc κ ν) := if l.length ≤ 15 then .ok (Dc.mk (mergeD [] l)) s else .no
end
section
variable {σ κ ν : Type} {wr : Wr σ} {B : Bs wr} {n : Nat} {G : List (Nat × W)} {cs cs1 cs2 : List (Nat × Cell)} {s : σ} [En κ] [En ν] {ts : List (TEv × TEv)} {tk tv : TEv} {q : σ → O σ (List (κ × ν))}
/-- the pairs of a display -/
def EPs (B : Bs wr) (n : Nat) (G : List (Nat × W)) (cs : List (Nat × Cell)) (ts : List (TEv × TEv)) (q : σ → O σ (List (κ × ν))) : Prop :=
  ∀ s env r k, Ok B.b n G ((k, .dct []) :: cs) env r → Rl B n G ((k, .dct []) :: cs) env r (fun l => l.map fun p => (w_ p.1, w_ p.2)) (pairsV ts env (B.st s ++ r)) (q s)
theorem p_nil : EPs B n G cs [] (fun s => .ok ([] : List (κ × ν)) s) := fun s env r k ok => Rl.mk rfl ok .refl
theorem p_cons {o1 : σ → O σ κ} {o2 : σ → O σ ν} (h1 : ∀ k s, E B n G ((k, .dct []) :: cs) ((k, .dct []) :: cs) tk s (o1 s)) (h2 : ∀ k s, E B n G ((k, .dct []) :: cs) ((k, .dct []) :: cs) tv s (o2 s)) (h : EPs B n G cs ts q) :
    EPs B n G cs ((tk, tv) :: ts) (fun s => (o1 s).bind fun a s1 => (o2 s1).bind fun b s2 => (q s2).bind fun l s3 => .ok ((a, b) :: l) s3) := fun s env r k ok => by
  refine (h1 k s env r ok).bind fun a s1 r1 _ k1 p1 => ?_
  refine Rl.up p1 ((h2 k s1 env r1 k1).bind fun b s2 r2 _ k2 p2 => ?_)
  refine Rl.up p2 ((h s2 env r2 k k2).bind fun l s3 r3 _ k3 p3 => ?_)
  exact Rl.mk rfl k3 p3
theorem clean_take {b m : Nat} {r : Store} (h : clean b r = true) : clean b (r.take m) = true := List.all_eq_true.mpr fun x hx => List.all_eq_true.mp h x (List.mem_of_mem_take hx)
end
end TL

set_option Elab.async false
set_option linter.all false
set_option maxRecDepth 100000
set_option maxHeartbeats 4000000
set_option autoImplicit false
/-! T11: changes of type inside lists and pairs. -/
namespace TL
open VS PySem PySem.Spec PyProof.Rows L2
end TL

set_option Elab.async false
set_option linter.all false
set_option maxRecDepth 100000
set_option maxHeartbeats 4000000
set_option autoImplicit false
/-! T12: own objects' !=. -/
namespace TL
open VS
section
variable {σ α β : Type} {wr : Wr σ} {B : Bs wr} {n : Nat} {G : List (Nat × W)} {cs cs1 : List (Nat × Cell)} {ta tb : TEv} {s : σ} {m : FnM} [En α] [En β] {o1 : O σ α} {o2 : σ → O σ β}
end
section
variable {β : Type} [En β]
end
section
variable {σ X : Type} {wr : Wr σ} {B : Bs wr} {n : Nat} {K : X → σ → SR → Prop} {G : List (Nat × W)} {cs : List (Nat × Cell)} {rest : TSv} {s : σ} {o : O σ X}
theorem ja_e2 {i j : Nat} {a b : W} (hi : ([i, j].all fun i => decide (i < n)) = true) (h : J B n K (bindG [i, j] (([] ++ [a]) ++ [b]) G) cs rest s o) : JA B n K G cs (fin2 i j rest) (([] ++ [a]) ++ [b]) aNil s o :=
  ja_end (is := [i, j]) hi (fun _ _ => rfl) h
end
/-! names that may be unset -/
section
variable {σ α : Type} {wr : Wr σ} {B : Bs wr} {n : Nat} {G : List (Nat × W)} {cs : List (Nat × Cell)} {s : σ} [En α]
end
end TL

set_option Elab.async false
set_option linter.all false
set_option maxRecDepth 100000
set_option maxHeartbeats 4000000
set_option autoImplicit false
/-! T13: list(..) and str(..), typed; the empty dict. -/
namespace TL
open VS
open L2 (atI ixN)
section
variable {σ α : Type} {wr : Wr σ} {B : Bs wr} {n : Nat} {G : List (Nat × W)} {cs : List (Nat × Cell)} {s : σ}
@[irreducible] def listS (t : List Nat) : Option (List Ch) := if small t.length = true then some (t.map Ch.mk) else none
@[irreducible] def strO (i : Int) : Option (List Nat) := if i.natAbs.log2 < 1920 then some (strI i) else none
end
end TL

set_option Elab.async false
set_option linter.all false
set_option maxRecDepth 100000
set_option maxHeartbeats 4000000
set_option autoImplicit false
/-! T14: cells handed to defs that only look at them; defs that tell a new list. -/
namespace TL
open VS
open L2 (atI ixN)
theorem look_deep {st : Store} {w : W} {x : F} (h : look st w = some x) : deepF 0 st 3 w = some x := by
  cases w with
  | f y => cases h; rfl
  | loc n =>
    have h : lookC st[n]? = some x := h
    unfold deepF
    rw [if_pos (Nat.zero_le _)]
    cases q : st[n]? with
    | none => rw [q] at h; cases h
    | some c =>
      rw [q] at h
      cases c <;> first | (cases h; rfl) | cases h
section
variable {σ α β γ R A : Type} {wr : Wr σ} {B : Bs wr} {n : Nat} {G : List (Nat × W)} {cs cs1 : List (Nat × Cell)} {s : σ}
class Sl (α : Type) [En α] : Prop where
  sc : ∀ a : α, flat (En.e a) = true
instance : Sl Int := ⟨fun _ => by unfold flat; rfl⟩
instance : Sl Bool := ⟨fun _ => by unfold flat; rfl⟩
instance : Sl Unit := ⟨fun _ => by unfold flat; rfl⟩
instance : Sl Ch := ⟨fun _ => by unfold flat; rfl⟩
instance : Sl (List Nat) := ⟨fun _ => by unfold flat; rfl⟩
instance {α : Type} [En α] [Sl α] : Sl (Option α) := ⟨fun o => by
  cases o with
  | none => unfold flat; rfl
  | some a => exact Sl.sc a⟩
theorem flats_map {α : Type} [En α] [Sl α] : ∀ l : List α, flats (l.map En.e) = true
  | [] => by rw [List.map_nil]; unfold flats; rfl
  | a :: l => by rw [List.map_cons]; unfold flats; rw [Sl.sc a, flats_map l]; rfl
instance {α β : Type} [En α] [En β] [Sl α] [Sl β] : Sl (α × β) := ⟨fun p => by
  show flat (.tup [En.e p.1, En.e p.2]) = true
  simp only [flat, flats, Sl.sc, Bool.and_self]⟩
instance {α β γ : Type} [En α] [En β] [En γ] [Sl α] [Sl β] [Sl γ] : Sl (T3 α β γ) := ⟨fun p => by
  show flat (.tup [En.e p.a, En.e p.b, En.e p.c]) = true
  simp only [flat, flats, Sl.sc, Bool.and_self]⟩
instance {α : Type} [En α] [Sl α] : Sl (Tu α) := ⟨fun t => by
  show flat (.tup (t.l.map En.e)) = true
  unfold flat
  exact flats_map t.l⟩
/-- arguments that may be cells -/
def EAB {A : Type} [Ar A] (B : Bs wr) (n : Nat) (G : List (Nat × W)) (cs : List (Nat × Cell)) (t : TAv) (s : σ) (q : (β : Type) → (A → σ → O σ β) → O σ β) : Prop :=
  ∃ o : O σ A, (∀ env r, Ok B.b n G cs env r → match o with
    | .ok x s' => ∃ ws r', t env (B.st s ++ r) = .ok ws (B.st s' ++ r') ∧ Ok B.b n G cs env r' ∧ Pr r r' ∧ ∀ s'' r'', Ok B.b n G cs env r'' → ∃ xs, thaw (B.st s'' ++ r'') ws = some xs ∧ xs.map W.f = Ar.ws x
    | .ex c fs s' => ∃ r', t env (B.st s ++ r) = .exc c fs (B.st s' ++ r') ∧ Ok B.b n G [] env r'
    | .no => True) ∧ ∀ β k, q β k = o.bind k
theorem ab_nil : EAB (A := Unit) B n G cs aNil s (fun _ k => k () s) := ⟨.ok () s, fun env r k => ⟨[], r, rfl, k, .refl, fun _ _ _ => ⟨[], rfl, rfl⟩⟩, fun _ _ => rfl⟩
theorem ab_cons [En α] [Ar A] {ta : TEv} {tr : TAv} {o1 : O σ α} {q : σ → (β : Type) → (A → σ → O σ β) → O σ β} (h1 : EL B n G cs cs ta s o1) (h2 : ∀ s1, EAB B n G cs tr s1 (q s1)) :
    EAB B n G cs (aCons ta tr) s (fun β k => o1.bind fun a s1 => q s1 β fun x s2 => k (a, x) s2) := by
  obtain ⟨oa, h3⟩ := Classical.axiomOfChoice h2
  refine ⟨o1.bind fun a s1 => (oa s1).bind fun x s2 => .ok (a, x) s2, fun env r k => ?_, fun β kk => ?_⟩
  · have q1 := h1 env r k
    cases o1 with
    | no => trivial
    | ex c fs s1 =>
      obtain ⟨r1, e, k1⟩ := q1
      refine ⟨r1, ?_, k1⟩
      unfold aCons
      rw [e]; rfl
    | ok a s1 =>
      obtain ⟨w, r1, e, k1, p1, hw⟩ := q1
      have q2 := (h3 s1).1 env r1 k1
      simp only [bind_ok]
      cases e0 : oa s1 with
      | no => trivial
      | ex c fs s2 =>
        rw [e0] at q2
        obtain ⟨r2, e2, k2⟩ := q2
        refine ⟨r2, ?_, k2⟩
        unfold aCons
        rw [e]
        show Res.bind (tr env (B.st s1 ++ r1)) _ = _
        rw [e2]; rfl
      | ok x s2 =>
        rw [e0] at q2
        obtain ⟨ws, r2, e2, k2, p2, hws⟩ := q2
        refine ⟨w :: ws, r2, ?_, k2, p1.trans p2, fun s3 r3 k3 => ?_⟩
        · unfold aCons
          rw [e]
          show Res.bind (tr env (B.st s1 ++ r1)) _ = _
          rw [e2]; rfl
        · obtain ⟨xs, e3, e4⟩ := hws s3 r3 k3
          refine ⟨En.e a :: xs, ?_, ?_⟩
          · show (deepF 0 _ 3 w).bind _ = _
            rw [look_deep (hw s3 r3 env k3), e3]; rfl
          · rw [List.map_cons, e4]; rfl
  · simp only [(h3 _).2, bind_assoc, bind_ok]
theorem bor_ok [Ar A] [En R] [Sl R] {m : FnM} {d : A → P R} (hF : FnP m d) {x : A} {ws : List W} {xs : List F} {st : Store} (h : thaw st ws = some xs) (e : xs.map W.f = Ar.ws x) {a : R} (hd : d x = .ok a ()) : bor m ws st = .ok (w_ a) st := by
  have q := hF [] () x (by unfold Cl; rfl)
  simp only [hd] at q
  have q : m (Ar.ws x) [] = .ok (w_ a) [] := q
  unfold bor
  rw [h]
  show borR st (m (xs.map W.f) []) = _
  rw [e, q]
  show (if flat (En.e a) = true then _ else _) = _
  rw [if_pos (Sl.sc a)]
/-- .. called: raises are not told -/
def noEx {α : Type} (p : P α) : P α := match p with
  | .ok a s => .ok a s
  | _ => .no
theorem e_callB [Ar A] [En R] [Sl R] {m : FnM} {tr : TAv} {d : A → P R} {q : (β : Type) → (A → σ → O σ β) → O σ β} (F : FnP m d) (h : EAB B n G cs tr s q) : E B n G cs cs (eCall (bor m) tr) s (q _ fun x s1 => (noEx (d x)).up s1) := fun env r k => by
  obtain ⟨o, h, hq⟩ := h
  rw [hq]
  have z := h env r k
  unfold eCall
  cases o with
  | no => trivial
  | ex c fs s1 => obtain ⟨r1, e, k1⟩ := z; rw [e]; exact ⟨r1, rfl, k1⟩
  | ok x s1 =>
    obtain ⟨ws, r1, e, k1, p1, hw⟩ := z
    rw [e]
    show Rl _ _ _ _ _ _ _ (bor m ws (B.st s1 ++ r1)) ((noEx (d x)).up s1)
    obtain ⟨xs, e1, e2⟩ := hw s1 r1 k1
    cases hd : d x with
    | no => trivial
    | ex c fs u => trivial
    | ok a u => exact Rl.mk (bor_ok F e1 e2 hd) k1 p1
theorem noEx_ok {α : Type} {p : P α} {a : α} (h : p = .ok a ()) : noEx p = .ok a () := by rw [h]; rfl
end
end TL
namespace TL
open VS
open L2 (atI ixN)
section
variable {σ α β γ R A X : Type} {wr : Wr σ} {B : Bs wr} {n : Nat} {G : List (Nat × W)} {cs cs1 cs2 : List (Nat × Cell)} {s : σ} {K : X → σ → SR → Prop} {rest t : TSv} {te tc to : TEv} {tr : TAv} {m : FnM}
end
end TL

set_option Elab.async false
set_option linter.all false
set_option maxRecDepth 100000
set_option maxHeartbeats 4000000
set_option autoImplicit false
/-! T15: objects whose lists are cells: while they are made. -/
namespace TL
open VS
open L2 (atI ixN)
section
variable {σ α β γ R A X : Type} {wr : Wr σ} {B : Bs wr} {n : Nat} {G : List (Nat × W)} {cs cs1 cs2 : List (Nat × Cell)} {s : σ} {K : X → σ → SR → Prop} {rest t : TSv} {ta tb te tc to : TEv} {tr : TAv} {m : FnM} {T : Tab}
/-- the fields of an object, some of them cells -/
inductive OF (b : Nat) (cs : List (Nat × Cell)) : List (Nat × W) → List (Nat × F) → Prop
  | nil : OF b cs [] []
  | val {i : Nat} {x : F} {fs : List (Nat × W)} {xs : List (Nat × F)} : OF b cs fs xs → OF b cs ((i, .f x) :: fs) ((i, x) :: xs)
  | cell {i k : Nat} {ys : List F} {fs : List (Nat × W)} {xs : List (Nat × F)} : (k, Cell.lstF ys) ∈ cs → OF b cs fs xs → OF b cs ((i, .loc (b + k)) :: fs) ((i, .lst ys) :: xs)
theorem of_deep {env : Env} {r : Store} (q : Ok B.b n G cs env r) {b m : Nat} (hb : b ≤ B.b) : ∀ {fs : List (Nat × W)} {xs : List (Nat × F)}, OF B.b cs fs xs → (fs.mapM fun p => (deepF b (B.st s ++ r) (m + 1) p.2).map fun x => (p.1, x)) = some xs
  | _, _, .nil => rfl
  | _, _, .val (i := i) (x := x) (fs := fs) t => by
    have ih := of_deep q (m := m) hb t
    rw [List.mapM_cons, ih]
    simp [deepF]
  | _, _, .cell (i := i) (k := k) (ys := ys) (fs := fs) hc t => by
    have ih := of_deep q (m := m) hb t
    rw [List.mapM_cons, ih]
    have e : deepF b (B.st s ++ r) (m + 1) (.loc (B.b + k)) = some (.lst ys) := by
      unfold deepF
      rw [if_pos (by omega), st_get, q.cell _ _ hc]
    simp [e]
theorem ob_deep [En α] {env : Env} {r : Store} (q : Ok B.b n G cs env r) {b k c : Nat} (hb : b ≤ B.b) {fs : List (Nat × W)} {xs : List (Nat × F)} {x : α} (hm : (k, .ins c fs) ∈ cs) (ho : OF B.b cs fs xs) (he : (En.e x : F) = .obj c xs) :
    deepF b (B.st s ++ r) 3 (.loc (B.b + k)) = some (En.e x) := by
  rw [he]
  unfold deepF
  rw [if_pos (by omega), st_get, q.cell _ _ hm]
  simp only
  rw [of_deep q hb ho]
  rfl
theorem ob_cls {env : Env} {r : Store} (q : Ok B.b n G cs env r) {k c : Nat} {fs : List (Nat × W)} (hm : (k, .ins c fs) ∈ cs) : clsW (B.st s ++ r) (.loc (B.b + k)) = some c := by
  show (match (B.st s ++ r)[B.b + k]? with
    | some (.ins c _) => some c
    | _ => none) = _
  rw [st_get, q.cell _ _ hm]
/-- a method of an object that is being made -/
theorem e_methB [En α] [Ar A] [En R] [Sl R] {c i0 k : Nat} {fs : List (Nat × W)} {xs : List (Nat × F)} {x : α} {d : α × A → P R} {q : (β : Type) → (A → σ → O σ β) → O σ β} (hv : lk G i0 = some (.loc (B.b + k))) (hm : (k, .ins c fs) ∈ cs) (ho : OF B.b cs fs xs) (he : (En.e x : F) = .obj c xs) (F : FnP m d) (h : EAB B n G cs tr s q) :
    E B n G cs cs (eMeth c (bor m) (eVar i0) tr) s (q _ fun y s1 => (noEx (d (x, y))).up s1) := fun env r kk => by
  obtain ⟨o, h, hq⟩ := h
  rw [hq]
  have z := h env r kk
  have ev : eVar i0 env (B.st s ++ r) = .ok (.loc (B.b + k)) (B.st s ++ r) := by
    unfold eVar
    rw [kk.var i0 _ hv]
  unfold eMeth
  rw [ev]
  simp only [Res.bind]
  rw [if_pos (ob_cls kk hm)]
  cases o with
  | no => trivial
  | ex c fs s1 => obtain ⟨r1, e, k1⟩ := z; rw [e]; exact ⟨r1, rfl, k1⟩
  | ok y s1 =>
    obtain ⟨ws, r1, e, k1, p1, hw⟩ := z
    rw [e]
    obtain ⟨ys, e1, e2⟩ := hw s1 r1 k1
    simp only [bind_ok]
    cases hd : d (x, y) with
    | no => trivial
    | ex c fs u => trivial
    | ok a u =>
      refine Rl.mk ?_ k1 p1
      have e3 : thaw (B.st s1 ++ r1) (.loc (B.b + k) :: ws) = some (En.e x :: ys) := by
        show (deepF 0 _ 3 _).bind _ = _
        rw [ob_deep k1 (Nat.zero_le _) hm ho he, e1]
        rfl
      exact bor_ok (x := (x, y)) F e3 (by rw [List.map_cons, e2]; rfl) hd
theorem e_methBU [En α] [Ar A] [En R] [Sl R] {B : Bs wU} {s : Unit} {c i0 k : Nat} {fs : List (Nat × W)} {xs : List (Nat × F)} {x : α} {d : α × A → P R} {q : (β : Type) → (A → Unit → O Unit β) → O Unit β} (hv : lk G i0 = some (.loc (B.b + k))) (hm : (k, .ins c fs) ∈ cs) (ho : OF B.b cs fs xs) (he : (En.e x : F) = .obj c xs) (F : FnP m d) (h : EAB B n G cs tr s q) :
    E B n G cs cs (eMeth c (bor m) (eVar i0) tr) s (q _ fun y _ => noEx (d (x, y))) := fun env r k => by
  have z := e_methB hv hm ho he F h env r k
  simp only [up_unit] at z
  exact z
/-- self.f, a list's cell -/
theorem el_attrF [En α] {c i i0 k k' : Nat} {fs : List (Nat × W)} {l : List α} (hv : lk G i0 = some (.loc (B.b + k))) (hm : (k, .ins c fs) ∈ cs) (hf : fs.lookup i = some (.loc (B.b + k'))) (hc : (k', cl_ l) ∈ cs) : EL B n G cs cs (eAttr i (eVar i0)) s (.ok l s) := fun env r q => by
  have ev : eVar i0 env (B.st s ++ r) = .ok (.loc (B.b + k)) (B.st s ++ r) := by
    unfold eVar
    rw [q.var i0 _ hv]
  refine ⟨.loc (B.b + k'), r, ?_, q, .refl, fun s2 r2 env2 ok2 => ?_⟩
  · unfold eAttr
    rw [ev]
    show ofW (match (B.st s ++ r)[B.b + k]? with
      | some (.ins _ fs) => fs.lookup i
      | _ => none) _ = _
    rw [st_get, q.cell _ _ hm]
    show ofW (fs.lookup i) _ = _
    rw [hf]; rfl
  · show lookC (B.st s2 ++ r2)[B.b + k']? = _
    rw [st_get, ok2.cell _ _ hc]
    rfl
theorem e_ixEL [En α] {o1 : O σ (List α)} {oi : σ → O σ Int} (h1 : EL B n G cs cs ta s o1) (h2 : ∀ s1, E B n G cs cs tb s1 (oi s1)) : E B n G cs cs (eIx ta tb) s (o1.bind fun l s1 => (oi s1).bind fun i s2 => ofO (atI l i) s2) := fun env r q => by
  unfold eIx
  refine h1.bind q fun l s1 w r1 k1 p1 hw => ?_
  refine Rl.up p1 ?_
  refine (h2 s1 env r1 k1).bind fun i s2 r2 _ k2 p2 => ?_
  refine Rl.opt (fun a ha => ?_) k2 p2
  have hl := hw s2 r2 env k2
  cases w with
  | f x =>
    have hl : x = F.lst (l.map En.e) := Option.some.inj hl
    subst hl
    show ofW ((atI (l.map En.e) i).map W.f) _ = _
    rw [atI_map, ha]; rfl
  | loc nn =>
    have hl : lookC (B.st s2 ++ r2)[nn]? = some (F.lst (l.map En.e)) := hl
    show ofW (ixC i (B.st s2 ++ r2)[nn]?) _ = _
    cases hq : (B.st s2 ++ r2)[nn]? with
    | none => rw [hq] at hl; cases hl
    | some cc =>
      rw [hq] at hl
      cases cc with
      | lstF ys =>
        cases hl
        show ofW ((atI (l.map En.e) i).map W.f) _ = _
        rw [atI_map, ha]; rfl
      | dct _ => cases hl
      | dti _ => cases hl
      | dead => cases hl
      | lstW _ => cases hl
      | ins _ _ => cases hl
theorem j_appA [En α] {c i i0 k k' p : Nat} {fs : List (Nat × W)} {l : List α} {o : O σ α} {kk : List α → σ → O σ X} (hv : lk G i0 = some (.loc (B.b + k))) (hm : (k, .ins c fs) ∈ cs) (hf : fs.lookup i = some (.loc (B.b + k'))) (h : E B n G cs cs1 te s o) (hc0 : (k', cl_ l) ∈ cs) (hp : cs1[p]? = some (k', cl_ l))
    (hr : ∀ l' s1, J B n K G (cs1.set p (k', cl_ l')) rest s1 (kk l' s1)) : J B n K G cs (bCons (sExpr (eMut false cAppend (eAttr i (eVar i0)) (aCons te aNil))) rest) s (o.bind fun a s1 => (appO l a s1).bind kk) := fun env r q => by
  have ev : eAttr i (eVar i0) env (B.st s ++ r) = .ok (.loc (B.b + k')) (B.st s ++ r) := by
    have e0 : eVar i0 env (B.st s ++ r) = .ok (.loc (B.b + k)) (B.st s ++ r) := by
      unfold eVar
      rw [q.var i0 _ hv]
    unfold eAttr
    rw [e0]
    show ofW (match (B.st s ++ r)[B.b + k]? with
      | some (.ins _ fs) => fs.lookup i
      | _ => none) _ = _
    rw [st_get, q.cell _ _ hm]
    show ofW (fs.lookup i) _ = _
    rw [hf]; rfl
  have e : bCons (sExpr (eMut false cAppend (eAttr i (eVar i0)) (aCons te aNil))) rest env (B.st s ++ r) = (te env (B.st s ++ r)).thenS fun w st1 => (doCell cAppend (B.b + k') [w] st1).thenS fun _ st2 => rest env st2 := by
    unfold bCons sExpr eMut aCons aNil
    rw [ev]
    simp only [Res.bind]
    rw [if_pos (by rw [st_get, q.cell _ _ hc0]; rfl)]
    cases te env (B.st s ++ r) with
    | ok w st1 =>
      simp only [Res.bind, Res.thenS]
      cases doCell cAppend (B.b + k') [w] st1 <;> rfl
    | _ => rfl
  rw [e]
  refine (h env r q).thenS fun a s1 r1 _ k1 p1 => ?_
  have hc := k1.cell _ _ (List.mem_of_getElem? hp)
  unfold appO
  by_cases hl : small (l.length + 1) = true
  · rw [if_pos hl]
    have e5 : doCell cAppend (B.b + k') [w_ a] (B.st s1 ++ r1) = .ok (.f .non) (B.st s1 ++ r1.set k' (cl_ (l ++ [a]))) := by
      unfold doCell
      rw [st_get, hc]
      simp only [cAppend]
      rw [if_pos (by rw [List.length_map]; exact hl)]
      simp only [st_set]
      show Res.ok _ (B.st s1 ++ r1.set k' (.lstF (l.map En.e ++ [En.e a]))) = Res.ok _ (B.st s1 ++ r1.set k' (.lstF ((l ++ [a]).map En.e)))
      rw [List.map_append]
      rfl
    simp only [ofO, bind_ok]
    rw [e5]
    simp only [Res.thenS]
    exact hr _ s1 env _ (k1.write hp rfl)
  · rw [if_neg hl]; trivial
/-! several fields at once -/
def putAll : List Nat → List W → List (Nat × W) → List (Nat × W)
  | i :: is, w :: ws, fs => putAll is ws (putA i w fs)
  | _, _, fs => fs
theorem putA_len (i : Nat) (w : W) : ∀ fs : List (Nat × W), (putA i w fs).length ≤ fs.length + 1
  | [] => by simp [putA]
  | (j, u) :: r => by
    unfold putA
    split
    · simp
    · have := putA_len i w r; simp only [List.length_cons]; omega
theorem ms_attr {i0 k c : Nat} {env : Env} (hv : env[i0]? = some (some (.loc (B.b + k)))) : ∀ (is : List Nat) (ws : List W) (fs : List (Nat × W)) (r : Store), is.length = ws.length → (is.all fun i => T.okf c i) = true → fs.length + is.length < 1000 → r[k]? = some (.ins c fs) →
    msRun (is.map fun i => mAt T i (eVar i0)) ws env (B.st s ++ r) = some (env, B.st s ++ r.set k (.ins c (putAll is ws fs)))
  | [], [], fs, r, _, _, _, hr => by
    show some (env, B.st s ++ r) = _
    unfold putAll
    have : r.set k (.ins c fs) = r := by
      apply List.ext_getElem?
      intro j
      by_cases hj : k = j
      · subst hj
        rw [List.getElem?_set_self (List.getElem?_eq_some_iff.mp hr).1, hr]
      · rw [List.getElem?_set_ne hj]
    rw [this]
  | [], _ :: _, _, _, h, _, _, _ => by simp at h
  | _ :: _, [], _, _, h, _, _, _ => by simp at h
  | i :: is, w :: ws, fs, r, hl, ho, hf, hr => by
    rw [List.all_cons, Bool.and_eq_true] at ho
    simp only [List.length_cons] at hl hf
    have hk := (List.getElem?_eq_some_iff.mp hr).1
    have e1 : mAt T i (eVar i0) w env (B.st s ++ r) = some (env, B.st s ++ r.set k (.ins c (putA i w fs))) := by
      unfold mAt eVar
      rw [hv]
      show (setA T i w (B.st s ++ r) (.loc (B.b + k))).map _ = _
      have e2 : setA T i w (B.st s ++ r) (.loc (B.b + k)) = some (B.st s ++ r.set k (.ins c (putA i w fs))) := by
        show (match (B.st s ++ r)[B.b + k]? with
          | some (.ins c fs) => if T.okf c i = true ∧ fs.length < 1000 then some ((B.st s ++ r).set (B.b + k) (Cell.ins c (putA i w fs))) else none
          | _ => none) = _
        rw [st_get, hr]
        show (if T.okf c i = true ∧ fs.length < 1000 then some ((B.st s ++ r).set (B.b + k) (Cell.ins c (putA i w fs))) else none) = _
        rw [if_pos ⟨ho.1, by omega⟩, st_set]
      rw [e2]
      rfl
    show (mAt T i (eVar i0) w env (B.st s ++ r)).bind (fun x => msRun (is.map fun i => mAt T i (eVar i0)) ws x.1 x.2) = _
    rw [e1]
    have hp := putA_len i w fs
    have ih := ms_attr hv is ws (putA i w fs) (r.set k (.ins c (putA i w fs))) (by omega) ho.2 (by omega) (List.getElem?_set_self hk)
    rw [List.set_set] at ih
    exact ih
theorem below_putW {b i : Nat} {w : W} (hw : w.below b = true) : ∀ {fs : List (Nat × W)}, (fs.all fun p => p.2.below b) = true → ((putA i w fs).all fun p => p.2.below b) = true
  | [], _ => by show (w.below b && true) = true; rw [hw]; rfl
  | (j, u) :: fs, h => by
    rw [List.all_cons, Bool.and_eq_true] at h
    unfold putA
    by_cases hj : j = i
    · rw [if_pos hj, List.all_cons, Bool.and_eq_true]; exact ⟨hw, h.2⟩
    · rw [if_neg hj, List.all_cons, Bool.and_eq_true]; exact ⟨h.1, below_putW hw h.2⟩
theorem below_all' {b : Nat} : ∀ {is : List Nat} {ws : List W} {fs : List (Nat × W)}, (∀ w ∈ ws, w.below b = true) → (fs.all fun p => p.2.below b) = true → ((putAll is ws fs).all fun p => p.2.below b) = true
  | [], _, _, _, h => by unfold putAll; exact h
  | _ :: _, [], _, _, h => by unfold putAll; exact h
  | i :: is, w :: ws, fs, hw, h => by
    unfold putAll
    exact below_all' (fun x hx => hw x (by simp [hx])) (below_putW (hw w (by simp)) h)
/-- the values of the targets: data, or cells that are known -/
def AccOk (b : Nat) (cs : List (Nat × Cell)) (w : W) : Prop := (∃ x, w = .f x) ∨ ∃ k c, w = .loc (b + k) ∧ (k, c) ∈ cs
theorem acc_nil {b : Nat} : ∀ w ∈ ([] : List W), AccOk b cs w := fun w hw => absurd hw (by simp)
theorem acc_app {b : Nat} {acc : List W} {w : W} (h : ∀ w ∈ acc, AccOk b cs w) (hw : AccOk b cs w) : ∀ x ∈ acc ++ [w], AccOk b cs x := fun x hx => by
  rcases List.mem_append.mp hx with q | q
  · exact h x q
  · rw [List.mem_singleton] at q; subst q; exact hw
theorem acc_c {b k : Nat} {c : Cell} (h : (k, c) ∈ cs) : AccOk b cs (.loc (b + k)) := .inr ⟨k, c, rfl, h⟩
theorem ja_endA {i0 k c p : Nat} {is : List Nat} {acc : List W} {fs : List (Nat × W)} {o : O σ X} (hv : lk G i0 = some (.loc (B.b + k))) (hT : (is.all fun i => T.okf c i) = true) (hp : cs[p]? = some (k, .ins c fs)) (hl : is.length = acc.length) (hf : fs.length + is.length < 1000)
    (ha : ∀ w ∈ acc, AccOk B.b cs w) (h : J B n K G (cs.set p (k, .ins c (putAll is acc fs))) rest s o) : JA B n K G cs (finU (is.map fun i => mAt T i (eVar i0)) rest) acc aNil s o := fun env r q => by
  show RlS B K (finU (is.map fun i => mAt T i (eVar i0)) rest (acc ++ []) env (B.st s ++ r)) o
  rw [List.append_nil]
  unfold finU
  have hm := q.cell _ _ (List.mem_of_getElem? hp)
  rw [if_pos (by unfold small; exact decide_eq_true (by omega)), ms_attr (q.var i0 _ hv) is acc fs r hl hT hf hm]
  refine h env _ (q.write hp ?_)
  have hb : Cell.below (B.b + r.length) (.ins c fs) = true := List.all_eq_true.mp q.cl _ (List.mem_of_getElem? hm)
  refine below_all' (fun w hw => ?_) hb
  rcases ha w hw with ⟨x, rfl⟩ | ⟨k', c', rfl, hk⟩
  · rfl
  · have := q.cell_lt hk
    show decide (B.b + k' < B.b + r.length) = true
    exact decide_eq_true (by omega)
/-! the end of __init__ -/
def Ki2 [En R] (c : Nat) (B : Bs wU) : R → Unit → SR → Prop := fun x _ sr => ∃ r' fs xs i k, ((∃ env', sr = .nx env' (B.rest ++ r')) ∨ sr = .rt (.f .non) (B.rest ++ r')) ∧ r'[0]? = some (.ins c fs) ∧ (i, W.loc (B.b + (k + 1))) ∈ fs ∧ deepF B.b (B.rest ++ r') 3 (.loc (B.b + 0)) = some (.obj c xs) ∧ (En.e x : F) = .obj c xs
theorem end_i2 [En R] {B : Bs wU} {c i k : Nat} {ys : List F} {x : R} {fs : List (Nat × W)} {xs : List (Nat × F)} (hm : (0, Cell.ins c fs) ∈ cs) (ho : OF B.b cs fs xs) (hc : (k, Cell.lstF ys) ∈ cs) (hi : (i, W.loc (B.b + k)) ∈ fs) (he : (En.e x : F) = .obj c xs) : EndK B n (Ki2 c B) G cs x := fun env r s q => by
  obtain ⟨k', rfl⟩ : ∃ k', k = k' + 1 := by
    cases k with
    | zero =>
      have h1 := q.cell _ _ hm
      have h2 := q.cell _ _ hc
      rw [h1] at h2
      cases h2
    | succ k' => exact ⟨k', rfl⟩
  refine ⟨r, fs, xs, i, k', .inl ⟨env, rfl⟩, q.cell _ _ hm, hi, ?_, he⟩
  have := ob_deep (s := s) (b := B.b) q (Nat.le_refl _) hm ho he
  rw [he] at this
  exact this
theorem mk_ok2 [En R] [Ar A] {np c : Nat} {d : A → P R} (hw : ∀ a : A, (Ar.ws a).length + 1 = np) (hn : np ≤ n) (h : ∀ (B : Bs wU) (a : A) (s : Unit), J B n (Ki2 c B) (argG 0 (.loc (B.b + 0) :: Ar.ws a)) [(0, .ins c [])] t s (d a)) : FnP (mkF c (fnM np n t)) d := fun rest s a hcl => by
  have hcl : Cl rest := hcl
  have z := h (mkB wU rest () hcl) a () ((W.loc (rest.length + 0) :: Ar.ws a).map some ++ List.replicate (n - (W.loc (rest.length + 0) :: Ar.ws a).length) none) [.ins c []] (ok_start (by rw [List.length_cons, hw]; exact hn) (by simp [clean, Cell.below]) (by simp) (fun k c' q => by simp at q; obtain ⟨rfl, rfl⟩ := q; rfl))
  have z : RlS (mkB wU rest () hcl) (Ki2 c (mkB wU rest () hcl)) (t ((W.loc (rest.length + 0) :: Ar.ws a).map some ++ List.replicate (n - (W.loc (rest.length + 0) :: Ar.ws a).length) none) (rest ++ [.ins c []])) (d a) := z
  rw [Nat.add_zero] at z
  have e : fnM np n t (W.loc rest.length :: Ar.ws a) (rest ++ [.ins c []]) = (match t ((W.loc rest.length :: Ar.ws a).map some ++ List.replicate (n - (W.loc rest.length :: Ar.ws a).length) none) (rest ++ [.ins c []]) with
      | .rt w st1 => retW (rest ++ [Cell.ins c []]).length w st1
      | .nx _ st1 => retW (rest ++ [Cell.ins c []]).length (.f .non) st1
      | .exc c fs st1 => .exc c fs st1
      | _ => .stuck) := by
    unfold fnM runFn
    rw [if_pos (by rw [List.length_cons]; exact hw a)]
    all_goals (cases t ((W.loc rest.length :: Ar.ws a).map some ++ List.replicate (n - (W.loc rest.length :: Ar.ws a).length) none) (rest ++ [.ins c []]) <;> rfl)
  dsimp only
  cases ed : d a with
  | no => trivial
  | ex c' fs s' =>
    rw [ed] at z
    obtain ⟨r', e1, e2⟩ := z
    refine ⟨r', ?_, ?_⟩
    · show mkF c (fnM np n t) (Ar.ws a) rest = .exc c' fs (rest ++ r')
      unfold mkF
      rw [e, e1]
      rfl
    · show Cl (rest ++ r')
      unfold Cl VS.clean at hcl ⊢
      rw [List.all_append, Bool.and_eq_true, List.length_append]
      exact ⟨below_all (Nat.le_add_right _ _) hcl, e2⟩
  | ok x s' =>
    rw [ed] at z
    obtain ⟨r', fs, xs, i, k, e1, e2, e3, e4, e5⟩ := z
    have hb : (mkB wU rest () hcl).b = rest.length := rfl
    have hrr : (mkB wU rest () hcl).rest = rest := rfl
    rw [hb] at e3 e4
    rw [hrr] at e1 e4
    rw [Nat.add_zero] at e4
    obtain ⟨r2, rfl⟩ : ∃ r2, r' = .ins c fs :: r2 := by
      cases r' with
      | nil => cases e2
      | cons y r2 => simp at e2; subst e2; exact ⟨r2, rfl⟩
    have hnc : clean (rest.length + 1) ((rest ++ .ins c fs :: r2).take (rest.length + 1)) = false := by
      have : (rest ++ .ins c fs :: r2).take (rest.length + 1) = rest ++ [.ins c fs] := by
        rw [List.take_append, List.take_of_length_le (by omega), show rest.length + 1 - rest.length = 1 by omega]
        rfl
      rw [this]
      unfold clean
      rw [List.all_append, Bool.and_eq_false_iff]
      right
      show (Cell.below (rest.length + 1) (.ins c fs) && true) = false
      rw [Bool.and_true]
      show (fs.all fun p => p.2.below (rest.length + 1)) = false
      rw [List.all_eq_false]
      refine ⟨_, e3, ?_⟩
      show ¬ (decide (rest.length + (k + 1) < rest.length + 1) = true)
      simp
    have er : retW (rest ++ [Cell.ins c []]).length (.f .non) (rest ++ .ins c fs :: r2) = .ok (.f .non) (rest ++ .ins c fs :: r2) := by
      unfold retW
      rw [List.length_append, List.length_singleton, hnc]
    have e6 : fnM np n t (W.loc rest.length :: Ar.ws a) (rest ++ [.ins c []]) = .ok (.f .non) (rest ++ .ins c fs :: r2) := by
      rw [e]
      rcases e1 with ⟨env', e1⟩ | e1
      · rw [e1]; exact er
      · rw [e1]; exact er
    show mkF c (fnM np n t) (Ar.ws a) rest = .ok (w_ x) rest
    unfold mkF
    rw [e6]
    show frz rest.length (.loc rest.length) (rest ++ .ins c fs :: r2) = _
    unfold frz
    rw [e4, List.take_left]
    simp only
    have hc : clean rest.length rest = true := hcl
    rw [if_pos hc, ← e5]
end
end TL

set_option Elab.async false
set_option linter.all false
set_option maxRecDepth 100000
set_option maxHeartbeats 4000000
set_option autoImplicit false
/-! T16: thing in object, xs[::-1], xs.count, xs.insert(0, x). -/
namespace TL
open VS
open L2 (atI ixN)
section
variable {σ α β γ R A X : Type} {wr : Wr σ} {B : Bs wr} {n : Nat} {G : List (Nat × W)} {cs cs1 cs2 : List (Nat × Cell)} {s : σ} {K : X → σ → SR → Prop} {rest t : TSv} {ta tb te tc to : TEv} {tr : TAv} {m : FnM} {T : Tab}
theorem e_inO [En α] [En β] {o1 : O σ β} {o2 : σ → O σ α} {c : Nat} {neg : Bool} {d : α × β × Unit → P Bool} (hc : ∀ (a : α) st, clsW st (w_ a) = some c) (F : FnP m d) (h1 : E B n G cs cs1 ta s o1) (h2 : ∀ s1, E B n G cs1 cs1 tb s1 (o2 s1)) :
    E B n G cs cs1 (eInO c neg m ta tb) s (o1.bind fun b s1 => (o2 s1).bind fun a s2 => ((d (a, b, ())).up s2).bind fun q s3 => .ok (xor q neg) s3) := fun env r k => by
  unfold eInO
  refine (h1 env r k).bind fun b s1 r1 _ k1 hl => ?_
  refine Rl.up hl ?_
  refine (h2 s1 env r1 k1).bind fun a s2 r2 _ k2 hl2 => ?_
  refine Rl.up hl2 ?_
  unfold backBl own2
  rw [if_pos (hc a _)]
  have z := callP (s := s2) F k2 (a, b, ())
  refine z.bind fun q s3 r3 _ k3 p3 => ?_
  refine Rl.mk ?_ k3 p3
  cases neg <;> cases q <;> rfl
theorem e_inOU [En α] [En β] {B : Bs wU} {s : Unit} {o1 : P β} {o2 : Unit → P α} {c : Nat} {neg : Bool} {d : α × β × Unit → P Bool} (hc : ∀ (a : α) st, clsW st (w_ a) = some c) (F : FnP m d) (h1 : E B n G cs cs1 ta s o1) (h2 : ∀ s1, E B n G cs1 cs1 tb s1 (o2 s1)) :
    E B n G cs cs1 (eInO c neg m ta tb) s (o1.bind fun b s1 => (o2 s1).bind fun a s2 => (d (a, b, ())).bind fun q _ => .ok (xor q neg) ()) := fun env r k => by
  have q := e_inO (neg := neg) hc F h1 h2 env r k
  simp only [up_unit] at q
  exact q
end
end TL

set_option Elab.async false
set_option linter.all false
set_option maxRecDepth 100000
set_option maxHeartbeats 4000000
set_option autoImplicit false
/-! T17: data of any kind; lists that hold other lists' cells. -/
namespace TL
open VS
open L2 (atI ixN)
/-! ### data of any kind read as typed -/
class De (α : Type) [En α] where
  d : F → Option α
  de : ∀ x a, d x = some a → (En.e a : F) = x
  ed : ∀ a : α, d (En.e a) = some a
def deI : F → Option Int
  | .int i => some i
  | _ => none
def deB : F → Option Bool
  | .bl i => some i
  | _ => none
def deS : F → Option (List Nat)
  | .str i => some i
  | _ => none
def deC : F → Option Ch
  | .str [c] => some ⟨c⟩
  | _ => none
def deU : F → Option Unit
  | .non => some ()
  | _ => none
instance : De Int := ⟨deI, fun x a h => (by cases x <;> first | (cases h; rfl) | cases h), fun _ => rfl⟩
instance : De Bool := ⟨deB, fun x a h => (by cases x <;> first | (cases h; rfl) | cases h), fun _ => rfl⟩
instance : De Unit := ⟨deU, fun x a h => (by cases x <;> first | (cases h; rfl) | cases h), fun _ => rfl⟩
instance : De F := ⟨some, fun x a h => by cases h; rfl, fun _ => rfl⟩
theorem deC_de (x : F) (a : Ch) (h : deC x = some a) : (En.e a : F) = x := by
  unfold deC at h
  split at h
  · cases h; rfl
  · cases h
instance : De Ch := ⟨deC, deC_de, fun _ => rfl⟩
def mapD {α : Type} (f : F → Option α) : List F → Option (List α)
  | [] => some []
  | x :: xs => (f x).bind fun a => (mapD f xs).map (a :: ·)
theorem mapD_de {α : Type} [En α] [De α] : ∀ (xs : List F) (l : List α), mapD De.d xs = some l → l.map En.e = xs
  | [], l, h => by cases h; rfl
  | x :: xs, l, h => by
    obtain ⟨a, e1, h⟩ := opt_bind_some (show (De.d x).bind (fun a => (mapD De.d xs).map (a :: ·)) = some l from h)
    obtain ⟨l', e2, rfl⟩ := opt_map_some h
    rw [List.map_cons, De.de x a e1, mapD_de xs l' e2]
theorem mapD_ed {α : Type} [En α] [De α] : ∀ l : List α, mapD (De.d (α := α)) (l.map En.e) = some l
  | [] => rfl
  | a :: l => by
    show (De.d (En.e a : F)).bind (fun a => (mapD De.d (l.map En.e)).map (a :: ·)) = some (a :: l)
    rw [De.ed, mapD_ed l]; rfl
def deL {α : Type} (f : F → Option α) : F → Option (List α)
  | .lst xs => mapD f xs
  | _ => none
def deT {α : Type} (f : F → Option α) : F → Option (Tu α)
  | .tup xs => (mapD f xs).map Tu.mk
  | _ => none
def deP {α β : Type} (f : F → Option α) (g : F → Option β) : F → Option (α × β)
  | .tup [x, y] => (f x).bind fun a => (g y).map fun b => (a, b)
  | _ => none
theorem deL_de {α : Type} [En α] [De α] (x : F) (a : List α) (h : deL De.d x = some a) : (F.lst (a.map En.e) : F) = x := by
  cases x with
  | lst xs => rw [mapD_de xs a h]
  | _ => cases h
instance {α : Type} [En α] [De α] : De (List α) := ⟨deL De.d, deL_de, fun a => mapD_ed a⟩
instance : De (List Nat) := ⟨deS, fun x a h => (by cases x <;> first | (cases h; rfl) | cases h), fun _ => rfl⟩
theorem deT_de {α : Type} [En α] [De α] (x : F) (a : Tu α) (h : deT De.d x = some a) : (En.e a : F) = x := by
  cases x with
  | tup xs =>
    obtain ⟨l, e, rfl⟩ := opt_map_some (show (mapD De.d xs).map Tu.mk = some a from h)
    show F.tup (l.map En.e) = _
    rw [mapD_de xs l e]
  | _ => cases h
theorem deT_ed {α : Type} [En α] [De α] (a : Tu α) : deT De.d (En.e a) = some a := by
  show (mapD De.d (a.l.map En.e)).map Tu.mk = some a
  rw [mapD_ed]; rfl
instance {α : Type} [En α] [De α] : De (Tu α) := ⟨deT De.d, deT_de, deT_ed⟩
theorem deP_de {α β : Type} [En α] [En β] [De α] [De β] (x : F) (a : α × β) (h : deP De.d De.d x = some a) : (En.e a : F) = x := by
  unfold deP at h
  split at h
  · rename_i x y
    obtain ⟨u, e1, h⟩ := opt_bind_some h
    obtain ⟨v, e2, rfl⟩ := opt_map_some h
    show F.tup [En.e u, En.e v] = _
    rw [De.de x u e1, De.de y v e2]
  · cases h
theorem deP_ed {α β : Type} [En α] [En β] [De α] [De β] (a : α × β) : deP De.d De.d (En.e a) = some a := by
  show (De.d (En.e a.1 : F)).bind (fun x => (De.d (En.e a.2 : F)).map fun b => (x, b)) = some a
  rw [De.ed, De.ed]; rfl
instance {α β : Type} [En α] [En β] [De α] [De β] : De (α × β) := ⟨deP De.d De.d, deP_de, deP_ed⟩
/-- a list or a tuple of two things -/
structure P2 where
  il : Bool
  a : F
  b : F
instance : En P2 := ⟨fun p => match p.il with
  | true => F.lst [p.a, p.b]
  | false => F.tup [p.a, p.b]⟩
def deP2 (x : F) : Option P2 := match x with
  | .tup [a, b] => some ⟨false, a, b⟩
  | .lst [a, b] => some ⟨true, a, b⟩
  | _ => none
theorem deP2_de (x : F) (a : P2) (h : deP2 x = some a) : (En.e a : F) = x := by
  unfold deP2 at h
  split at h
  · cases h; rfl
  · cases h; rfl
  · cases h
theorem deP2_ed (a : P2) : deP2 (En.e a) = some a := by
  obtain ⟨il, a, b⟩ := a
  cases il <;> rfl
instance : De P2 := ⟨deP2, deP2_de, deP2_ed⟩
/-! ### operations on data of any kind -/
def itA (x : F) : Option (List F) := itemsD x
def ixA (x : F) (i : Int) : Option F := match x with
  | .lst xs => atI xs i
  | .tup xs => atI xs i
  | .str s => (ixS s i).map fun c => F.str [c.c]
  | _ => none
def lenA (x : F) : Option Int := match x with
  | .lst xs => some xs.length
  | .tup xs => some xs.length
  | .str s => lenS s
  | .dct xs => some xs.length
  | _ => none
def eqA (x y : F) : Option Bool := eqB x y
theorem o_lenA : Op1T lenF lenA := fun a c h => by
  cases a with
  | str s => exact o_lenS s c h
  | lst xs => cases h; rfl
  | tup xs => cases h; rfl
  | dct xs => cases h; rfl
  | _ => cases h
theorem o_eqA {α β : Type} [En α] [En β] : Op2T eqF fun (a : α) (b : β) => eqA (En.e a) (En.e b) := fun a b c h => by
  show (eqB (En.e a) (En.e b)).map F.bl = _
  rw [show eqB (En.e a) (En.e b) = some c from h]; rfl
section
variable {σ α β γ R A X : Type} {wr : Wr σ} {B : Bs wr} {n : Nat} {G : List (Nat × W)} {cs cs1 cs2 : List (Nat × Cell)} {s : σ} {K : X → σ → SR → Prop} {rest t : TSv} {ta tb te tc to : TEv} {tr : TAv} {m : FnM} {T : Tab}
theorem e_de [En α] [De α] {o : O σ F} (h : E B n G cs cs1 te s o) : E B n G cs cs1 te s (o.bind fun a s1 => ofO (De.d a : Option α) s1) := e_cop (fun a b h => De.de a b h) h
theorem e_deA [En α] [En β] [De β] {o : O σ α} (h : E B n G cs cs1 te s o) : E B n G cs cs1 te s (o.bind fun a s1 => ofO (De.d (En.e a) : Option β) s1) := e_cop (fun a b h => De.de _ b h) h
theorem i_enumD {o1 : O σ F} (h1 : E B n G cs cs1 ta s o1) : EI B n G cs cs1 (iEnum (aCons ta aNil)) s (o1.bind fun a s1 => (ofO (itA a) s1).bind fun l s2 => .ok (enI 0 l) s2) := fun env r k => by
  have e : iEnum (aCons ta aNil) env (B.st s ++ r) = (ta env (B.st s ++ r)).bind fun w st1 => enumW [w] st1 := by
    unfold iEnum aCons aNil
    cases ta env (B.st s ++ r) <;> rfl
  rw [e]
  refine (h1 env r k).bind fun a s1 r1 _ k1 hl => ?_
  cases q : itA a with
  | none => trivial
  | some l =>
    refine Rl.mk ?_ k1 hl
    have q : itemsD a = some (l.map (En.e (α := F))) := by
      rw [show (l.map (En.e (α := F))) = l from List.map_id l]
      exact q
    show (match itemsD a with
      | some xs => Res.ok ((enumL 0 xs).map W.f) (B.st s1 ++ r1)
      | _ => .stuck) = _
    rw [q]
    show Res.ok _ _ = Res.ok _ _
    rw [enI_w]
theorem e_ixA {o1 : O σ F} {oi : σ → O σ Int} (h : E B n G cs cs1 ta s o1) (hi : ∀ s1, E B n G cs1 cs1 tb s1 (oi s1)) : E B n G cs cs1 (eIx ta tb) s (o1.bind fun l s1 => (oi s1).bind fun i s2 => ofO (ixA l i) s2) := fun env r k => by
  refine (h env r k).bind fun l s1 r1 _ k1 hl => ?_
  refine Rl.up hl ?_
  refine (hi s1 env r1 k1).bind fun i s2 r2 _ k2 hl2 => ?_
  refine Rl.opt (fun a ha => ?_) k2 hl2
  show ofW (ixW _ (.f l) (.f (.int i))) _ = _
  cases l with
  | lst xs =>
    show ofW ((atI xs i).map W.f) _ = _
    rw [show atI xs i = some a from ha]; rfl
  | tup xs =>
    show ofW ((atI xs i).map W.f) _ = _
    rw [show atI xs i = some a from ha]; rfl
  | str s =>
    obtain ⟨c, hc, rfl⟩ := opt_map_some (show (ixS s i).map (fun c => F.str [c.c]) = some a from ha)
    unfold ixS at hc
    obtain ⟨hs, hc⟩ : s.length ≤ 1000000 ∧ (atI s i).map Ch.mk = some c := by
      by_cases q : s.length ≤ 1000000
      · rw [if_pos q] at hc; exact ⟨q, hc⟩
      · rw [if_neg q] at hc; cases hc
    obtain ⟨c', hc2, rfl⟩ := opt_map_some hc
    show ofW (if small s.length = true then (atI s i).map fun c => W.f (.str [c]) else none) _ = _
    rw [if_pos (show small s.length = true from decide_eq_true hs), hc2]; rfl
  | _ => cases ha
/-! targets: pairs of any kind -/
/-! lists that hold cells -/
/-- what a mixed list holds, as data -/
inductive OFL (b : Nat) (cs : List (Nat × Cell)) : List W → List F → Prop
  | nil : OFL b cs [] []
  | val {x : F} {fs : List W} {xs : List F} : OFL b cs fs xs → OFL b cs (.f x :: fs) (x :: xs)
  | cell {k : Nat} {ys : List F} {fs : List W} {xs : List F} : (k, Cell.lstF ys) ∈ cs → OFL b cs fs xs → OFL b cs (.loc (b + k) :: fs) (.lst ys :: xs)
end
end TL
namespace TL
open VS
section
variable {σ α : Type} {wr : Wr σ} {B : Bs wr} {n : Nat} {G : List (Nat × W)} {cs cs1 : List (Nat × Cell)} {s : σ} {te : TEv}
end
end TL
namespace TL
open VS
section
variable {σ α R : Type} {wr : Wr σ} {B : Bs wr} {n : Nat} {G : List (Nat × W)} {cs cs1 : List (Nat × Cell)} {s : σ} {te : TEv} {m : FnM}
end
end TL

set_option Elab.async false
set_option linter.all false
set_option maxRecDepth 100000
set_option maxHeartbeats 4000000
set_option autoImplicit false
/-! T18: dicts that change, dict comprehensions. -/
namespace TL
open VS
open L2 (atI ixN)
section
variable {σ κ ν β X : Type} {wr : Wr σ} {B : Bs wr} {n : Nat} {G : List (Nat × W)} {cs cs1 cs2 : List (Nat × Cell)} {s : σ} [En κ] [En ν] {ts : List (TEv × TEv)} {q : σ → O σ (List (κ × ν))} {K : X → σ → SR → Prop} {rest : TSv} {ta tb te : TEv} {tr : TAv} {fin : List W → TSv} {acc : List W}
theorem putDW_dct {st : Store} {m : Nat} {kfs : List (F × F)} {x y : F} (h : st[m]? = some (.dct kfs)) (hk : (keyF y).isSome = true) (hs : small (kfs.length + 1) = true) : putDW (.f x) st (.loc m) (.f y) = some (st.set m (.dct (putDF kfs y x))) := by
  simp only [putDW, h]
  rw [if_pos ⟨hk, hs⟩]
abbrev cd_ (l : List (κ × ν)) : Cell := Cell.dct (l.map eP)
/-- a dict that is made, as the last cell -/
def ECD (B : Bs wr) (n : Nat) (G : List (Nat × W)) (cs cs' : List (Nat × Cell)) (t : TEv) (s : σ) (o : O σ (Dc κ ν)) : Prop := ∀ env r, Ok B.b n G cs env r → match o with
  | .ok l s' => ∃ r', t env (B.st s ++ r) = .ok (.loc (B.b + r'.length)) (B.st s' ++ (r' ++ [cd_ l.l])) ∧ Ok B.b n G cs' env r' ∧ Pr r r'
  | .ex c fs s' => ∃ r', t env (B.st s ++ r) = .exc c fs (B.st s' ++ r') ∧ Ok B.b n G [] env r'
  | .no => True
theorem c_disp [Ky κ] [DecidableEq κ] (h : EPs B n G cs ts q) : ECD B n G cs cs (eDisp ts) s ((q s).bind fun l s1 => dispO l s1) := fun env r k => by
  have hn := h s env (r ++ [.dct []]) r.length (k.new (c := .dct []) rfl)
  unfold eDisp
  rw [List.append_assoc, st_len]
  generalize he : q s = o at hn ⊢
  cases o with
  | no => trivial
  | ex c fs s1 => obtain ⟨r1, z, k1⟩ := hn; rw [z]; exact ⟨r1, rfl, k1.noCells⟩
  | ok l s1 =>
    obtain ⟨r1, z, k1, p⟩ := hn
    rw [z]
    simp only [bind_ok]
    unfold dispO
    by_cases hl : l.length ≤ 15
    · rw [if_pos hl]
      have hc : r1[r.length]? = some (.dct []) := k1.cell _ _ (.head _)
      have hl1 : r1.length = r.length + 1 := by rw [p.len]; simp
      have hcl : ∀ b, clean b r = true → clean b r1 = true := fun b hb => p.cl b (by
        unfold clean at hb ⊢
        rw [List.all_append, hb]; rfl)
      have hk : clean (B.b + r.length) r1 = true := hcl _ k.cl
      have hln : (r1.take r.length).length = r.length := by rw [List.length_take]; omega
      refine ⟨r1.take r.length, ?_, ⟨k.len, by rw [hln]; exact clean_take hk, k.nd, fun j c hj => ?_, k.var⟩, ⟨hln, fun b hb => clean_take (hcl b hb)⟩⟩
      · simp only [Res.bind, pairsF_ky]
        rw [st_get, hc, if_pos (show isEmptyD (some (Cell.dct [])) = true from rfl), if_pos (by unfold fewP; rw [List.length_map]; exact decide_eq_true hl)]
        simp only [st_set]
        have e2 := mergeF_ky l ([] : List (κ × ν))
        rw [List.map_nil] at e2
        rw [e2, hln]
        congr 2
        apply List.ext_getElem?
        intro j
        by_cases hj : j < r.length
        · rw [List.getElem?_set_ne (by omega), List.getElem?_append_left (by omega), List.getElem?_take_of_lt hj]
        · by_cases hj2 : j = r.length
          · subst hj2
            rw [List.getElem?_set_self (by omega), List.getElem?_append_right (by omega), hln, Nat.sub_self]
            rfl
          · rw [List.getElem?_eq_none (by simp; omega), List.getElem?_eq_none (by simp; omega)]
      · have hj1 := k1.cell j c (.tail _ hj)
        rw [List.getElem?_take_of_lt (k.cell_lt hj)]
        exact hj1
    · rw [if_neg hl]; trivial
theorem ja_d {o : O σ (Dc κ ν)} {k : Dc κ ν → σ → O σ X} (h : ECD B n G cs cs1 ta s o) (hr : ∀ c a s1, JA B n K G ((c, cd_ a.l) :: cs1) fin (acc ++ [.loc (B.b + c)]) tr s1 (k a s1)) : JA B n K G cs fin acc (aCons ta tr) s (o.bind k) := fun env r q => by
  have e : ((aCons ta tr) env (B.st s ++ r)).thenS (fun ws st => fin (acc ++ ws) env st) = (ta env (B.st s ++ r)).thenS fun w st1 => (tr env st1).thenS fun ws st2 => fin ((acc ++ [w]) ++ ws) env st2 := by
    unfold aCons
    cases ta env (B.st s ++ r) with
    | ok w st1 =>
      simp only [Res.bind, Res.thenS]
      cases tr env st1 with
      | ok ws st2 => simp
      | _ => rfl
    | _ => rfl
  rw [e]
  have z := h env r q
  cases o with
  | no => trivial
  | ex c fs s' => obtain ⟨r', e, k'⟩ := z; rw [e]; exact ⟨r', rfl, k'.cl⟩
  | ok l s1 =>
    obtain ⟨r1, e, k1, p1⟩ := z
    rw [e]
    exact hr r1.length l s1 env _ (k1.new rfl)
theorem el_cellD {i k : Nat} {l : List (κ × ν)} (h : lk G i = some (.loc (B.b + k))) (hc : (k, cd_ l) ∈ cs) : EL B n G cs cs (eVar i) s (.ok (Dc.mk l) s) := fun env r q => by
  have ev : eVar i env (B.st s ++ r) = .ok (.loc (B.b + k)) (B.st s ++ r) := by
    unfold eVar
    rw [q.var i _ h]
  refine ⟨.loc (B.b + k), r, ev, q, .refl, fun s2 r2 env2 ok2 => ?_⟩
  show lookC (B.st s2 ++ r2)[B.b + k]? = _
  rw [st_get, ok2.cell _ _ hc]
  rfl
theorem o_dget [Ky κ] [DecidableEq κ] : Op2T gDGet fun (d : Dc κ ν) (y : κ) => lookD d.l y := fun d y c h => by
  show lookF (d.l.map eP) (En.e y) = _
  rw [lookF_ky, show lookD d.l y = some c from h]
  rfl
def dputO [DecidableEq κ] (l : List (κ × ν)) (y : κ) (x : ν) (s : σ) : O σ (List (κ × ν)) := if l.length < 1000000 then .ok (putD l y x) s else .no
theorem j_dput [Ky κ] [DecidableEq κ] {i k p : Nat} {l : List (κ × ν)} {o : O σ ν} {oi : σ → O σ κ} {kk : List (κ × ν) → σ → O σ X} (hv : lk G i = some (.loc (B.b + k))) (h : E B n G cs cs1 te s o) (h2 : ∀ s1, E B n G cs1 cs2 ta s1 (oi s1)) (hp : cs2[p]? = some (k, cd_ l)) (hr : ∀ l' s1, J B n K G (cs2.set p (k, cd_ l')) rest s1 (kk l' s1)) :
    J B n K G cs (bCons (sDPut (eVar i) ta te) rest) s (o.bind fun a s1 => (oi s1).bind fun j s2 => (dputO l j a s2).bind kk) := fun env r q => by
  have e : bCons (sDPut (eVar i) ta te) rest env (B.st s ++ r) = (te env (B.st s ++ r)).thenS fun w st1 => (eVar i env st1).thenS fun o st2 => (ta env st2).thenS fun j st3 => match putDW w st3 o j with
      | some st4 => rest env st4
      | none => .stuck := by
    unfold bCons sDPut
    cases te env (B.st s ++ r) with
    | ok w st1 =>
      simp only [Res.thenS]
      cases eVar i env st1 with
      | ok o st2 =>
        simp only
        cases ta env st2 with
        | ok j st3 => simp only; cases putDW w st3 o j <;> rfl
        | _ => rfl
      | _ => rfl
    | _ => rfl
  rw [e]
  refine (h env r q).thenS fun a s1 r1 _ k1 p1 => ?_
  have ev : eVar i env (B.st s1 ++ r1) = .ok (.loc (B.b + k)) (B.st s1 ++ r1) := by
    unfold eVar
    rw [k1.var i _ hv]
  rw [ev]
  simp only [Res.thenS]
  refine (h2 s1 env r1 k1).thenS fun j s2 r2 _ k2 p2 => ?_
  unfold dputO
  by_cases hl : l.length < 1000000
  · rw [if_pos hl]
    have e2 : putDW (w_ a) (B.st s2 ++ r2) (.loc (B.b + k)) (w_ j) = some (B.st s2 ++ r2.set k (cd_ (putD l j a))) := by
      rw [putDW_dct (kfs := l.map eP) (by rw [st_get, k2.cell _ _ (List.mem_of_getElem? hp)]) (by rw [Ky.ok]; rfl) (by unfold small; rw [List.length_map]; exact decide_eq_true (by omega)), st_set, putDF_ky]
    rw [e2]
    exact hr (putD l j a) s2 _ _ (k2.write hp rfl)
  · rw [if_neg hl]; trivial
/-! comprehensions -/
end
end TL
namespace TL
open VS
section
variable {σ : Type} {wr : Wr σ} {B : Bs wr} {n : Nat} {G : List (Nat × W)} {cs cs1 : List (Nat × Cell)} {s : σ} {ta tb tc : TEv}
def rgD (hi : Int) (n : Nat) : List Int := (List.range n).map fun i => hi - (i : Nat)
@[irreducible] def rg3 (i j : Int) (s : σ) : O σ (List Int) := ofO (if smI i = true ∧ smI j = true then some (rgD i (i - j).toNat) else none) s
theorem rgD_w (hi : Int) (k : Nat) : rangeW hi (-1) k = (rgD hi k).map fun b => w_ b := by
  unfold rangeW rgD
  rw [List.map_map]
  refine List.map_congr_left fun i _ => ?_
  show W.f (F.int (hi + (i : Nat) * (-1))) = W.f (F.int (hi - (i : Nat)))
  congr 2
  omega
/-- range(i, j, -1) -/
theorem i_rg3 {o : O σ Int} {o' : σ → O σ Int} (h : E B n G cs cs1 ta s o) (h' : ∀ s1, E B n G cs1 cs1 tb s1 (o' s1)) (h3 : ∀ s1, E B n G cs1 cs1 tc s1 (.ok (-(1 : Int)) s1)) : EI B n G cs cs1 (iRange3 (aCons ta (aCons tb (aCons tc aNil)))) s (o.bind fun i s1 => (o' s1).bind fun j s2 => rg3 i j s2) := fun env r k => by
  have e : iRange3 (aCons ta (aCons tb (aCons tc aNil))) env (B.st s ++ r) = (ta env (B.st s ++ r)).bind fun w st1 => (tb env st1).bind fun u st2 => (tc env st2).bind fun v st3 => rng3 [w, u, v] st3 := by
    unfold iRange3 aCons aNil
    cases ta env (B.st s ++ r) with
    | ok w st1 =>
      cases q : tb env st1 with
      | ok u st2 => cases q2 : tc env st2 <;> simp [aCons, Res.bind, q, q2]
      | exc _ _ _ => simp [aCons, Res.bind, q]
      | stuck => simp [aCons, Res.bind, q]
    | exc _ _ _ => rfl
    | stuck => rfl
  rw [e]
  refine (h env r k).bind fun i s1 r1 _ k1 hl => ?_
  refine Rl.up hl ?_
  refine (h' s1 env r1 k1).bind fun j s2 r2 _ k2 hl2 => ?_
  refine Rl.up hl2 ?_
  obtain ⟨r3, e3, k3, p3⟩ := h3 s2 env r2 k2
  rw [e3]
  simp only [Res.bind]
  unfold rg3
  refine Rl.opt (fun l hl' => ?_) k3 p3
  obtain ⟨hs, rfl⟩ := ifSome hl'
  show (if (smallI i && smallI j && decide ((-(1 : Int)) = -1)) = true then Res.ok (rangeW i (-1) (i - j).toNat) (B.st s2 ++ r3) else .stuck) = _
  rw [if_pos (by rw [smI_ok hs.1, smI_ok hs.2]; rfl), rgD_w]
end
end TL
namespace TL
open VS
end TL

set_option Elab.async false
set_option linter.all false
set_option maxRecDepth 100000
set_option maxHeartbeats 4000000
set_option autoImplicit false
/-! T21: list(range(n)). -/
namespace TL
open VS
open L2 (atI ixN)
section
variable {σ α β R A X : Type} {wr : Wr σ} {B : Bs wr} {n : Nat} {G : List (Nat × W)} {cs cs1 : List (Nat × Cell)} {s : σ} {te : TEv}
@[irreducible] def lrgO (j : Int) (s : σ) : O σ (List Int) := ofO (if smI j = true ∧ small j.toNat = true then some (rgI 0 j.toNat) else none) s
variable {ta tb : TEv} {wa : TTv}
end
end TL

set_option Elab.async false
set_option linter.all false
set_option maxRecDepth 100000
set_option maxHeartbeats 4000000
set_option autoImplicit false
/-! T22: an expression that only looks at cells. -/
namespace TL
open VS
open L2 (atI ixN)
section
variable {σ α : Type} {wr : Wr σ} {B : Bs wr} {n : Nat} {G : List (Nat × W)} {cs : List (Nat × Cell)} {s : σ} {te : TEv}
theorem tg_lk {G' : List (Nat × W)} {i j : Nat} {u w : W} (h : lk ((i, u) :: G') j = some w) : (i = j ∧ u = w) ∨ lk G' j = some w := by
  unfold lk at h
  cases e : Nat.beq i j with
  | true =>
    rw [e] at h
    exact .inl ⟨Nat.eq_of_beq_eq_true e, Option.some.inj h⟩
  | false =>
    rw [e] at h
    exact .inr h
def B0 : Bs wU := ⟨[], fun _ => rfl, 0, fun _ => rfl⟩
end
section
variable {σ α β R A X : Type} {wr : Wr σ} {B : Bs wr} {n : Nat} {G : List (Nat × W)} {cs cs1 cs2 : List (Nat × Cell)} {s : σ} {K : X → σ → SR → Prop} {rest t : TSv} {te ta : TEv}
end
end TL

set_option Elab.async false
set_option linter.all false
set_option maxRecDepth 100000
set_option maxHeartbeats 4000000
set_option autoImplicit false
/-! T23: sorted of tuples of ints, and by key=len. -/
namespace TL
open VS
open L2 (atI ixN)
section
variable {σ α : Type} {wr : Wr σ} {B : Bs wr} {n : Nat} {G : List (Nat × W)} {cs cs1 : List (Nat × Cell)} {s : σ} {te : TEv}
@[irreducible] def sortTO (l : List (Tu Int)) : Option (List (Tu Int)) := if okRows (l.map fun t => t.l) = true then some ((sortR (l.map fun t => t.l)).map Tu.mk) else none
@[irreducible] def sortLO (l : List (Tu α)) : Option (List (Tu α)) := some (sortZ (l.map fun t => (t.l.length : Int)) l)
end
end TL

set_option Elab.async false
set_option linter.all false
set_option maxRecDepth 100000
set_option maxHeartbeats 4000000
set_option autoImplicit false
/-! T24: sorted(set(xs)) as a new cell. -/
namespace TL
open VS
open L2 (atI ixN)
section
variable {σ : Type} {wr : Wr σ} {B : Bs wr} {n : Nat} {G : List (Nat × W)} {cs cs1 : List (Nat × Cell)} {s : σ} {te : TEv}
end
end TL

set_option Elab.async false
set_option linter.all false
set_option maxRecDepth 100000
set_option maxHeartbeats 4000000
set_option autoImplicit false
/-! T25: sorted(set(xs)), few things in xs. -/
namespace TL
open VS
open L2 (atI ixN)
section
variable {σ : Type} {wr : Wr σ} {B : Bs wr} {n : Nat} {G : List (Nat × W)} {cs cs1 : List (Nat × Cell)} {s : σ} {te : TEv}
end
end TL

set_option Elab.async false
set_option linter.all false
set_option maxRecDepth 100000
set_option maxHeartbeats 4000000
set_option autoImplicit false
/-! T26: xs.insert(i, x); dicts without entries. -/
namespace TL
open VS
open L2 (atI ixN)
section
variable {σ X : Type} {wr : Wr σ} {B : Bs wr} {n : Nat} {K : X → σ → SR → Prop} {G : List (Nat × W)} {cs cs1 : List (Nat × Cell)} {s : σ} {te t1 t2 : TEv} {rest : TSv} {α β : Type}
/-- xs.insert(i, x) -/
@[irreducible] def insN [En α] (l : List α) (j : Int) (a : α) (s : σ) : O σ (List α) := ofO (if (small (l.length + 1) && (posB j && smI j)) = true then some (l.take j.toNat ++ [a] ++ l.drop j.toNat) else none) s
@[irreducible] def repTu (l : Tu α) (n : Int) : Option (Tu α) := if (!l.l.isEmpty && (Nat.ble 2 n.toNat && (Nat.ble n.toNat 1000 && Nat.ble l.l.length 1000))) = true then some (Tu.mk (List.replicate n.toNat l.l).flatten) else none
end
/-! sameness -/
end TL

set_option Elab.async false
set_option linter.all false
set_option maxRecDepth 100000
set_option maxHeartbeats 4000000
set_option autoImplicit false
/-! T39: locked dicts and dicts with tuples as keys, typed. -/
namespace TL
open VS
open L2 (atI ixN)
/-- keys -/
class Kt (κ : Type) [En κ] where
  t : Bool
  k : κ → List FK
  inj : ∀ a b, k a = k b → a = b
  item : ∀ (a : κ) (x : F), (if t = true then itmT else itmU) (k a, x) = W.f (.tup [En.e a, x])
instance : Kt Int := ⟨false, fun i => [.inl i], fun a b h => by simpa using h, fun _ _ => rfl⟩
instance : Kt (List Nat) := ⟨false, fun s => [.inr s], fun a b h => by simpa using h, fun _ _ => rfl⟩
instance : Kt (Int × Int) := ⟨true, fun p => [.inl p.1, .inl p.2], fun a b h => by
  obtain ⟨a1, a2⟩ := a
  obtain ⟨b1, b2⟩ := b
  simpa using h, fun _ _ => rfl⟩
/-- a pair of ints as a key -/
structure Kp where
  p : Int × Int
deriving DecidableEq
instance : En Kp := ⟨fun k => F.ktp [.inl k.p.1, .inl k.p.2]⟩
/-- what asks as a key -/
class KeyV (α κ : Type) [En α] [En κ] [Kt κ] where
  f : α → κ
  ok : ∀ a : α, keyW (w_ a) = some (Kt.t κ, Kt.k (f a))
instance : KeyV Int Int := ⟨id, fun _ => rfl⟩
instance : KeyV (List Nat) (List Nat) := ⟨id, fun _ => rfl⟩
instance : KeyV Kp (Int × Int) := ⟨Kp.p, fun _ => rfl⟩
section
variable {κ ν : Type} [En κ] [En ν] [Kt κ] [DecidableEq κ]
def eT (p : κ × ν) : List FK × F := (Kt.k p.1, En.e p.2)
end
/-- a locked dict -/
structure Dl (κ ν : Type) where
  l : List (κ × ν)
deriving DecidableEq
instance {κ ν : Type} [En κ] [Kt κ] [En ν] : En (Dl κ ν) := ⟨fun d => F.dlk (Kt.t κ) (d.l.map eT)⟩
instance {κ ν : Type} [En κ] [Kt κ] [En ν] : NN (Dl κ ν) := ⟨fun _ => rfl⟩
instance : NN Kp := ⟨fun _ => rfl⟩
section
variable {σ κ ν α β X : Type} {wr : Wr σ} {B : Bs wr} {n : Nat} {G : List (Nat × W)} {cs cs1 cs2 : List (Nat × Cell)} {s : σ} [En κ] [En ν] [En α] [En β] {K : X → σ → SR → Prop} {rest : TSv} {ta tb te td tk tv : TEv} {tr : TAv}
/-! keys, questions -/
/-! dicts with tuples as keys that change -/
/-! locking -/
/-- keys of one member -/
class K1 (κ : Type) [En κ] [Kt κ] where
  t : Kt.t κ = false
  k : ∀ a : κ, ∃ k, Kt.k a = [k] ∧ fkOf (En.e a) = some k
instance : K1 Int := ⟨rfl, fun a => ⟨_, rfl, rfl⟩⟩
instance : K1 (List Nat) := ⟨rfl, fun a => ⟨_, rfl, rfl⟩⟩
/-! stored -/
/-! walked -/
/-! comprehensions -/
end
end TL

set_option Elab.async false
set_option linter.all false
set_option maxRecDepth 100000
set_option maxHeartbeats 4000000
set_option autoImplicit false
/-! T40: members taken off a list in a comprehension; sorted pairs; locked dicts copied and compared. -/
namespace TL
open VS
open L2 (atI ixN)
/-! sorted, compared -/
@[irreducible] def neDO (a b : Dl (List Nat) Int) : Option Bool := if a.l = b.l ∧ (a.l.map (·.1)).Nodup then some false else none
section
variable {σ α β γ : Type} {wr : Wr σ} {B : Bs wr} {n : Nat} {G : List (Nat × W)} {cs cs1 cs2 : List (Nat × Cell)} {s : σ} {te : TEv}
/-! a comprehension that takes members off a list -/
@[irreducible] def popN (l : List γ) (i : Int) (s : σ) : O σ (γ × List γ) := if 0 ≤ i ∧ i < 1000000 then (match l[i.toNat]? with
  | some a => .ok (a, l.eraseIdx i.toNat) s
  | none => .no) else .no
/-- an expression that changes a list's cell, the first of all behind one -/
def EP [En α] [En γ] (B : Bs wr) (n : Nat) (G : List (Nat × W)) (c : Nat) (cs : List (Nat × Cell)) (t : TEv) (v : List γ → σ → O σ (α × List γ)) : Prop := ∀ l s k acc env r, Ok B.b n G ((k, .lstF acc) :: (c, cl_ l) :: cs) env r → match v l s with
  | .ok p s' => ∃ r', t env (B.st s ++ r) = .ok (w_ p.1) (B.st s' ++ r') ∧ Ok B.b n G ((k, .lstF acc) :: (c, cl_ p.2) :: cs) env r' ∧ Pr r r'
  | .ex d fs s' => ∃ r', t env (B.st s ++ r) = .exc d fs (B.st s' ++ r') ∧ Ok B.b n G [] env r'
  | .no => True
end
end TL

set_option Elab.async false
set_option linter.all false
set_option maxRecDepth 100000
set_option maxHeartbeats 4000000
set_option autoImplicit false
/-! T41: keys of locked dicts walked; dicts of lists of pairs, typed. -/
namespace TL
open VS
open L2 (atI ixN)
@[irreducible] def dctO {σ ν : Type} (l : List (List Nat × ν)) (s : σ) : O σ (Dl (List Nat) ν) := if (l.map (·.1)).Nodup then .ok (Dl.mk l) s else .no
section
variable {σ ν : Type} {wr : Wr σ} {B : Bs wr} {n : Nat} {G : List (Nat × W)} {cs cs1 : List (Nat × Cell)} {s : σ} {te : TEv} [En ν]
end
end TL

set_option Elab.async false
set_option linter.all false
set_option maxRecDepth 100000
set_option maxHeartbeats 4000000
set_option autoImplicit false
/-! T46: dicts made of parts that may fail, dict(d), list(d), {**d, k: v}; defs and methods that read what lies below them. -/
namespace TL
open VS
open L2 (atI ixN)
section
variable {σ κ ν β : Type} {wr : Wr σ} {B : Bs wr} {n : Nat} {G : List (Nat × W)} {cs cs1 cs2 : List (Nat × Cell)} {s : σ} [En κ] [En ν] {ta tb te td : TEv} {tr : TAv}
/-! comprehensions -/
/-! list(d), dict(d) -/
@[irreducible] def fewD (d : Dl κ ν) (s : σ) : O σ (Dc κ ν) := if d.l.length ≤ 1000 then .ok (Dc.mk d.l) s else .no
/-! {**d, k: v} -/
end
end TL

set_option Elab.async false
set_option linter.all false
set_option maxRecDepth 100000
set_option maxHeartbeats 4000000
set_option autoImplicit false
/-! T49: keys as they come from items(), asked with a value for none, comprehensions with a test; list(zip(text, list)). -/
namespace TL
open VS
open L2 (atI ixN)
/-- a list of just three -/
structure Lq (α : Type) where
  a : α
  b : α
  c : α
instance {α : Type} [En α] : En (Lq α) := ⟨fun x => .lst [En.e x.a, En.e x.b, En.e x.c]⟩
section
variable {σ α : Type} {wr : Wr σ} {B : Bs wr} {n : Nat} {G : List (Nat × W)} {cs cs1 cs2 : List (Nat × Cell)} {s : σ} {te : TEv} [En α]
end
section
variable {σ κ ν α γ β : Type} {wr : Wr σ} {B : Bs wr} {n : Nat} {G : List (Nat × W)} {cs cs1 cs2 : List (Nat × Cell)} {s : σ} [En κ] [En ν] [En α] [En γ] {ta tb te tf td : TEv} {tr : TAv}
end
section
variable {σ ν β : Type} {wr : Wr σ} {B : Bs wr} {n : Nat} {G : List (Nat × W)} {cs cs1 cs2 : List (Nat × Cell)} {s : σ} [En ν]
end
end TL

set_option Elab.async false
set_option linter.all false
set_option maxRecDepth 100000
set_option maxHeartbeats 4000000
set_option autoImplicit false
/-! T19: raise; what is refused, told. -/
namespace TL
open VS
open L2 (atI ixN)
section
variable {σ α β R A X : Type} {wr : Wr σ} {B : Bs wr} {n : Nat} {K : X → σ → SR → Prop} {G : List (Nat × W)} {cs cs1 : List (Nat × Cell)} {s : σ} {te to tb : TEv} {tr : TAv} {rest : TSv} {m : FnM}
end
end TL

set_option Elab.async false
set_option linter.all false
set_option maxRecDepth 100000
set_option maxHeartbeats 4000000
set_option autoImplicit false
/-! T50: exceptions told by several clauses, some by a tag alone. -/
namespace TL
open VS
open L2 (atI ixN)
section
variable {σ α β R A X : Type} {wr : Wr σ} {B : Bs wr} {n : Nat} {K : X → σ → SR → Prop} {G : List (Nat × W)} {cs cs1 : List (Nat × Cell)} {s : σ} {te to tb : TEv} {tr : TAv} {rest : TSv} {m : FnM}
end
@[irreducible] def imulO (i j : Int) : Option Int := if (inRg 18446744073709551615 i || inRg 18446744073709551615 j) = true then some (i * j) else none
section
variable {σ κ ν α : Type} {wr : Wr σ} {B : Bs wr} {n : Nat} {G : List (Nat × W)} {cs cs1 : List (Nat × Cell)} {s : σ} [En κ] [En ν] [En α] {td te tf : TEv}
end
section
variable {σ α R A : Type} {wr : Wr σ} {B : Bs wr} {n : Nat} {G : List (Nat × W)} {cs cs1 cs2 : List (Nat × Cell)} {s : σ} [En α] [En R] [Ar A] {to : TEv} {tr : TAv} {m : FnM} {o1 : O σ α}
/-! methods of data -/
end
end TL

set_option Elab.async false
set_option linter.all false
set_option maxRecDepth 100000
set_option maxHeartbeats 4000000
set_option autoImplicit false
/-! T51: defs that tell a pair of data and a dict's cell; keys that are tuples, walked; d["a"], d["b"] = .., typed. -/
namespace TL
open VS
open L2 (atI ixN)
section
variable {σ κ ν α β R A X S : Type} {wr : Wr σ} {B : Bs wr} {n : Nat} {G : List (Nat × W)} {cs cs1 cs2 : List (Nat × Cell)} {s : σ} [En κ] [En ν] {K : X → σ → SR → Prop} {rest u : TSv} {ta tb td te : TEv} {tr : TAv} {m : FnM2} {t : TPv} {fin : List W → TSv} {acc : List W}
/-! d["a"], d["b"] = .. -/
/-! names, one of which is a new dict with tuple keys -/
/-! keys that are tuples, walked -/
end
@[irreducible] def dctLO {σ ν : Type} (l : List (List Nat × ν)) (s : σ) : O σ (Dc (List Nat) ν) := if (l.map (·.1)).Nodup then .ok (Dc.mk l) s else .no
section
variable {σ ν : Type} {wr : Wr σ} {B : Bs wr} {n : Nat} {G : List (Nat × W)} {cs cs1 : List (Nat × Cell)} {s : σ} {te : TEv} [En ν]
end
end TL

set_option Elab.async false
set_option linter.all false
set_option maxRecDepth 100000
set_option maxHeartbeats 4000000
set_option autoImplicit false
/-! T52: families of cells: an object's list of new lists, or of new dicts, while the object is made. -/
namespace TL
open VS
open L2 (atI ixN)
/-- the cells of a family, from place k on -/
def inn : Nat → List Cell → List (Nat × Cell)
  | _, [] => []
  | k, c :: cl => (k, c) :: inn (k + 1) cl
def lwL : Nat → Nat → List W
  | _, 0 => []
  | L, m + 1 => .loc (L + 1) :: lwL (L + 1) m
/-- a list at place k, whose members are the cells behind it -/
def fam (b k : Nat) (cl : List Cell) : List (Nat × Cell) := (k, .lstW (lwL (b + k) cl.length)) :: inn (k + 1) cl
theorem inn_get : ∀ (cl : List Cell) (k i : Nat), (inn k cl)[i]? = cl[i]?.map fun c => (k + i, c)
  | [], k, i => by simp [inn]
  | c :: cl, k, 0 => by simp [inn]
  | c :: cl, k, i + 1 => by
    show (inn (k + 1) cl)[i]? = _
    rw [inn_get cl (k + 1) i]
    simp only [List.getElem?_cons_succ]
    congr 1
    funext c
    rw [show k + 1 + i = k + (i + 1) by omega]
theorem inn_set : ∀ (cl : List Cell) (k i : Nat) (c : Cell), (inn k cl).set i (k + i, c) = inn k (cl.set i c)
  | [], k, i, c => by simp [inn]
  | d :: cl, k, 0, c => by simp [inn]
  | d :: cl, k, i + 1, c => by
    show (k, d) :: (inn (k + 1) cl).set i (k + (i + 1), c) = (k, d) :: inn (k + 1) (cl.set i c)
    rw [show k + (i + 1) = k + 1 + i by omega, inn_set cl (k + 1) i c]
theorem inn_fst : ∀ (cl : List Cell) (k : Nat), (inn k cl).map Prod.fst = List.range' k cl.length
  | [], k => rfl
  | d :: cl, k => by
    show k :: (inn (k + 1) cl).map Prod.fst = _
    rw [inn_fst cl (k + 1)]
    rfl
theorem lwL_len : ∀ m L, (lwL L m).length = m
  | 0, _ => rfl
  | m + 1, L => by show (lwL (L + 1) m).length + 1 = _; rw [lwL_len m]
theorem lwL_snoc : ∀ m L, lwL L (m + 1) = lwL L m ++ [.loc (L + 1 + m)]
  | 0, _ => rfl
  | m + 1, L => by
    show W.loc (L + 1) :: lwL (L + 1) (m + 1) = W.loc (L + 1) :: (lwL (L + 1) m ++ _)
    rw [lwL_snoc m (L + 1), show L + 1 + 1 + m = L + 1 + (m + 1) by omega]
theorem lwL_get : ∀ m L j, j < m → (lwL L m)[j]? = some (.loc (L + 1 + j))
  | 0, _, _, h => absurd h (by omega)
  | m + 1, L, 0, _ => rfl
  | m + 1, L, j + 1, h => by
    show (lwL (L + 1) m)[j]? = _
    rw [lwL_get m (L + 1) j (by omega), show L + 1 + 1 + j = L + 1 + (j + 1) by omega]
theorem lwL_below : ∀ m L b, L + 1 + m ≤ b → ((lwL L m).all fun w => w.below b) = true
  | 0, _, _, _ => rfl
  | m + 1, L, b, h => by
    show (decide (L + 1 < b) && (lwL (L + 1) m).all fun w => w.below b) = true
    rw [lwL_below m (L + 1) b (by omega), Bool.and_true]
    exact decide_eq_true (by omega)
section
variable {σ α β κ ν R A X S : Type} {wr : Wr σ} {B : Bs wr} {b n : Nat} {env : Env} {r : Store} {G : List (Nat × W)} {cs cs0 cs1 cs2 : List (Nat × Cell)} {s : σ} {K : X → σ → SR → Prop} {rest : TSv} {ta tb te to : TEv} {tr : TAv} {m : FnM} {T : Tab}
theorem Ok.fam (h : Ok b n G cs env r) {cl : List Cell} (hc : ∀ c ∈ cl, ∀ b, c.below b = true) : Ok b n G (cs ++ fam b r.length cl) env (r ++ .lstW (lwL (b + r.length) cl.length) :: cl) := by
  refine ⟨h.len, ?_, ?_, fun k c q => ?_, h.var⟩
  · unfold clean
    rw [List.all_append, Bool.and_eq_true, List.all_cons, Bool.and_eq_true]
    refine ⟨below_all (by simp) h.cl, ?_, List.all_eq_true.mpr fun c q => hc c q _⟩
    show ((lwL (b + r.length) cl.length).all fun w => w.below _) = true
    refine lwL_below _ _ _ ?_
    simp only [List.length_append, List.length_cons]
    omega
  · rw [List.map_append]
    unfold TL.fam
    rw [List.map_cons, inn_fst]
    refine List.nodup_append.mpr ⟨h.nd, ?_, fun a ha c hc e => ?_⟩
    · show (r.length :: List.range' (r.length + 1) cl.length).Nodup
      rw [List.nodup_cons]
      refine ⟨fun hm => ?_, List.nodup_range'⟩
      have := (List.mem_range'_1.mp hm).1
      omega
    · obtain ⟨⟨k, d⟩, hkd, e1⟩ := List.mem_map.mp ha
      have h1 := h.cell_lt hkd
      have e1 : k = a := e1
      rcases List.mem_cons.mp hc with q | q
      · have q : c = r.length := q
        omega
      · have := (List.mem_range'_1.mp q).1
        omega
  · rcases List.mem_append.mp q with q | q
    · rw [List.getElem?_append_left (h.cell_lt q)]; exact h.cell k c q
    · unfold TL.fam at q
      rcases List.mem_cons.mp q with q | q
      · cases q
        rw [List.getElem?_append_right (Nat.le_refl _), Nat.sub_self]
        rfl
      · obtain ⟨i, hi, e⟩ := List.getElem_of_mem q
        have e2 := List.getElem?_eq_getElem hi
        rw [e, inn_get] at e2
        cases hq : cl[i]? with
        | none => rw [hq] at e2; cases e2
        | some d =>
          rw [hq] at e2
          cases e2
          rw [List.getElem?_append_right (by omega), show r.length + 1 + i - r.length = i + 1 by omega]
          exact hq
/-! a comprehension of new cells -/
def outC (L : Nat) : Nat → Cell
  | 0 => .lstF []
  | m + 1 => .lstW (lwL L (m + 1))
theorem append_out (L m : Nat) (h : m < 1000000) : cAppend (outC L m) [.loc (L + 1 + m)] = some (.f .non, outC L (m + 1)) := by
  cases m with
  | zero =>
    show (if small (0 + 1) = true then some (W.f .non, Cell.lstW ([].map W.f ++ [W.loc (L + 1 + 0)])) else none) = _
    rw [if_pos (by decide)]
    rfl
  | succ m =>
    show (if small ((lwL L (m + 1)).length + 1) = true then some (W.f .non, Cell.lstW (lwL L (m + 1) ++ [W.loc (L + 1 + (m + 1))])) else none) = _
    rw [lwL_len, if_pos (by unfold small; exact decide_eq_true (by omega)), ← lwL_snoc]
    rfl
theorem fam_run [En β] {g : TGv} {tx : TEv} {vs : List Nat} {f : β → List (Nat × W)} {x : Cell} (hg : Tgt n g f) (hv : ∀ a, (vs.all fun v => (lk (f a) v).isSome) = true) (hx : ∀ env st, tx env st = .ok (.loc st.length) (st ++ [x])) (hl : env.length = n) (st : Store) :
    ∀ (xs : List β) (i : Nat), i + xs.length ≤ 1000000 → lcL g tYesV tx st.length (wipeE env vs) (xs.map fun b => w_ b) (st ++ outC st.length i :: List.replicate i x) = .ok (.loc st.length) (st ++ outC st.length (i + xs.length) :: List.replicate (i + xs.length) x)
  | [], i, _ => rfl
  | y :: xs, i, h => by
    rw [List.length_cons] at h
    obtain ⟨env', e, l', kk⟩ := tg_wipe hg hv y hl
    rw [List.map_cons, lcL, e]
    show (tx env' (st ++ outC st.length i :: List.replicate i x)).bind _ = _
    rw [hx]
    show (doCell cAppend st.length [.loc (st ++ outC st.length i :: List.replicate i x).length] ((st ++ outC st.length i :: List.replicate i x) ++ [x])).bind _ = _
    have e1 : (st ++ outC st.length i :: List.replicate i x).length = st.length + 1 + i := by simp; omega
    have e2 : doCell cAppend st.length [.loc (st.length + 1 + i)] ((st ++ outC st.length i :: List.replicate i x) ++ [x]) = .ok (.f .non) (st ++ outC st.length (i + 1) :: List.replicate (i + 1) x) := by
      unfold doCell
      rw [List.append_assoc, List.getElem?_append_right (Nat.le_refl _), Nat.sub_self]
      show (match cAppend (outC st.length i) [W.loc (st.length + 1 + i)] with
        | some (w, c') => Res.ok w ((st ++ (outC st.length i :: List.replicate i x ++ [x])).set st.length c')
        | none => .stuck) = _
      rw [append_out _ _ (by omega)]
      show Res.ok (W.f .non) ((st ++ (outC st.length i :: List.replicate i x ++ [x])).set st.length (outC st.length (i + 1))) = _
      rw [List.set_append_right _ _ (Nat.le_refl _), Nat.sub_self, List.replicate_succ']
      rfl
    rw [e1, e2]
    show lcL g tYesV tx st.length (wipeE env vs) (xs.map fun b => w_ b) (st ++ outC st.length (i + 1) :: List.replicate (i + 1) x) = _
    rw [fam_run hg hv hx hl st xs (i + 1) (by omega), List.length_cons, show i + 1 + xs.length = i + (xs.length + 1) by omega]
def famO (m : Nat) (s : σ) : O σ Nat := if 0 < m ∧ m ≤ 1000000 then .ok m s else .no
theorem lstM_new (env : Env) (st : Store) : eLstM aNil env st = .ok (.loc st.length) (st ++ [.lstF []]) := rfl
/-! a family's member is changed -/
theorem fam_mem {k j : Nat} {cl : List Cell} {c : Cell} (h : cl[j]? = some c) : (cs0 ++ fam b k cl)[cs0.length + (j + 1)]? = some (k + 1 + j, c) := by
  rw [List.getElem?_append_right (by omega), show cs0.length + (j + 1) - cs0.length = j + 1 by omega]
  show (inn (k + 1) cl)[j]? = _
  rw [inn_get, h]; rfl
theorem fam_set {k j : Nat} {cl : List Cell} {c : Cell} : (cs0 ++ fam b k cl).set (cs0.length + (j + 1)) (k + 1 + j, c) = cs0 ++ fam b k (cl.set j c) := by
  rw [List.set_append_right _ _ (by omega), show cs0.length + (j + 1) - cs0.length = j + 1 by omega]
  congr 1
  unfold fam
  rw [List.set_cons_succ, inn_set, List.length_set]
theorem ixN_lt {m j : Nat} {x : Int} (h : ixN m x = some j) : j < m := by
  unfold ixN at h
  split at h
  · split at h
    · cases h; omega
    · cases h
  · split at h
    · cases h; omega
    · cases h
def appF (ll : List (List α)) (j : Nat) (a : α) (s : σ) : O σ (List (List α)) := match ll[j]? with
  | some l => if l.length < 1000000 then .ok (ll.set j (l ++ [a])) s else .no
  | none => .no
/-! an object with families, looked at -/
def cF : Cell → Option F
  | .lstF xs => some (.lst xs)
  | .dct kvs => some (.dct kvs)
  | _ => none
def DP (B : Bs wr) (cs : List (Nat × Cell)) (k : Nat) (x : F) : Prop := ∀ (n : Nat) (G : List (Nat × W)) (env : Env) (s : σ) (r : Store) (b : Nat), Ok B.b n G cs env r → b ≤ B.b → deepF b (B.st s ++ r) 3 (.loc (B.b + k)) = some x
inductive OF2 (b : Nat) (cs : List (Nat × Cell)) : List (Nat × W) → List (Nat × F) → Prop
  | nil : OF2 b cs [] []
  | val {i : Nat} {x : F} {fs : List (Nat × W)} {xs : List (Nat × F)} : OF2 b cs fs xs → OF2 b cs ((i, .f x) :: fs) ((i, x) :: xs)
  | fam {i k : Nat} {cl : List Cell} {ys : List F} {fs : List (Nat × W)} {xs : List (Nat × F)} : (∀ p ∈ fam b k cl, p ∈ cs) → cl.map cF = ys.map some → OF2 b cs fs xs → OF2 b cs ((i, .loc (b + k)) :: fs) ((i, .lst ys) :: xs)
theorem DP.mono {k : Nat} {x : F} (h : DP B cs k x) (hs : cs.Sublist cs1) : DP B cs1 k x := fun n G env s r b q hb => h n G env s r b (q.sub sub_refl hs) hb
end
end TL

set_option Elab.async false
set_option linter.all false
set_option maxRecDepth 100000
set_option maxHeartbeats 4000000
set_option autoImplicit false
/-! T54: a name's family of cells; sorted forms; remove; comprehensions over live cells; the law's own sameness at any depth. -/
namespace TL
open VS
open L2 (atI ixN)
/-! ### sameness at any depth -/
theorem okP_zeroK {n : Nat} {x : F} (h : okP n x = true) (h1 : kyF x = .non ∨ kyF x = .str) : okP 0 x = true := by
  cases x <;> simp [kyF] at h1
  · simp [okP]
  · simpa [okP] using h
theorem same_any : ∀ (n : Nat) (x y : F), okP n x = true → okP n y = true → ∀ st, Cl st → mSame (n + 1) [.f x, .f y] st = .ok (.f (.bl (eqS x y))) st
  | n, x, y, hx, hy, st, hc => by
    show fnM 2 4 (tSame (mSame n)) [.f x, .f y] st = _
    have other : (kyF x = .non ∨ kyF x = .str) → (kyF y = .non ∨ kyF y = .str) → fnM 2 4 (tSame (mSame n)) [.f x, .f y] st = .ok (.f (.bl (eqS x y))) st := fun h1 h2 => same_oth (n := 0) (by decide) (okP_zeroK hx h1) (okP_zeroK hy h2) h1 h2
    have seq : ∀ (xs ys : List F), itemsD x = some xs → itemsD y = some ys → (∃ m, n = m + 1 ∧ okPs m xs = true ∧ okPs m ys = true) → xs.length ≤ 1000000 → eqS x y = eqSs xs ys →
        (tSame (mSame n) [some (.f x), some (.f y), none, none] st = ((if decide ((xs.length : Int) = ys.length) = true then (eCB (g1 allB) (aCons (sameC (mSame n)) aNil)) [some (.f x), some (.f y), none, none] st else .ok (.f (.bl false)) st)).thenS fun w st1 => .rt w st1) →
        fnM 2 4 (tSame (mSame n)) [.f x, .f y] st = .ok (.f (.bl (eqS x y))) st := by
      intro xs ys dx dy hm hl he e
      obtain ⟨m, rfl, h1, h2⟩ := hm
      apply same_rt
      rw [e]
      by_cases hq : xs.length = ys.length
      · rw [if_pos (decide_eq_true (by omega)), same_seq hc h1 h2 dx dy hl (fun a b ha hb st' hc' => same_any m a b ha hb st' hc') hq, he]
        rfl
      · rw [if_neg (by simp; omega), he, eqSs_len xs ys hq]
        rfl
    cases y with
    | non =>
      cases x with
      | non => exact other (.inl rfl) (.inl rfl)
      | str a => exact other (.inr rfl) (.inl rfl)
      | bl a => exact same_rt rfl
      | int a => exact same_rt rfl
      | lst a => exact same_rt rfl
      | tup a => exact same_rt rfl
      | _ => cases n <;> simp [okP] at hx
    | str b =>
      cases x with
      | non => exact other (.inl rfl) (.inr rfl)
      | str a => exact other (.inr rfl) (.inr rfl)
      | bl a => exact same_rt rfl
      | int a => exact same_rt rfl
      | lst a => exact same_rt rfl
      | tup a => exact same_rt rfl
      | _ => cases n <;> simp [okP] at hx
    | bl b =>
      cases x with
      | non => exact same_rt rfl
      | str a => exact same_rt rfl
      | bl a => refine same_rt ?_; cases a <;> cases b <;> rfl
      | int a => exact same_rt rfl
      | lst a => exact same_rt rfl
      | tup a => exact same_rt rfl
      | _ => cases n <;> simp [okP] at hx
    | int b =>
      cases x with
      | non => exact same_rt rfl
      | str a => exact same_rt rfl
      | bl a => exact same_rt rfl
      | int a => exact same_rt rfl
      | lst a => exact same_rt rfl
      | tup a => exact same_rt rfl
      | _ => cases n <;> simp [okP] at hx
    | lst ys =>
      cases x with
      | non => exact same_rt rfl
      | str a => exact same_rt rfl
      | bl a => exact same_rt rfl
      | int a => exact same_rt rfl
      | tup a => exact same_rt rfl
      | lst xs =>
        cases n with
        | zero => simp [okP] at hx
        | succ m =>
          rw [okP, Bool.and_eq_true] at hx hy
          exact seq xs ys rfl rfl ⟨m, rfl, hx.2, hy.2⟩ (of_decide_eq_true hx.1) rfl (bCons_rt rfl)
      | _ => cases n <;> simp [okP] at hx
    | tup ys =>
      cases x with
      | non => exact same_rt rfl
      | str a => exact same_rt rfl
      | bl a => exact same_rt rfl
      | int a => exact same_rt rfl
      | lst a => exact same_rt rfl
      | tup xs =>
        cases n with
        | zero => simp [okP] at hx
        | succ m =>
          rw [okP, Bool.and_eq_true] at hx hy
          exact seq xs ys rfl rfl ⟨m, rfl, hx.2, hy.2⟩ (of_decide_eq_true hx.1) rfl (bCons_rt rfl)
      | _ => cases n <;> simp [okP] at hx
    | _ => cases n <;> simp [okP] at hy
def d_sameM (x y : F) : P Bool := if okP 129 x = true ∧ okP 129 y = true then .ok (eqS x y) () else .no
theorem r_sameM {m : Nat → FnM} (h0 : m 0 = fnM 2 4 bStuck) (h : ∀ n, m (n + 1) = fnM 2 4 (tSame (m n))) : FnP (A := F × F × Unit) (R := Bool) (m 130) (fun a => d_sameM a.1 a.2.1) := fun rest s a hcl => by
  have e : ∀ n, m n = mSame n := fun n => by
    induction n with
    | zero => exact h0
    | succ n ih => rw [h, ih]; rfl
  dsimp only
  unfold d_sameM
  rw [e]
  by_cases h : okP 129 a.1 = true ∧ okP 129 a.2.1 = true
  · rw [if_pos h]
    exact same_any 129 a.1 a.2.1 h.1 h.2 rest hcl
  · rw [if_neg h]
    trivial
/-! ### sorted forms -/
def srtFm (l : List (Int × F)) : Option (List (Int × F)) := (fmOf (l.map En.e)).bind fun f => if (items f).all (fun b => decide (deepN b.2 ≤ 190)) = true then some ((sortFm (items f)).map fun b => (b.1, F.tup (fmFs b.2))) else none
theorem o_srtFm : Op1T sortedFmF srtFm := fun a c h => by
  unfold srtFm at h
  obtain ⟨f, e, h⟩ := Option.bind_eq_some_iff.mp h
  by_cases hd : (items f).all (fun b => decide (deepN b.2 ≤ 190)) = true
  · rw [if_pos hd] at h
    cases h
    show (fmOf (a.map En.e)).bind _ = _
    rw [e]
    show (if _ then _ else _) = _
    rw [if_pos hd]
    show some (F.lst _) = some (F.lst _)
    rw [List.map_map]
    rfl
  · rw [if_neg hd] at h; cases h
section
variable {σ α β κ ν R A X S : Type} {wr : Wr σ} {B : Bs wr} {b n : Nat} {env : Env} {r : Store} {G : List (Nat × W)} {cs cs0 cs1 cs2 : List (Nat × Cell)} {s : σ} {K : X → σ → SR → Prop} {rest : TSv} {ta tb te to tk td : TEv} {tr : TAv} {m : FnM} {T : Tab}
/-! ### a family at a name -/
/-- x = [new cell for y in ..] -/
theorem j_setFam [En β] {i : Nat} {ti : TIv} {g : TGv} {tx : TEv} {vs : List Nat} {f : β → List (Nat × W)} {x : Cell} {oi : O σ (List β)} {kk : Nat → σ → O σ X} (hin : i < n)
    (hxb : ∀ b, x.below b = true) (hx : ∀ env st, tx env st = .ok (.loc st.length) (st ++ [x])) (hi : EI B n G cs cs1 ti s oi) (hg : Tgt n g f) (hw : ∀ a, (vs.all fun v => (lk (f a) v).isSome) = true)
    (hr : ∀ k' m s1, J B n K ((i, .loc (B.b + k')) :: G) (cs1 ++ fam B.b k' (List.replicate m x)) rest s1 (kk m s1)) :
    J B n K G cs (bCons (sSet i (eLc ti g tYesV tx vs)) rest) s (oi.bind fun xs s1 => (famO xs.length s1).bind kk) := fun env r q => by
  have z := hi env r q
  have e : bCons (sSet i (eLc ti g tYesV tx vs)) rest env (B.st s ++ r) = (eLc ti g tYesV tx vs env (B.st s ++ r)).thenS fun w st1 => rest (env.set i (some w)) st1 := by
    unfold bCons sSet
    cases eLc ti g tYesV tx vs env (B.st s ++ r) <;> rfl
  rw [e]
  unfold eLc
  cases oi with
  | no => trivial
  | ex c fs s' => obtain ⟨r', e, k'⟩ := z; rw [e]; exact ⟨r', rfl, k'.cl⟩
  | ok l s1 =>
    obtain ⟨r1, e, k1, p1⟩ := z
    rw [e]
    simp only [bind_ok]
    unfold famO
    by_cases hm : 0 < l.length ∧ l.length ≤ 1000000
    · rw [if_pos hm]
      have y := fam_run hg hw hx k1.len (B.st s1 ++ r1) l 0 (by omega)
      rw [Nat.zero_add] at y
      rw [show List.replicate 0 x = [] from rfl, show outC (B.st s1 ++ r1).length 0 = .lstF [] from rfl] at y
      simp only [Res.bind]
      rw [y, st_len, List.append_assoc]
      obtain ⟨m, hm'⟩ : ∃ m, l.length = m + 1 := ⟨l.length - 1, by omega⟩
      have eo : outC (B.b + r1.length) l.length = .lstW (lwL (B.b + r1.length) (List.replicate l.length x).length) := by rw [List.length_replicate, hm']; rfl
      rw [eo]
      have k2 := k1.fam (cl := List.replicate l.length x) (fun c hc b => by rw [List.eq_of_mem_replicate hc]; exact hxb b)
      exact hr r1.length l.length s1 _ _ (k2.set hin _)
    · rw [if_neg hm]; trivial
theorem ix_famV {i0 k' j : Nat} {cl : List Cell} {oi : O σ Int} {ti : TEv} (hv : lk G i0 = some (.loc (B.b + k'))) (q : Ok B.b n G cs env r) {st : σ} (hc : (k', .lstW (lwL (B.b + k') cl.length)) ∈ cs) (hi : E B n G cs cs ti s oi) {x : Int} {s1 : σ} (ho : oi = .ok x s1) (hx : ixN cl.length x = some j) :
    ∃ r1, eIx (eVar i0) ti env (B.st s ++ r) = .ok (.loc (B.b + k' + 1 + j)) (B.st s1 ++ r1) ∧ Ok B.b n G cs env r1 ∧ Pr r r1 := by
  have ev : eVar i0 env (B.st s ++ r) = .ok (.loc (B.b + k')) (B.st s ++ r) := by
    unfold eVar
    rw [q.var i0 _ hv]
  have z := hi env r q
  rw [ho] at z
  obtain ⟨r1, e, k1, p1⟩ := z
  refine ⟨r1, ?_, k1, p1⟩
  unfold eIx
  rw [ev]
  simp only [Res.bind]
  rw [e]
  show ofW (ixC x (B.st s1 ++ r1)[B.b + k']?) _ = _
  rw [st_get, k1.cell _ _ hc]
  show ofW (atI (lwL (B.b + k') cl.length) x) _ = _
  have hj : j < cl.length := ixN_lt hx
  unfold atI
  rw [lwL_len, hx]
  show ofW ((lwL (B.b + k') cl.length)[j]?) _ = _
  rw [lwL_get _ _ _ hj]
  rfl
theorem ix_bindV {i0 k' : Nat} {cl : List Cell} {oi : O σ Int} {ti : TEv} {kS : W → Store → SR} {kk : Nat → σ → O σ X} (hv : lk G i0 = some (.loc (B.b + k'))) (q : Ok B.b n G cs env r) (hc : (k', .lstW (lwL (B.b + k') cl.length)) ∈ cs) (hi : E B n G cs cs ti s oi)
    (hr : ∀ j s1 r1, j < cl.length → Ok B.b n G cs env r1 → RlS B K (kS (.loc (B.b + (k' + 1 + j))) (B.st s1 ++ r1)) (kk j s1)) : RlS B K ((eIx (eVar i0) ti env (B.st s ++ r)).thenS kS) (oi.bind fun x s1 => (ofO (ixN cl.length x) s1).bind kk) := by
  cases ho : oi with
  | no => trivial
  | ex c2 fs2 s' =>
    have z := hi env r q
    rw [ho] at z
    obtain ⟨r1, e1, k1⟩ := z
    have ev : eVar i0 env (B.st s ++ r) = .ok (.loc (B.b + k')) (B.st s ++ r) := by
      unfold eVar
      rw [q.var i0 _ hv]
    unfold eIx
    rw [ev]
    simp only [Res.bind]
    rw [e1]
    exact ⟨r1, rfl, k1.cl⟩
  | ok x s1 =>
    simp only [bind_ok]
    cases hx : ixN cl.length x with
    | none => trivial
    | some j =>
      obtain ⟨r1, e1, k1, p1⟩ := ix_famV hv q (st := s1) hc hi ho hx
      rw [e1, show B.b + k' + 1 + j = B.b + (k' + 1 + j) by omega]
      exact hr j s1 r1 (ixN_lt hx) k1
/-- x[j].append(a) -/
theorem j_appFamV [En α] {i0 k' : Nat} {ti te : TEv} {ll : List (List α)} {oi : O σ Int} {o : σ → O σ α} {kk : List (List α) → σ → O σ X} (hv : lk G i0 = some (.loc (B.b + k')))
    (hi : E B n G (cs0 ++ fam B.b k' (ll.map cl_)) (cs0 ++ fam B.b k' (ll.map cl_)) ti s oi) (h : ∀ s1, E B n G (cs0 ++ fam B.b k' (ll.map cl_)) (cs0 ++ fam B.b k' (ll.map cl_)) te s1 (o s1))
    (hr : ∀ ll' s1, J B n K G (cs0 ++ fam B.b k' (ll'.map cl_)) rest s1 (kk ll' s1)) :
    J B n K G (cs0 ++ fam B.b k' (ll.map cl_)) (bCons (sExpr (eMut false cAppend (eIx (eVar i0) ti) (aCons te aNil))) rest) s (oi.bind fun x s1 => (ofO (ixN ll.length x) s1).bind fun j s2 => (o s2).bind fun a s3 => (appF ll j a s3).bind kk) := fun env r q => by
  have e : bCons (sExpr (eMut false cAppend (eIx (eVar i0) ti) (aCons te aNil))) rest env (B.st s ++ r) = (eIx (eVar i0) ti env (B.st s ++ r)).thenS fun w st1 => (match w with
      | .loc n => if isCell false st1[n]? = true then (te env st1).bind fun w st2 => doCell cAppend n [w] st2 else .stuck
      | _ => .stuck : Res W).thenS fun _ st2 => rest env st2 := by
    unfold bCons sExpr eMut aCons aNil
    cases eIx (eVar i0) ti env (B.st s ++ r) with
    | ok w st1 =>
      simp only [Res.thenS, Res.bind]
      cases w with
      | f x => rfl
      | loc nn =>
        simp only
        by_cases hc : isCell false st1[nn]? = true
        · rw [if_pos hc, if_pos hc]
          cases te env st1 with
          | ok w st2 => simp only; cases doCell cAppend nn [w] st2 <;> rfl
          | _ => rfl
        · rw [if_neg hc, if_neg hc]
    | _ => rfl
  rw [e]
  have hw : (k', Cell.lstW (lwL (B.b + k') (ll.map (cl_ (α := α))).length)) ∈ cs0 ++ fam B.b k' (ll.map cl_) := List.mem_append_right _ (.head _)
  have z := ix_bindV (K := K) (kk := fun j s2 => (o s2).bind fun a s3 => (appF ll j a s3).bind kk) (kS := fun w st1 => (match w with
      | .loc n => if isCell false st1[n]? = true then (te env st1).bind fun w st2 => doCell cAppend n [w] st2 else .stuck
      | _ => .stuck : Res W).thenS fun _ st2 => rest env st2) hv q hw hi (fun j s1 r1 hj k1 => by
    rw [List.length_map] at hj
    obtain ⟨l, hl⟩ : ∃ l, ll[j]? = some l := ⟨_, List.getElem?_eq_getElem hj⟩
    have hmem := fam_mem (cs0 := cs0) (b := B.b) (k := k') (cl := ll.map cl_) (j := j) (c := cl_ l) (by rw [List.getElem?_map, hl]; rfl)
    simp only
    rw [st_get, k1.cell _ _ (List.mem_of_getElem? hmem)]
    simp only [isCell, if_true]
    have z2 := h s1 env r1 k1
    cases hos : o s1 with
    | no => trivial
    | ex c2 fs2 s2 => rw [hos] at z2; obtain ⟨r2, e2, k2⟩ := z2; rw [e2]; exact ⟨r2, rfl, k2.cl⟩
    | ok a s2 =>
      rw [hos] at z2
      obtain ⟨r2, e2, k2, p2⟩ := z2
      rw [e2]
      simp only [bind_ok, Res.bind]
      unfold appF
      simp only [hl]
      by_cases hs : l.length < 1000000
      · rw [if_pos hs]
        have e3 : doCell cAppend (B.b + (k' + 1 + j)) [w_ a] (B.st s2 ++ r2) = .ok (.f .non) (B.st s2 ++ r2.set (k' + 1 + j) (cl_ (l ++ [a]))) := by
          unfold doCell
          rw [st_get, k2.cell _ _ (List.mem_of_getElem? hmem)]
          simp only [cAppend]
          rw [if_pos (by rw [List.length_map]; unfold small; exact decide_eq_true (by omega))]
          simp only [st_set]
          show Res.ok _ (B.st s2 ++ r2.set (k' + 1 + j) (.lstF (l.map En.e ++ [En.e a]))) = _
          rw [cl_, List.map_append]
          rfl
        rw [e3]
        simp only [Res.thenS, bind_ok]
        have k3 := k2.write (c' := cl_ (l ++ [a])) hmem rfl
        rw [fam_set, ← List.map_set] at k3
        exact hr _ s2 env _ k3
      · rw [if_neg hs]; trivial)
  rw [List.length_map] at z
  exact z
/-- x[j], looked at -/
theorem el_fam [En α] {i0 k' : Nat} {ti : TEv} {ll : List (List α)} {oi : O σ Int} (hv : lk G i0 = some (.loc (B.b + k')))
    (hi : E B n G (cs0 ++ fam B.b k' (ll.map cl_)) (cs0 ++ fam B.b k' (ll.map cl_)) ti s oi) :
    EL B n G (cs0 ++ fam B.b k' (ll.map cl_)) (cs0 ++ fam B.b k' (ll.map cl_)) (eIx (eVar i0) ti) s (oi.bind fun x s1 => (ofO (ixN ll.length x) s1).bind fun j s2 => ofO ll[j]? s2) := fun env r q => by
  have hw : (k', Cell.lstW (lwL (B.b + k') (ll.map (cl_ (α := α))).length)) ∈ cs0 ++ fam B.b k' (ll.map cl_) := List.mem_append_right _ (.head _)
  cases ho : oi with
  | no => trivial
  | ex c2 fs2 s' =>
    have z := hi env r q
    rw [ho] at z
    obtain ⟨r1, e1, k1⟩ := z
    have ev : eVar i0 env (B.st s ++ r) = .ok (.loc (B.b + k')) (B.st s ++ r) := by
      unfold eVar
      rw [q.var i0 _ hv]
    refine ⟨r1, ?_, k1⟩
    unfold eIx
    rw [ev]
    simp only [Res.bind]
    rw [e1]
  | ok x s1 =>
    simp only [bind_ok]
    cases hx : ixN ll.length x with
    | none => trivial
    | some j =>
      simp only [ofO, bind_ok]
      have hj := ixN_lt hx
      rw [List.getElem?_eq_getElem hj]
      obtain ⟨r1, e1, k1, p1⟩ := ix_famV (cl := ll.map cl_) hv q (st := s1) hw hi ho (by rw [List.length_map]; exact hx)
      have hmem := fam_mem (cs0 := cs0) (b := B.b) (k := k') (cl := ll.map cl_) (j := j) (c := cl_ ll[j]) (by rw [List.getElem?_map, List.getElem?_eq_getElem hj]; rfl)
      refine ⟨_, r1, e1, k1, p1, fun s2 r2 env2 ok2 => ?_⟩
      show lookC (B.st s2 ++ r2)[B.b + k' + 1 + j]? = _
      rw [show B.b + k' + 1 + j = B.b + (k' + 1 + j) by omega, st_get, ok2.cell _ _ (List.mem_of_getElem? hmem)]
      rfl
/-! ### x.remove(k) -/
theorem intL_map : ∀ l : List Int, intL (l.map F.int) = some l
  | [] => rfl
  | i :: l => by
    show (intL (l.map F.int)).map (i :: ·) = _
    rw [intL_map l]; rfl
theorem j_remI {i k p : Nat} {l : List Int} {o : O σ Int} {kk : List Int → σ → O σ X} (hv : lk G i = some (.loc (B.b + k))) (h : E B n G cs cs1 te s o) (hc0 : (k, cl_ l) ∈ cs) (hp : cs1[p]? = some (k, cl_ l)) (hr : ∀ l' s1, J B n K G (cs1.set p (k, cl_ l')) rest s1 (kk l' s1)) :
    J B n K G cs (bCons (sExpr (eMut false cRemI (eVar i) (aCons te aNil))) rest) s (o.bind fun a s1 => (ofO (remI l a) s1).bind kk) := fun env r q => by
  have ev : eVar i env (B.st s ++ r) = .ok (.loc (B.b + k)) (B.st s ++ r) := by
    unfold eVar
    rw [q.var i _ hv]
  have e : bCons (sExpr (eMut false cRemI (eVar i) (aCons te aNil))) rest env (B.st s ++ r) = (te env (B.st s ++ r)).thenS fun w st1 => (doCell cRemI (B.b + k) [w] st1).thenS fun _ st2 => rest env st2 := by
    unfold bCons sExpr eMut aCons aNil
    rw [ev]
    simp only [Res.bind]
    rw [if_pos (by rw [st_get, q.cell _ _ hc0]; rfl)]
    cases te env (B.st s ++ r) with
    | ok w st1 =>
      simp only [Res.bind, Res.thenS]
      cases doCell cRemI (B.b + k) [w] st1 <;> rfl
    | _ => rfl
  rw [e]
  refine (h env r q).thenS fun a s1 r1 _ k1 p1 => ?_
  have hc := k1.cell _ _ (List.mem_of_getElem? hp)
  cases hm : remI l a with
  | none => trivial
  | some l' =>
    have e5 : doCell cRemI (B.b + k) [w_ a] (B.st s1 ++ r1) = .ok (.f .non) (B.st s1 ++ r1.set k (cl_ l')) := by
      unfold doCell
      rw [st_get, hc]
      show (match (intL (l.map F.int)).bind fun ns => (remI ns a).map fun ms => (W.f F.non, Cell.lstF (ms.map F.int)) with
        | some (w, c') => Res.ok w ((B.st s1 ++ r1).set (B.b + k) c')
        | none => .stuck) = _
      rw [intL_map]
      simp only [Option.bind_some, hm, Option.map_some, st_set]
      rfl
    simp only [ofO, bind_ok]
    rw [e5]
    simp only [Res.thenS]
    exact hr _ s1 env _ (k1.write hp rfl)
/-! ### list(range(a, b)) as a cell -/
@[irreducible] def lrg2O (i j : Int) (s : σ) : O σ (List Int) := ofO (if smI i = true ∧ smI j = true ∧ small (j - i).toNat = true then some ((List.range (j - i).toNat).map fun k => i + (k : Nat)) else none) s
theorem c_lrg2 {o1 : O σ Int} {o2 : σ → O σ Int} (h1 : E B n G cs cs1 ta s o1) (h2 : ∀ s1, E B n G cs1 cs2 tb s1 (o2 s1)) : EC B n G cs cs2 (eLrg2M ta tb) s (o1.bind fun i s1 => (o2 s1).bind fun j s2 => lrg2O i j s2) := fun env r k => by
  have z := h1 env r k
  unfold eLrg2M
  cases o1 with
  | no => trivial
  | ex c fs s1 => obtain ⟨r1, e, k1⟩ := z; rw [e]; exact ⟨r1, rfl, k1⟩
  | ok i s1 =>
    obtain ⟨r1, e, k1, p1⟩ := z
    rw [e]
    have z := h2 s1 env r1 k1
    simp only [bind_ok, Res.bind]
    cases ho : o2 s1 with
    | no => trivial
    | ex c fs s2 => rw [ho] at z; obtain ⟨r2, e2, k2⟩ := z; rw [e2]; exact ⟨r2, rfl, k2⟩
    | ok j s2 =>
      rw [ho] at z
      obtain ⟨r2, e2, k2, p2⟩ := z
      rw [e2]
      simp only [bind_ok]
      unfold lrg2O
      by_cases hs : smI i = true ∧ smI j = true ∧ small (j - i).toNat = true
      · rw [if_pos hs]
        refine ⟨r2, ?_, k2, p1.trans p2⟩
        show (if smallI i = true ∧ smallI j = true ∧ small (j - i).toNat = true then Res.ok (W.loc (B.st s2 ++ r2).length) ((B.st s2 ++ r2) ++ [.lstF ((List.range (j - i).toNat).map fun k => F.int (i + (k : Nat)))]) else .stuck) = _
        rw [if_pos ⟨smI_ok hs.1, smI_ok hs.2.1, hs.2.2⟩, st_len, List.append_assoc]
        show Res.ok _ (B.st s2 ++ (r2 ++ [.lstF _])) = Res.ok _ (B.st s2 ++ (r2 ++ [.lstF _]))
        rw [List.map_map]
        rfl
      · rw [if_neg hs]; trivial
/-! ### k in d, d being data -/
theorem e_inDd [En κ] [En ν] [Ky κ] [DecidableEq κ] {oe : O σ κ} {od : σ → O σ (Dc κ ν)} (h1 : E B n G cs cs1 tk s oe) (h2 : ∀ s, E B n G cs1 cs2 td s (od s)) :
    E B n G cs cs2 (eInD tk td) s (oe.bind fun y s1 => (od s1).bind fun d s2 => .ok (lookD d.l y).isSome s2) := fun env r k => by
  refine (h1 env r k).bind fun y s1 r1 _ k1 p1 => ?_
  refine Rl.up p1 ((h2 s1 env r1 k1).bind fun d s2 r2 _ k2 p2 => ?_)
  refine Rl.mk ?_ k2 p2
  show (if (keyF (En.e y)).isSome = true then Res.ok (W.f (.bl (lookF (d.l.map eP) (En.e y)).isSome)) (B.st s2 ++ r2) else .stuck) = _
  rw [Ky.ok, if_pos (show (some (Ky.key y)).isSome = true from rfl), lookF_ky, Option.isSome_map]
  rfl
/-! ### a comprehension that looks at live cells -/
def ThawH (b : Nat) (G : List (Nat × W)) (cs : List (Nat × Cell)) (G' : List (Nat × W)) : Prop :=
  ∀ i w, lk G' i = some w → (∃ x, w = .f x ∧ lk G i = some (.f x)) ∨ (∃ k xs, lk G i = some (.loc (b + k)) ∧ (k, Cell.lstF xs) ∈ cs ∧ w = .f (.lst xs)) ∨ ∃ k xs, lk G i = some (.loc (b + k)) ∧ (k, Cell.dct xs) ∈ cs ∧ w = .f (.dct xs)
theorem th_nil {b : Nat} : ThawH b G cs [] := fun _ _ h => by cases h
theorem th_val {b i : Nat} {x : F} {G' : List (Nat × W)} (h : lk G i = some (.f x)) (t : ThawH b G cs G') : ThawH b G cs ((i, .f x) :: G') := fun j w q => by
  rcases tg_lk q with ⟨rfl, rfl⟩ | q
  · exact .inl ⟨x, rfl, h⟩
  · exact t j w q
theorem th_cell {b i k : Nat} {xs : List F} {G' : List (Nat × W)} (h : lk G i = some (.loc (b + k))) (hc : (k, Cell.lstF xs) ∈ cs) (t : ThawH b G cs G') : ThawH b G cs ((i, .f (.lst xs)) :: G') := fun j w q => by
  rcases tg_lk q with ⟨rfl, rfl⟩ | q
  · exact .inr (.inl ⟨k, xs, h, hc, rfl⟩)
  · exact t j w q
theorem th_dct {b i k : Nat} {xs : List (F × F)} {G' : List (Nat × W)} (h : lk G i = some (.loc (b + k))) (hc : (k, Cell.dct xs) ∈ cs) (t : ThawH b G cs G') : ThawH b G cs ((i, .f (.dct xs)) :: G') := fun j w q => by
  rcases tg_lk q with ⟨rfl, rfl⟩ | q
  · exact .inr (.inr ⟨k, xs, h, hc, rfl⟩)
  · exact t j w q
theorem c_borL [En α] [Sl α] {G' : List (Nat × W)} {o : P (List α)} (ht : ThawH B.b G cs G') (h : EC B0 n G' [] [] te () o) : EC B n G cs cs (eBorL te) s ((noEx o).up s) := fun env r k => by
  have k0 : Ok B0.b n G' [] (thawE (B.st s ++ r) env) [] := by
    refine ⟨by unfold thawE; rw [List.length_map]; exact k.len, rfl, List.nodup_nil, fun _ _ q => (by cases q), fun i w hw => ?_⟩
    unfold thawE
    rw [List.getElem?_map]
    rcases ht i w hw with ⟨x, rfl, e⟩ | ⟨m, xs, e, hc, rfl⟩ | ⟨m, xs, e, hc, rfl⟩
    · rw [k.var i _ e]
      rfl
    · rw [k.var i _ e]
      have e2 : (B.st s ++ r)[B.b + m]? = some (Cell.lstF xs) := by rw [st_get]; exact k.cell _ _ hc
      show some ((deepF 0 (B.st s ++ r) 3 (.loc (B.b + m))).map W.f) = _
      unfold deepF
      rw [if_pos (Nat.zero_le _), e2]
      rfl
    · rw [k.var i _ e]
      have e2 : (B.st s ++ r)[B.b + m]? = some (Cell.dct xs) := by rw [st_get]; exact k.cell _ _ hc
      show some ((deepF 0 (B.st s ++ r) 3 (.loc (B.b + m))).map W.f) = _
      unfold deepF
      rw [if_pos (Nat.zero_le _), e2]
      rfl
  have z := h _ _ k0
  cases o with
  | no => trivial
  | ex c fs u => trivial
  | ok a u =>
    obtain ⟨r', e, k', p'⟩ := z
    have : r' = [] := List.length_eq_zero_iff.mp (by rw [p'.len]; rfl)
    subst this
    have e : te (thawE (B.st s ++ r) env) [] = .ok (.loc 0) [cl_ a] := e
    refine ⟨r, ?_, k, .refl⟩
    unfold eBorL
    rw [e]
    show (if flats (a.map En.e) = true then Res.ok (W.loc (B.st s ++ r).length) ((B.st s ++ r) ++ [.lstF (a.map En.e)]) else .stuck) = _
    rw [if_pos (flats_map a), st_len, List.append_assoc]
end
end TL

set_option Elab.async false
set_option linter.all false
set_option maxRecDepth 100000
set_option maxHeartbeats 4000000
set_option autoImplicit false
namespace LB
open VS TL
open L2 (atI ixN)
/-! _law_draw -/
def d_law_draw (many_10 : Int) (s_0 : Sp) : O Sp (Int) :=
  (O.bind (O.bind (.ok s_0.cnt s_0) fun x_34 s_35 => .ok ((x_34 + (1 : Int))) s_35) fun a_11 s_12 => let s_13 : Sp := { s_12 with cnt := a_11 }; (O.bind (O.bind (O.bind (.ok s_13.big s_13) fun x_40 s_41 => .ok ((decide (x_40 = (0 : Int)))) s_41) fun b_38 s_39 => if b_38 = true then (.ok (!s_39.cells.isEmpty) s_39) else .ok false s_39) fun b_36 s_37 => O.bind (if b_36 = true then (match s_37.cells with
    | [] => .no
    | cell_14 :: l_15 => let s_22 : Sp := { s_37 with cells := l_15 }; (O.bind (O.bind (O.bind (O.bind (O.bind (O.bind (.ok s_22.mix s_22) fun x_50 s_51 => ofO (mulO x_50 (8191 : Int)) s_51) fun x_48 s_49 => .ok ((x_48 + cell_14)) s_49) fun x_46 s_47 => .ok ((x_46 + (3 : Int))) s_47) fun x_44 s_45 => .ok (x_44) s_45) fun x_42 s_43 => ofO (modO x_42 (2147483647 : Int)) s_43) fun a_16 s_17 => let s_18 : Sp := { s_17 with mix := a_16 }; (O.bind (O.bind (O.bind (ofO (powO (10 : Int) (18 : Int)) s_18) fun x_54 s_55 => .ok ((decide (x_54 ≤ cell_14))) s_55) fun b_52 s_53 => if b_52 = true then (.ok cell_14 s_53) else (.ok (0 : Int) s_53)) fun a_19 s_20 => let s_21 : Sp := { s_20 with big := a_19 }; (.ok () s_21)))) else (.ok () s_37)) fun v_23 s_24 =>
    (O.bind (O.bind (.ok s_24.big s_24) fun x_58 s_59 => .ok ((decide ((0 : Int) < x_58))) s_59) fun b_56 s_57 => if b_56 = true then (O.bind (O.bind (O.bind (.ok s_57.big s_57) fun x_62 s_63 => .ok (x_62) s_63) fun x_60 s_61 => ofO (modO x_60 many_10) s_61) fun digit_27 s_28 =>
    (O.bind (O.bind (.ok s_28.big s_28) fun x_64 s_65 => ofO (divO x_64 many_10) s_65) fun a_29 s_30 => let s_31 : Sp := { s_30 with big := a_29 }; (.ok digit_27 s_31))) else
    (O.bind (O.bind (O.bind (O.bind (O.bind (O.bind (.ok s_57.mix s_57) fun x_74 s_75 => O.bind (O.bind (.ok s_75.cnt s_75) fun x_78 s_79 => ofO (mulO (7919 : Int) x_78) s_79) fun x_76 s_77 => .ok ((x_74 + x_76)) s_77) fun x_72 s_73 => .ok ((x_72 + (104729 : Int))) s_73) fun x_70 s_71 => ofO (powO x_70 (5 : Int)) s_71) fun x_68 s_69 => .ok (x_68) s_69) fun x_66 s_67 => ofO (modO x_66 (2147483629 : Int)) s_67) fun mixed_32 s_33 =>
    (O.bind (O.bind (O.bind (O.bind (O.bind (O.bind (ofO (mulO mixed_32 (48271 : Int)) s_33) fun x_90 s_91 => O.bind (O.bind (.ok s_91.cnt s_91) fun x_94 s_95 => ofO (mulO (30011 : Int) x_94) s_95) fun x_92 s_93 => .ok ((x_90 + x_92)) s_93) fun x_88 s_89 => .ok ((x_88 + (29 : Int))) s_89) fun x_86 s_87 => ofO (powO x_86 (3 : Int)) s_87) fun x_84 s_85 => .ok (x_84) s_85) fun x_82 s_83 => ofO (modO x_82 (1000000007 : Int)) s_83) fun x_80 s_81 => ofO (modO x_80 many_10) s_81)))))
/-! _law_pick -/
def d_law_pick_sli (some_101 : List (Int)) (s_0 : Sp) : O Sp (Int) :=
  (O.bind (d_law_draw (((some_101).length : Int)) s_0) fun x_102 s_103 => ofO (atI some_101 x_102) s_103)
/-! _law_t_slot -/
def d_law_t_slot (blocks_106 : List ((Int) × (Int))) (block_107 : Int) : P (Int) :=
  (if (decide ((0 : Int) < block_107)) = true then (O.bind (ofO (atI blocks_106 (block_107 - (1 : Int))) ()) fun x_108 _ => .ok (x_108.1) ()) else (.ok (0 : Int) ()))
/-! _law_t_drawn -/
def d_law_t_drawn (most_6 : Int) (s_0 : Sp) : O Sp (List ((Int) × (Int))) :=
  (let blocks_8 := ([] : List ((Int) × (Int))); (O.bind (O.bind (d_law_draw ((most_6 + (1 : Int))) s_0) fun x_133 s_134 => rg1 x_133 s_134) fun l_131 s_132 => O.bind (foldO (fun i_97 (v_96 : (List ((Int) × (Int)))) s_98 => (O.bind (O.bind (O.bind (d_law_draw ((((v_96).length : Int) + (1 : Int))) s_98) fun x_115 s_116 => lstO [x_115, ((v_96).length : Int)] s_116) fun x_113 s_114 => d_law_pick_sli (x_113) s_114) fun parent_104 s_105 =>
    (O.bind (O.bind (O.bind (O.bind ((noEx (d_law_t_slot (v_96) (parent_104))).up s_105) fun x_123 s_124 => .ok ((x_123 + (1 : Int))) s_124) fun x_121 s_122 => O.bind (O.bind (O.bind (ofO (powO (10 : Int) (6 : Int)) s_122) fun x_129 s_130 => lstO [(0 : Int), (0 : Int), (1 : Int), (2 : Int), x_129] s_130) fun x_127 s_128 => d_law_pick_sli (x_127) s_128) fun x_125 s_126 => .ok ((x_121 + x_125)) s_126) fun x_119 s_120 => .ok ((x_119, parent_104)) s_120) fun y_117 s_118 => O.bind (appO v_96 y_117 s_118) fun blocks_109 s_110 =>
    (.ok blocks_109 s_110)))) l_131 blocks_8 s_132) fun v_111 s_112 =>
    (.ok v_111 s_112)))
/-! _law_t_depths -/
def d_law_t_depths (blocks_139 : List ((Int) × (Int))) : P (List (Int)) :=
  (let found_141 := ([(0 : Int)] : List (Int)); (O.bind (foldO (fun i_144 (v_143 : (List (Int))) _ => (O.bind (O.bind (ofO (atI v_143 i_144.2) ()) fun x_153 _ => .ok ((x_153 + (1 : Int))) ()) fun y_152 _ => O.bind (appO v_143 y_152 ()) fun found_148 _ =>
    (.ok found_148 ()))) blocks_139 found_141 ()) fun v_150 _ =>
    (.ok v_150 ())))
/-! _law_renumbered -/
def d_law_renumbered (blocks_159 : List ((Int) × (Int))) (s_0 : Sp) : O Sp (List ((Int) × (Int))) :=
  (O.bind (dispO [((0 : Int), (0 : Int))] s_0) fun places_161 s_162 =>
    (let found_164 := ([] : List ((Int) × (Int))); (O.bind (lrg2O ((1 : Int)) ((((blocks_159).length : Int) + (1 : Int))) s_162) fun left_167 s_168 =>
    (O.bind (whO (fun (v_169 : (List (Int)) × (List ((Int) × (Int))) × (List ((Int) × (Int)))) s_170 => (ofO ((eqO v_169.1 ([] : List (Int))).map fun c => !c) s_170)) (fun v_169 s_170 => (O.bind (((noEx ((O.bind (smL v_169.1 ()) fun l_184 _ => lcO (fun x_171 _ => (O.bind (O.bind (ofO (atI blocks_159 (x_171 - (1 : Int))) ()) fun x_186 _ => .ok (x_186.2) ()) fun x_185 _ => .ok ((lookD (Dc.mk v_169.2.2).l x_185).isSome) ())) (fun x_171 _ => (.ok x_171 ())) l_184 ())))).up s_170) fun ready_172 s_173 =>
    (O.bind (d_law_pick_sli (ready_172) s_173) fun block_174 s_175 =>
    (O.bind (ofO (remI v_169.1 block_174) s_175) fun left_176 s_177 =>
    (O.bind (O.bind (O.bind (ofO (atI blocks_159 (block_174 - (1 : Int))) s_177) fun x_191 s_192 => .ok (x_191.1) s_192) fun x_189 s_190 => O.bind (O.bind (O.bind (ofO (atI blocks_159 (block_174 - (1 : Int))) s_190) fun x_197 s_198 => .ok (x_197.2) s_198) fun x_195 s_196 => ofO (lookD (Dc.mk v_169.2.2).l x_195) s_196) fun x_193 s_194 => .ok ((x_189, x_193)) s_194) fun y_187 s_188 => O.bind (appO v_169.2.1 y_187 s_188) fun found_178 s_179 =>
    (O.bind (dputO v_169.2.2 block_174 ((found_178).length : Int) s_179) fun places_180 s_181 =>
    (.ok (left_176, (found_178, places_180)) s_181))))))) fuel (left_167, (found_164, places_161.l)) s_168) fun v_182 s_183 =>
    (.ok v_182.2.1 s_183)))))
/-! _law_changed -/
def d_law_changed (blocks_205 : List ((Int) × (Int))) (s_0 : Sp) : O Sp (List ((Int) × (Int))) :=
  (O.bind (d_law_draw ((3 : Int)) s_0) fun way_206 s_207 =>
    (O.bind (d_law_draw ((((blocks_205).length : Int) + (1 : Int))) s_207) fun at_208 s_209 =>
    (O.bind ((d_law_t_slot (blocks_205) (at_208)).up s_209) fun slot_210 s_211 =>
    (O.bind (if (decide (way_206 = (0 : Int))) = true then .ok true s_211 else (ofO ((eqO blocks_205 ([] : List ((Int) × (Int))))) s_211)) fun b_228 s_229 => if b_228 = true then (O.bind (O.bind (O.bind (O.bind (d_law_draw ((2 : Int)) s_229) fun x_236 s_237 => .ok (((slot_210 + (1 : Int)) + x_236)) s_237) fun x_234 s_235 => .ok ((x_234, at_208)) s_235) fun x_232 s_233 => lstO [x_232] s_233) fun x_230 s_231 => ofO (addL blocks_205 x_230) s_231) else
    (let at_213 := (if (1 : Int) > at_208 then (1 : Int) else at_208); (O.bind (ofO (atI blocks_205 (at_213 - (1 : Int))) s_229) fun p_215 s_216 =>
    (O.bind ((d_law_t_slot (blocks_205) (p_215.2)).up s_216) fun beneath_217 s_218 =>
    (O.bind (O.bind (O.bind (smL blocks_205 s_218) fun l_240 s_241 => .ok ((l_240.filter fun x_219 => (decide (x_219.2 = at_213))).map fun x_219 => x_219.1) s_241) fun x_238 s_239 => ofO (addL x_238 ([(p_215.1 + (3 : Int))] : List (Int))) s_239) fun behind_221 s_222 =>
    (if (decide (way_206 = (1 : Int))) = true then (O.bind (O.bind (O.bind (O.bind (O.bind (O.bind (O.bind (O.bind (ofO (minO behind_221) s_222) fun x_256 s_257 => .ok ((x_256 - beneath_217)) s_257) fun x_254 s_255 => .ok ((x_254 - (1 : Int))) s_255) fun x_252 s_253 => d_law_draw (x_252) s_253) fun x_250 s_251 => .ok (((beneath_217 + (1 : Int)) + x_250)) s_251) fun x_248 s_249 => .ok ((x_248, p_215.2)) s_249) fun x_246 s_247 => lstO [x_246] s_247) fun x_244 s_245 => ofO (addL (cutL blocks_205 none (some (at_213 - (1 : Int)))) x_244) s_245) fun x_242 s_243 => ofO (addL x_242 (cutL blocks_205 (some at_213) none)) s_243) else
    (O.bind (O.bind (rg1 at_213 s_222) fun l_260 s_261 => O.bind (smL l_260 s_261) fun l_258 s_259 => lcO (fun x_224 s_225 => (O.bind ((d_law_t_slot (blocks_205) (x_224)).up s_225) fun x_262 s_263 => .ok ((decide (x_262 < p_215.1))) s_263)) (fun x_224 s_225 => (.ok x_224 s_225)) l_258 s_259) fun lower_226 s_227 =>
    (O.bind (O.bind (O.bind (O.bind (d_law_pick_sli (lower_226) s_227) fun x_270 s_271 => .ok ((p_215.1, x_270)) s_271) fun x_268 s_269 => lstO [x_268] s_269) fun x_266 s_267 => ofO (addL (cutL blocks_205 none (some (at_213 - (1 : Int)))) x_266) s_267) fun x_264 s_265 => ofO (addL x_264 (cutL blocks_205 (some at_213) none)) s_265)))))))))))
/-! is_list -/
def d_is_list_ltii (thing_277 : List ((Int) × (Int))) : P (Bool) :=
  (.ok true ())
/-! is_list -/
def d_is_list_tii (thing_296 : (Int) × (Int)) : P (Bool) :=
  (.ok true ())
/-! is_integer -/
def d_is_integer_i (thing_300 : Int) : P (Bool) :=
  (.ok (!false) ())
structure Tree where
  pairs : List ((Int) × (Int))
  slots : List (Int)
  parents : List (Option (Int))
  depths : List (Int)
deriving DecidableEq
instance : En Tree := ⟨fun x => F.obj 0 [(0, En.e x.pairs), (1, En.e x.slots), (2, En.e x.parents), (3, En.e x.depths)]⟩
instance : NN Tree := ⟨fun _ => rfl⟩
/-! Tree.__contains__ -/
def d_Tree__contains (self_301 : Tree) (thing_302 : Int) : P (Bool) :=
  (O.bind (d_is_integer_i (thing_302)) fun b_303 _ => if b_303 = true then (.ok ((decide ((0 : Int) ≤ thing_302)) && (decide (thing_302 < ((self_301.slots).length : Int)))) ()) else .ok false ())
/-! Tree.can_stand -/
def d_Tree_can_stand (self_297 : Tree) (slot_298 : Int) (parent_299 : Int) : P (Bool) :=
  (O.bind (d_is_integer_i (slot_298)) fun b_304 _ => if b_304 = true then (O.bind (O.bind (d_Tree__contains (self_297) (parent_299)) fun q_in s_in => .ok (xor q_in false) ()) fun b_305 _ => if b_305 = true then (O.bind (ofO (atI self_297.slots parent_299) ()) fun x_306 _ => .ok ((decide (x_306 < slot_298))) ()) else .ok false ()) else .ok false ())
/-! Tree.__init__ -/
def d_Tree__init (blocks_276 : List ((Int) × (Int))) : P (Tree) :=
  (O.bind (O.bind (d_is_list_ltii (blocks_276)) fun x_319 _ => .ok ((!x_319)) ()) fun b_318 _ => if b_318 = true then .no else
    (let pairs_280 := ([] : List ((Int) × (Int))); (let slots_283 := ([(0 : Int)] : List (Int)); (let parents_286 := ([none] : List (Option (Int))); (let depths_289 := ([(0 : Int)] : List (Int)); (O.bind (foldO (fun i_292 (v_291 : (List ((Int) × (Int))) × (List (Int)) × (List (Option (Int))) × (List (Int))) _ => (O.bind (O.bind (O.bind (d_is_list_tii (i_292.2)) fun x_322 _ => .ok ((!x_322)) ()) fun b_321 _ => if b_321 = true then .ok true () else (if (!decide ((2 : Int) = (2 : Int))) = true then .ok true () else (O.bind (noEx (d_Tree_can_stand ((Tree.mk (v_291.1) (v_291.2.1) (v_291.2.2.1) (v_291.2.2.2))) (i_292.2.1) (i_292.2.2))) fun x_323 _ => .ok ((!x_323)) ()))) fun b_320 _ => if b_320 = true then .no else
    (O.bind (appO v_291.1 (i_292.2.1, i_292.2.2) ()) fun selfpairs_308 _ =>
    (O.bind (appO v_291.2.1 i_292.2.1 ()) fun selfslots_310 _ =>
    (O.bind (appO v_291.2.2.1 (some i_292.2.2) ()) fun selfparents_312 _ =>
    (O.bind (O.bind (ofO (atI v_291.2.2.2 i_292.2.2) ()) fun x_325 _ => .ok ((x_325 + (1 : Int))) ()) fun y_324 _ => O.bind (appO v_291.2.2.2 y_324 ()) fun selfdepths_314 _ =>
    (.ok (selfpairs_308, (selfslots_310, (selfparents_312, selfdepths_314))) ()))))))) (enI 0 blocks_276) (pairs_280, (slots_283, (parents_286, depths_289))) ()) fun v_316 _ =>
    (.ok (Tree.mk (v_316.1) (v_316.2.1) (v_316.2.2.1) (v_316.2.2.2)) ())))))))
/-! _law_form -/
def d_law_form_s (d_r : (List ((Int) × (Int))) → (Int) → P (F)) (blocks_328 : List ((Int) × (Int))) (block_329 : Int) : P (F) :=
  (let found_331 := ([] : List ((Int) × (F))); (O.bind (foldO (fun i_334 (v_333 : (List ((Int) × (F)))) _ => (O.bind (if (decide (i_334.2.2 = block_329)) = true then (O.bind (O.bind (d_r (blocks_328) ((i_334.1 + (1 : Int)))) fun x_347 _ => .ok ((i_334.2.1, x_347)) ()) fun y_346 _ => O.bind (appO v_333 y_346 ()) fun found_338 _ =>
    (.ok found_338 ())) else (.ok v_333 ())) fun v_340 _ =>
    (.ok v_340 ()))) (enI 0 blocks_328) found_331 ()) fun v_343 _ =>
    (O.bind (O.bind (ofO (srtFm v_343) ()) fun x_349 _ => .ok ((Tu.mk x_349)) ()) fun x_348 _ => .ok ((En.e x_348)) ())))
def d_law_form : Nat → (List ((Int) × (Int))) → (Int) → P (F)
  | 0, _, _ => .no
  | n + 1, x0, x1 => d_law_form_s (d_law_form n) x0 x1
/-! Tree.__len__ -/
def d_Tree__len (self_358 : Tree) : P (Int) :=
  (.ok ((self_358.pairs).length : Int) ())
/-! Tree.formRest -/
def d_TreeForm (self : Tree) : P F :=
  (famO self.slots.length ()).bind fun m _ =>
  ((((d_Tree__len self).bind fun i _ => lenI i ()).bind fun i _ => rg3 i 0 ())).bind fun l _ =>
  (foldO (fun b (v : List (List (Int × F))) _ => ((ofO (atI self.parents b) ()).bind fun p _ => ofO p ()).bind fun x _ => (ofO (ixN v.length x) ()).bind fun j _ =>
    ((ofO (atI self.slots b) ()).bind fun sl _ => ((((ofO (ixN v.length b) ()).bind fun j2 _ => ofO v[j2]? ()).bind fun l _ => ofO (srtFm l) ()).bind fun l _ => .ok (En.e (Tu.mk l)) ()).bind fun f _ => .ok (sl, f) ()).bind fun a _ =>
    (appF v j a ()).bind fun v' _ => .ok v' ()) l (List.replicate m []) ()).bind fun v _ =>
  ((((ofO (ixN v.length 0) ()).bind fun j2 _ => ofO v[j2]? ()).bind fun l _ => ofO (srtFm l) ()).bind fun l _ => .ok (En.e (Tu.mk l)) ())

/-! Tree.form -/
def d_Tree_form (self_357 : Tree) : P (F) :=
  (d_TreeForm self_357)
/-! alike -/
def d_alike (one_362 : Tree) (other_363 : Tree) : P (Bool) :=
  (O.bind (d_Tree_form (one_362)) fun x_364 _ => O.bind (d_Tree_form (other_363)) fun x_365 _ => ofO ((eqA (En.e x_364) (En.e x_365))) ())
/-! Tree.__eq__ -/
def d_Tree__eq (self_368 : Tree) (other_369 : Tree) : P (Bool) :=
  (ofO ((eqO self_368.pairs other_369.pairs)) ())
/-! is_list -/
def d_is_list_a (thing_394 : F) : P (Bool) :=
  (.ok (isiAny [.lst, .tup] (kyF thing_394)) ())
/-! is_integer -/
def d_is_integer_a (thing_416 : F) : P (Bool) :=
  (.ok ((isiAny [.int] (kyF thing_416)) && (!(isiAny [.bl] (kyF thing_416)))) ())
/-! Tree.__contains__ -/
def d_Tree__contains_Treea (self_417 : Tree) (thing_418 : F) : P (Bool) :=
  (O.bind (d_is_integer_a (thing_418)) fun b_419 _ => if b_419 = true then (O.bind (ofO ((De.d thing_418 : Option (Int))) ()) fun x_420 _ => if (decide ((0 : Int) ≤ x_420)) = true then .ok (decide (x_420 < ((self_417.slots).length : Int))) () else .ok false ()) else .ok false ())
/-! Tree.can_stand -/
def d_Tree_can_stand_Treeaa (self_413 : Tree) (slot_414 : F) (parent_415 : F) : P (Bool) :=
  (O.bind (d_is_integer_a (slot_414)) fun b_421 _ => if b_421 = true then (O.bind (O.bind (d_Tree__contains_Treea (self_413) (parent_415)) fun q_in s_in => .ok (xor q_in false) ()) fun b_422 _ => if b_422 = true then (O.bind (O.bind (ofO ((De.d parent_415 : Option (Int))) ()) fun x_424 _ => ofO (atI self_413.slots x_424) ()) fun x_423 _ => O.bind (ofO ((De.d slot_414 : Option (Int))) ()) fun x_425 _ => .ok ((decide (x_423 < x_425))) ()) else .ok false ()) else .ok false ())
/-! Tree.__init__ -/
def d_Tree__init_a (blocks_393 : F) : P (Tree) :=
  (O.bind (O.bind (d_is_list_a (blocks_393)) fun x_438 _ => .ok ((!x_438)) ()) fun b_437 _ => if b_437 = true then .no else
    (let pairs_397 := ([] : List ((Int) × (Int))); (let slots_400 := ([(0 : Int)] : List (Int)); (let parents_403 := ([none] : List (Option (Int))); (let depths_406 := ([(0 : Int)] : List (Int)); (O.bind (O.bind (ofO (itA blocks_393) ()) fun l_461 _ => .ok (enI 0 l_461) ()) fun l_460 _ => O.bind (foldO (fun i_409 (v_408 : (List ((Int) × (Int))) × (List (Int)) × (List (Option (Int))) × (List (Int))) _ => (O.bind (O.bind (O.bind (d_is_list_a (i_409.2)) fun x_441 _ => .ok ((!x_441)) ()) fun b_440 _ => if b_440 = true then .ok true () else (O.bind (O.bind (ofO (lenA i_409.2) ()) fun x_443 _ => .ok ((!decide (x_443 = (2 : Int)))) ()) fun b_442 _ => if b_442 = true then .ok true () else (O.bind (O.bind (ofO (ixA i_409.2 (0 : Int)) ()) fun x_445 _ => O.bind (ofO (ixA i_409.2 (1 : Int)) ()) fun x_446 _ => noEx (d_Tree_can_stand_Treeaa ((Tree.mk (v_408.1) (v_408.2.1) (v_408.2.2.1) (v_408.2.2.2))) (x_445) (x_446))) fun x_444 _ => .ok ((!x_444)) ()))) fun b_439 _ => if b_439 = true then .no else
    (O.bind (O.bind (O.bind (ofO (ixA i_409.2 (0 : Int)) ()) fun x_449 _ => O.bind (ofO (ixA i_409.2 (1 : Int)) ()) fun x_450 _ => .ok ((x_449, x_450)) ()) fun x_448 _ => ofO ((De.d (En.e x_448) : Option ((Int) × (Int)))) ()) fun y_447 _ => O.bind (appO v_408.1 y_447 ()) fun selfpairs_427 _ =>
    (O.bind (O.bind (ofO (ixA i_409.2 (0 : Int)) ()) fun x_452 _ => ofO ((De.d x_452 : Option (Int))) ()) fun y_451 _ => O.bind (appO v_408.2.1 y_451 ()) fun selfslots_429 _ =>
    (O.bind (O.bind (O.bind (ofO (ixA i_409.2 (1 : Int)) ()) fun x_455 _ => ofO ((De.d x_455 : Option (Int))) ()) fun x_454 _ => .ok ((some x_454)) ()) fun y_453 _ => O.bind (appO v_408.2.2.1 y_453 ()) fun selfparents_431 _ =>
    (O.bind (O.bind (O.bind (O.bind (ofO (ixA i_409.2 (1 : Int)) ()) fun x_459 _ => ofO ((De.d x_459 : Option (Int))) ()) fun x_458 _ => ofO (atI v_408.2.2.2 x_458) ()) fun x_457 _ => .ok ((x_457 + (1 : Int))) ()) fun y_456 _ => O.bind (appO v_408.2.2.2 y_456 ()) fun selfdepths_433 _ =>
    (.ok (selfpairs_427, (selfslots_429, (selfparents_431, selfdepths_433))) ()))))))) l_460 (pairs_397, (slots_400, (parents_403, depths_406))) ()) fun v_435 _ =>
    (.ok (Tree.mk (v_435.1) (v_435.2.1) (v_435.2.2.1) (v_435.2.2.2)) ())))))))
/-! Tree.__init__ -/
def d_Tree__init_a_d1  : P (Tree) :=
  d_Tree__init_a ((En.e (Tu.mk ([] : List (Int)))))
/-! law -/
def d_law (s_0 : Sp) : O Sp (Bool) :=
  (O.bind (rg1 (6 : Int) s_0) fun l_545 s_546 => O.bind (forO (R := Bool) (fun i_2 (v_1 : Unit) s_3 => (O.bind (d_law_t_drawn ((12 : Int)) s_3) fun blocks_135 s_136 =>
    (O.bind (O.bind (d_law_draw ((2 : Int)) s_136) fun x_465 s_466 => .ok ((decide (x_465 = (0 : Int)))) s_466) fun b_463 s_464 => O.bind (if b_463 = true then (O.bind (O.bind (smL blocks_135 s_464) fun l_467 s_468 => mapO (fun x_137 s_138 => (O.bind (O.bind (O.bind ((d_law_t_depths (blocks_135)).up s_138) fun x_473 s_474 => ofO (atI x_473 x_137.2) s_474) fun x_471 s_472 => .ok (((1 : Int) + x_471)) s_472) fun x_469 s_470 => .ok ((x_469, x_137.2)) s_470)) l_467 s_468) fun blocks_154 s_155 =>
    (.ok blocks_154 s_155)) else (.ok blocks_135 s_464)) fun v_156 s_157 =>
    (O.bind (d_law_renumbered (v_156) s_157) fun other_203 s_204 =>
    (O.bind (d_law_changed (v_156) s_204) fun bent_274 s_275 =>
    (O.bind ((d_Tree__init (v_156)).up s_275) fun one_326 s_327 =>
    (O.bind ((d_law_form 16 (v_156) ((0 : Int))).up s_327) fun due_350 s_351 =>
    (O.bind (rg1 (2 : Int) s_351) fun l_489 s_490 => O.bind (forO (R := Bool) (fun i_353 (v_352 : Unit) s_354 => (O.bind (O.bind (O.bind (O.bind (O.bind ((d_Tree_form (one_326)).up s_354) fun x_483 s_484 => O.bind (O.bind ((d_Tree__init (other_203)).up s_484) fun x_487 s_488 => (d_Tree_form (x_487)).up s_488) fun x_485 s_486 => lstO [x_483, x_485] s_486) fun x_481 s_482 => .ok ((En.e x_481)) s_482) fun x_479 s_480 => (d_sameM (x_479) ((En.e ([due_350, due_350] : List (F))))).up s_480) fun x_477 s_478 => .ok ((!x_477)) s_478) fun b_475 s_476 => if b_475 = true then (.ok (.rt false) s_476) else
    (.ok (.nx ()) s_476))) l_489 () s_490) (flB (fun v_360 s_361 =>
    (O.bind (O.bind (O.bind (O.bind (O.bind (O.bind ((d_Tree__init (other_203)).up s_361) fun x_501 s_502 => (d_alike (one_326) (x_501)).up s_502) fun x_499 s_500 => O.bind (O.bind ((d_Tree__init (other_203)).up s_500) fun x_505 s_506 => (d_alike (x_505) (one_326)).up s_506) fun x_503 s_504 => O.bind ((d_alike (one_326) (one_326)).up s_504) fun x_507 s_508 => lstO [x_499, x_503, x_507] s_508) fun x_497 s_498 => .ok ((En.e x_497)) s_498) fun x_495 s_496 => O.bind (O.bind (ofO (mulL ([true] : List (Bool)) (3 : Int)) s_496) fun x_511 s_512 => .ok ((En.e x_511)) s_512) fun x_509 s_510 => (d_sameM (x_495) (x_509)).up s_510) fun x_493 s_494 => .ok ((!x_493)) s_494) fun b_491 s_492 => if b_491 = true then (.ok (.rt false) s_492) else
    (O.bind (O.bind (O.bind (O.bind (O.bind ((d_Tree__init (bent_274)).up s_492) fun x_521 s_522 => (d_alike (one_326) (x_521)).up s_522) fun x_519 s_520 => .ok ((En.e x_519)) s_520) fun x_517 s_518 => O.bind (O.bind (O.bind ((d_law_form 16 (bent_274) ((0 : Int))).up s_518) fun x_527 s_528 => ofO ((eqA (En.e x_527) (En.e due_350))) s_528) fun x_525 s_526 => .ok ((En.e x_525)) s_526) fun x_523 s_524 => (d_sameM (x_517) (x_523)).up s_524) fun x_515 s_516 => .ok ((!x_515)) s_516) fun b_513 s_514 => if b_513 = true then (.ok (.rt false) s_514) else
    (O.bind (O.bind (O.bind (O.bind ((d_Tree__init (other_203)).up s_514) fun x_535 s_536 => (d_Tree__eq (one_326) (x_535)).up s_536) fun x_533 s_534 => O.bind (ofO ((eqO v_156 other_203)) s_534) fun x_537 s_538 => .ok ((!decide (x_533 = x_537))) s_538) fun b_531 s_532 => if b_531 = true then .ok true s_532 else (O.bind (O.bind ((d_Tree__init (bent_274)).up s_532) fun x_541 s_542 => (d_Tree__eq (one_326) (x_541)).up s_542) fun x_539 s_540 => O.bind (ofO ((eqO v_156 bent_274)) s_540) fun x_543 s_544 => .ok ((!decide (x_539 = x_543))) s_544)) fun b_529 s_530 => if b_529 = true then (.ok (.rt false) s_530) else
    (.ok (.nx ()) s_530))))) Fl.rt))))))))) l_545 () s_546) (flB (fun v_371 s_372 =>
    (let chain_373 := (En.e (Tu.mk ([] : List (Int)))); (O.bind (rg3 (60 : Int) (0 : Int) s_372) fun l_547 s_548 => O.bind (foldO (fun i_376 (v_375 : (F)) s_377 => (let chain_380 := (En.e (Tu.mk [(i_376, v_375)])); (.ok chain_380 s_377))) l_547 chain_373 s_548) fun v_382 s_383 =>
    (O.bind (O.bind (O.bind (O.bind (O.bind (rg2 (1 : Int) (61 : Int) s_383) fun l_557 s_558 => O.bind (smL l_557 s_558) fun l_555 s_556 => .ok (l_555.map fun x_384 => (x_384, (x_384 - (1 : Int)))) s_556) fun x_553 s_554 => (d_Tree__init (x_553)).up s_554) fun x_551 s_552 => (d_Tree_form (x_551)).up s_552) fun x_549 s_550 => O.bind (O.bind (O.bind (O.bind (rg1 (300 : Int) s_550) fun l_567 s_568 => O.bind (smL l_567 s_568) fun l_565 s_566 => .ok (l_565.map fun x_386 => (((301 : Int) - x_386), (0 : Int))) s_566) fun x_563 s_564 => (d_Tree__init (x_563)).up s_564) fun x_561 s_562 => (d_Tree_form (x_561)).up s_562) fun x_559 s_560 => lstO [x_549, x_559] s_560) fun found_388 s_389 =>
    (O.bind (O.bind (O.bind (O.bind (O.bind (O.bind (O.bind (O.bind (rg2 (2 : Int) (302 : Int) s_389) fun l_585 s_586 => O.bind (smL l_585 s_586) fun l_583 s_584 => .ok (l_583.map fun x_390 => (x_390, (Tu.mk ([] : List (Int))))) s_584) fun x_581 s_582 => .ok ((Tu.mk x_581)) s_582) fun x_579 s_580 => .ok ((En.e x_579)) s_580) fun x_577 s_578 => lstO [v_382, x_577] s_578) fun x_575 s_576 => .ok ((En.e x_575)) s_576) fun x_573 s_574 => (d_sameM ((En.e found_388)) (x_573)).up s_574) fun x_571 s_572 => .ok ((!x_571)) s_572) fun b_569 s_570 => if b_569 = true then (.ok false s_570) else
    (O.bind (O.bind (O.bind ((d_Tree__init_a_d1 ).up s_570) fun x_591 s_592 => (d_Tree_form (x_591)).up s_592) fun x_589 s_590 => (d_sameM (x_589) ((En.e (Tu.mk ([] : List (Int)))))).up s_590) fun b_587 s_588 => if b_587 = true then (O.bind ((d_Tree__init_a_d1 ).up s_588) fun x_593 s_594 => O.bind ((d_Tree__init_a_d1 ).up s_594) fun x_595 s_596 => (d_alike (x_593) (x_595)).up s_596) else .ok false s_588)))))) (fun a => a)))
end LB

set_option Elab.async false
set_option linter.all false
set_option maxRecDepth 100000
set_option maxHeartbeats 4000000
set_option autoImplicit false
namespace LB
open VS TL
open L2 (atI ixN)
theorem r_law_same : FnP (A := F × F × Unit) (R := Bool) (m__law_same 130) (fun a => d_sameM a.1 a.2.1) := r_sameM (m := m__law_same) rfl (fun _ => rfl)
theorem r_law_draw : FnG (A := (Rs) × (Int) × (Unit)) (R := Int) wS m__law_draw (fun a s => d_law_draw a.2.1 s) := by
  refine fn_ok (fun _ => rfl) (by decide) fun B a s => ?_
  obtain ⟨_, many_10, _⟩ := a
  have h : J B 5 (Kfn (R := Int) B) [(0, .loc 1), (1, w_ many_10)] [] t__law_draw s _ := (j_sp (j := 0) (up := fun s a => { s with cnt := a }) rfl (e_op2 o_addI (E.el (e_sp2 rfl)) (fun _ => (E.el e_int))) (fun _ _ _ => rfl) (fun _ => (j_ifJ (S := Unit) (oG := fun v => [(0, .loc 1), (1, w_ many_10)]) (oC := fun v => []) (t_and (t_val (e_op2 o_eqI (E.el (e_sp1 rfl)) (fun _ => (E.el e_int)))) (fun _ => (t_sp0 rfl))) (fun _ => (j_spPop (by decide) rfl (fun cell_14 _ => (j_sp (j := 0) (up := fun s a => { s with mix := a }) rfl (e_op2 o_modI (E.el (e_cb1 o_intI (E.el (e_op2 o_addI (E.el (e_op2 o_addI (E.el (e_op2 o_mulI (E.el (e_sp3 rfl)) (fun _ => (E.el e_int)))) (fun _ => (E.el (e_var (α := Int) rfl))))) (fun _ => (E.el e_int)))))) (fun _ => (E.el e_int))) (fun _ _ _ => rfl) (fun _ => (j_last (j_sp (j := 0) (up := fun s a => { s with big := a }) rfl (e_if (t_val (e_op2 o_ge (E.el (e_var (α := Int) rfl)) (fun _ => (E.el (e_op2 o_powI (E.el e_int) (fun _ => (E.el e_int))))))) (fun _ => (e_var (α := Int) rfl)) (fun _ => e_int)) (fun _ _ _ => rfl) (fun _ => (j_end (end_j (v := ()) (sub_cons rfl (sub_cons rfl sub_nil)) .slnil)))))))))) (fun _ => (j_end (end_j (v := ()) (sub_cons rfl (sub_cons rfl sub_nil)) .slnil))) (fun v_23 s_24 => (j_if (t_val (e_op2 o_gt (E.el (e_sp1 rfl)) (fun _ => (E.el e_int)))) (fun _ => (j_term (j_set (α := Int) (by decide) (e_op2 o_modI (E.el (e_cb1 o_intI (E.el (e_sp1 rfl)))) (fun _ => (E.el (e_var (α := Int) rfl)))) (fun digit_27 s_28 => (j_sp (j := 0) (up := fun s a => { s with big := a }) rfl (e_op2 o_divI (E.el (e_sp1 rfl)) (fun _ => (E.el (e_var (α := Int) rfl)))) (fun _ _ _ => rfl) (fun _ => (j_last (j_retI (ret_t ret_fn) (e_var (α := Int) rfl))))))))) (fun _ => (j_nil (j_set (α := Int) (by decide) (e_op2 o_modI (E.el (e_cb1 o_intI (E.el (e_op2 o_powI (E.el (e_op2 o_addI (E.el (e_op2 o_addI (E.el (e_sp3 rfl)) (fun _ => (E.el (e_op2 o_mulI (E.el e_int) (fun _ => (E.el (e_sp2 rfl)))))))) (fun _ => (E.el e_int)))) (fun _ => (E.el e_int)))))) (fun _ => (E.el e_int))) (fun mixed_32 s_33 => (j_last (j_retI ret_fn (e_op2 o_modI (E.el (e_op2 o_modI (E.el (e_cb1 o_intI (E.el (e_op2 o_powI (E.el (e_op2 o_addI (E.el (e_op2 o_addI (E.el (e_op2 o_mulI (E.el (e_var (α := Int) rfl)) (fun _ => (E.el e_int)))) (fun _ => (E.el (e_op2 o_mulI (E.el e_int) (fun _ => (E.el (e_sp2 rfl)))))))) (fun _ => (E.el e_int)))) (fun _ => (E.el e_int)))))) (fun _ => (E.el e_int)))) (fun _ => (E.el (e_var (α := Int) rfl)))))))))))))))
  exact h
theorem r_law_pick_sli : FnG (A := (Rs) × (List (Int)) × (Unit)) (R := Int) wS m__law_pick (fun a s => d_law_pick_sli a.2.1 s) := by
  refine fn_ok (fun _ => rfl) (by decide) fun B a s => ?_
  obtain ⟨_, some_101, _⟩ := a
  have h : J B 2 (Kfn (R := Int) B) [(0, .loc 1), (1, w_ some_101)] [] t__law_pick s _ := (j_last (j_retI ret_fn (e_ixL (e_var (α := List (Int)) rfl) (fun _ => (e_callS r_law_draw (a_sp rfl (a_cons (e_cb1 o_lenL (E.el (e_var (α := List (Int)) rfl))) (fun _ => a_nil))))))))
  exact h
theorem r_law_t_slot : FnP (A := (List ((Int) × (Int))) × (Int) × (Unit)) (R := Int) m__law_t_slot (fun a => d_law_t_slot a.1 a.2.1) := by
  refine fn_okP (fun _ => rfl) (by decide) fun B a s => ?_
  obtain ⟨blocks_106, block_107, _⟩ := a
  have h : J B 2 (Kfn (R := Int) B) [(0, w_ blocks_106), (1, w_ block_107)] [] t__law_t_slot s _ := (j_last (j_retI ret_fn (e_if (t_val (e_op2 o_gt (E.el (e_var (α := Int) rfl)) (fun _ => (E.el e_int)))) (fun _ => (e_ixT (i := 0) (f := fun (a : (Int) × (Int)) => a.1) (fun _ _ => rfl) (e_ixL (e_var (α := List ((Int) × (Int))) rfl) (fun _ => (e_op2 o_subI (E.el (e_var (α := Int) rfl)) (fun _ => (E.el e_int))))) (fun _ => e_int))) (fun _ => e_int))))
  exact h
theorem r_law_t_drawn : FnG (A := (Rs) × (Int) × (Unit)) (R := List ((Int) × (Int))) wS m__law_t_drawn (fun a s => d_law_t_drawn a.2.1 s) := by
  refine fn_ok (fun _ => rfl) (by decide) fun B a s => ?_
  obtain ⟨_, most_6, _⟩ := a
  have h : J B 5 (Kfn (R := List ((Int) × (Int))) B) [(0, .loc 1), (1, w_ most_6)] [] t__law_t_drawn s _ := (j_setC (α := (Int) × (Int)) (by decide) (c_lst al_nil) (fun k_7 blocks_8 s_9 => (j_for (β := Int) (S := (List ((Int) × (Int)))) (oG := fun v => [(0, .loc 1), (2, .loc (B.b + k_7))]) (oC := fun v => [(k_7, cl_ v)]) (v0 := blocks_8) (i_rg1 (e_callS r_law_draw (a_sp rfl (a_cons (e_op2 o_addI (E.el (e_var (α := Int) rfl)) (fun _ => (E.el e_int))) (fun _ => a_nil))))) (tg_nm (α := Int) (by decide)) (fun i_97 v_96 s_98 => (j_set (α := Int) (by decide) (e_callS r_law_pick_sli (a_sp rfl (a_cons (e_lst (al_cons (e_callS r_law_draw (a_sp rfl (a_cons (e_op2 o_addI (E.el (e_cb1 o_lenL (el_cell rfl (.head _)))) (fun _ => (E.el e_int))) (fun _ => a_nil)))) (fun _ => (al_cons (e_cb1 o_lenL (el_cell rfl (.head _))) (fun _ => al_nil))))) (fun _ => a_nil)))) (fun parent_104 s_105 => (j_last (j_app (p := 0) rfl (e_tup2 (a_cons (e_op2 o_addI (E.el (e_op2 o_addI (E.el (e_callB r_law_t_slot (ab_cons (el_cell rfl (.head _)) (fun _ => (ab_cons (E.el (e_var (α := Int) rfl)) (fun _ => ab_nil)))))) (fun _ => (E.el e_int)))) (fun _ => (E.el (e_callS r_law_pick_sli (a_sp rfl (a_cons (e_lst (al_cons e_int (fun _ => (al_cons e_int (fun _ => (al_cons e_int (fun _ => (al_cons e_int (fun _ => (al_cons (e_op2 o_powI (E.el e_int) (fun _ => (E.el e_int))) (fun _ => al_nil))))))))))) (fun _ => a_nil))))))) (fun _ => (a_cons (e_var (α := Int) rfl) (fun _ => a_nil))))) (.head _) rfl (fun blocks_109 s_110 => (j_end (end_s (v := blocks_109) (sub_cons rfl (sub_cons rfl sub_nil)) (.cons₂ _ .slnil))))))))) (sub_cons rfl (sub_cons rfl sub_nil)) (.cons₂ _ .slnil) (fun v_111 s_112 => (j_last (j_retI ret_fn (e_frz (p := 0) rfl rfl)))))))
  exact h
theorem r_law_t_depths : FnP (A := (List ((Int) × (Int))) × (Unit)) (R := List (Int)) m__law_t_depths (fun a => d_law_t_depths a.1) := by
  refine fn_okP (fun _ => rfl) (by decide) fun B a s => ?_
  obtain ⟨blocks_139, _⟩ := a
  have h : J B 4 (Kfn (R := List (Int)) B) [(0, w_ blocks_139)] [] t__law_t_depths s _ := (j_setC (α := Int) (by decide) (c_lst (al_cons e_int (fun _ => al_nil))) (fun k_140 found_141 s_142 => (j_for (β := (Int) × (Int)) (S := (List (Int))) (oG := fun v => [(1, .loc (B.b + k_140))]) (oC := fun v => [(k_140, cl_ v)]) (v0 := found_141) (i_any it_lst (e_var (α := List ((Int) × (Int))) rfl)) (tg_2 (tg_nm (α := Int) (by decide)) (tg_nm (α := Int) (by decide))) (fun i_144 v_143 s_145 => (j_last (j_app (p := 0) rfl (e_op2 o_addI (E.el (e_ixC rfl (.head _) (e_var (α := Int) rfl))) (fun _ => (E.el e_int))) (.head _) rfl (fun found_148 s_149 => (j_end (end_s (v := found_148) (sub_cons rfl sub_nil) (.cons₂ _ .slnil))))))) (sub_cons rfl sub_nil) (.cons₂ _ .slnil) (fun v_150 s_151 => (j_last (j_retI ret_fn (e_frz (p := 0) rfl rfl)))))))
  exact h
theorem r_law_renumbered : FnG (A := (Rs) × (List ((Int) × (Int))) × (Unit)) (R := List ((Int) × (Int))) wS m__law_renumbered (fun a s => d_law_renumbered a.2.1 s) := by
  refine fn_ok (fun _ => rfl) (by decide) fun B a s => ?_
  obtain ⟨_, blocks_159, _⟩ := a
  have h : J B 7 (Kfn (R := List ((Int) × (Int))) B) [(0, .loc 1), (1, w_ blocks_159)] [] t__law_renumbered s _ := (j_aU (ja_d (c_disp (κ := Int) (ν := Int) (p_cons (fun _ _ => e_int) (fun _ _ => e_int) p_nil)) (fun k_160 places_161 s_162 => (ja_c (α := (Int) × (Int)) (c_lst al_nil) (fun k_163 found_164 s_165 => (ja_c (α := Int) (c_lrg2 e_int (fun _ => (e_op2 o_addI (E.el (e_cb1 o_lenL (E.el (e_var (α := List ((Int) × (Int))) rfl)))) (fun _ => (E.el e_int))))) (fun k_166 left_167 s_168 => (ja_end (is := [2, 3, 4]) (by decide) (fun _ _ => rfl) (j_wh (S := (List (Int)) × (List ((Int) × (Int))) × (List ((Int) × (Int)))) (oG := fun v => [(0, .loc 1), (1, w_ blocks_159), (2, .loc (B.b + k_160)), (3, .loc (B.b + k_163)), (4, .loc (B.b + k_166))]) (oC := fun v => [(k_166, cl_ v.1), (k_163, cl_ v.2.1), (k_160, cd_ v.2.2)])  (v0 := (left_167, (found_164, places_161.l)))  (fun v_169 s_170 => (t_val (e_op2 (ne_of (o_eq (α := List (Int)) (by decide))) (el_cell rfl (.head _)) (fun _ => (E.el (e_lst (α := Int) al_nil)))))) (fun v_169 s_170 => (j_set (α := List (Int)) (by decide) (c_frz (c_borL (th_cell (i := 4) rfl (.head _) (th_dct (i := 2) rfl (.tail _ (.tail _ (.head _))) (th_val (i := 1) rfl th_nil))) (c_lc (α := Int) (β := Int) (c := fun x_171 _ => (O.bind (O.bind (ofO (atI blocks_159 (x_171 - (1 : Int))) _) fun x_201 s_202 => .ok (x_201.2) s_202) fun x_199 s_200 => .ok ((lookD (Dc.mk v_169.2.2).l x_199).isSome) s_200)) (v := fun x_171 _ => (.ok x_171 _)) (i_any it_lst (e_var (α := List (Int)) rfl)) (tg_nm (α := Int) (by decide)) (fun _ => rfl) (fun x_171 _ _ _ => (t_val (e_inDd (e_ixT (i := 1) (f := fun (a : (Int) × (Int)) => a.2) (fun _ _ => rfl) (e_ixL (e_var (α := List ((Int) × (Int))) rfl) (fun _ => (e_op2 o_subI (E.el (e_var (α := Int) rfl)) (fun _ => (E.el e_int))))) (fun _ => e_int)) (fun _ => (e_var (α := Dc (Int) (Int)) rfl))))) (fun x_171 _ _ _ => (e_var (α := Int) rfl))))) (fun ready_172 s_173 => (j_set (α := Int) (by decide) (e_callS r_law_pick_sli (a_sp rfl (a_cons (e_var (α := List (Int)) rfl) (fun _ => a_nil)))) (fun block_174 s_175 => (j_remI (p := 0) rfl (e_var (α := Int) rfl) (.head _) rfl (fun left_176 s_177 => (j_app (p := 1) rfl (e_tup2 (a_cons (e_ixT (i := 0) (f := fun (a : (Int) × (Int)) => a.1) (fun _ _ => rfl) (e_ixL (e_var (α := List ((Int) × (Int))) rfl) (fun _ => (e_op2 o_subI (E.el (e_var (α := Int) rfl)) (fun _ => (E.el e_int))))) (fun _ => e_int)) (fun _ => (a_cons (e_op2 o_dget (el_cellD (κ := Int) (ν := Int) rfl (.tail _ (.tail _ (.head _)))) (fun _ => (E.el (e_ixT (i := 1) (f := fun (a : (Int) × (Int)) => a.2) (fun _ _ => rfl) (e_ixL (e_var (α := List ((Int) × (Int))) rfl) (fun _ => (e_op2 o_subI (E.el (e_var (α := Int) rfl)) (fun _ => (E.el e_int))))) (fun _ => e_int))))) (fun _ => a_nil))))) (.tail _ (.head _)) rfl (fun found_178 s_179 => (j_last (j_dput (p := 2) rfl (e_cb1 o_lenL (el_cell rfl (.tail _ (.head _)))) (fun _ => (e_var (α := Int) rfl)) rfl (fun places_180 s_181 => (j_end (end_s (v := (left_176, (found_178, places_180))) (sub_cons rfl (sub_cons rfl (sub_cons rfl (sub_cons rfl (sub_cons rfl sub_nil))))) (.cons₂ _ (.cons₂ _ (.cons₂ _ .slnil))))))))))))))))) (sub_cons rfl (sub_cons rfl (sub_cons rfl (sub_cons rfl (sub_cons rfl sub_nil))))) (.cons₂ _ (.cons₂ _ (.cons₂ _ .slnil))) (fun v_182 s_183 => (j_last (j_retI ret_fn (e_frz (p := 1) rfl rfl)))))))))))))
  exact h
theorem r_law_changed : FnG (A := (Rs) × (List ((Int) × (Int))) × (Unit)) (R := List ((Int) × (Int))) wS m__law_changed (fun a s => d_law_changed a.2.1 s) := by
  refine fn_ok (fun _ => rfl) (by decide) fun B a s => ?_
  obtain ⟨_, blocks_205, _⟩ := a
  have h : J B 12 (Kfn (R := List ((Int) × (Int))) B) [(0, .loc 1), (1, w_ blocks_205)] [] t__law_changed s _ := (j_aU (ja_v (α := Int) (e_callS r_law_draw (a_sp rfl (a_cons e_int (fun _ => a_nil)))) (fun way_206 s_207 => (ja_v (α := Int) (e_callS r_law_draw (a_sp rfl (a_cons (e_op2 o_addI (E.el (e_cb1 o_lenL (E.el (e_var (α := List ((Int) × (Int))) rfl)))) (fun _ => (E.el e_int))) (fun _ => a_nil)))) (fun at_208 s_209 => (ja_end (is := [2, 3]) (by decide) (fun _ _ => rfl) (j_set (α := Int) (by decide) (e_call r_law_t_slot (a_cons (e_var (α := List ((Int) × (Int))) rfl) (fun _ => (a_cons (e_var (α := Int) rfl) (fun _ => a_nil))))) (fun slot_210 s_211 => (j_if (t_or (t_val (e_op2 o_eqI (E.el (e_var (α := Int) rfl)) (fun _ => (E.el e_int)))) (fun _ => (t_val (e_op2 (o_eq (α := List ((Int) × (Int))) (by decide)) (E.el (e_var (α := List ((Int) × (Int))) rfl)) (fun _ => (E.el (e_lst (α := (Int) × (Int)) al_nil))))))) (fun _ => (j_term (j_last (j_retI (ret_t ret_fn) (e_op2 o_addL (E.el (e_var (α := List ((Int) × (Int))) rfl)) (fun _ => (E.el (e_lst (al_cons (e_tup2 (a_cons (e_op2 o_addI (E.el (e_op2 o_addI (E.el (e_var (α := Int) rfl)) (fun _ => (E.el e_int)))) (fun _ => (E.el (e_callS r_law_draw (a_sp rfl (a_cons e_int (fun _ => a_nil))))))) (fun _ => (a_cons (e_var (α := Int) rfl) (fun _ => a_nil))))) (fun _ => al_nil)))))))))) (fun _ => (j_nil (j_set (α := Int) (by decide) (e_cb2 o_max2 (e_var (α := Int) rfl) (fun _ => e_int)) (fun at_213 s_214 => (j_asg (α := (Int) × (Int)) (tg_2 (tg_nm (α := Int) (by decide)) (tg_nm (α := Int) (by decide))) (e_ixL (e_var (α := List ((Int) × (Int))) rfl) (fun _ => (e_op2 o_subI (E.el (e_var (α := Int) rfl)) (fun _ => (E.el e_int))))) (fun p_215 s_216 => (j_set (α := Int) (by decide) (e_call r_law_t_slot (a_cons (e_var (α := List ((Int) × (Int))) rfl) (fun _ => (a_cons (e_var (α := Int) rfl) (fun _ => a_nil))))) (fun beneath_217 s_218 => (j_set (α := List (Int)) (by decide) (e_op2 o_addL (E.el (c_frz (c_lcT (α := Int) (β := (Int) × (Int)) (c := fun x_219 => (decide (x_219.2 = at_213))) (v := fun x_219 => x_219.1) (i_any it_lst (e_var (α := List ((Int) × (Int))) rfl)) (tg_2 (tg_nm (α := Int) (by decide)) (tg_nm (α := Int) (by decide))) (fun _ => rfl) (fun x_219 _ _ _ => (t_val (e_op2 o_eqI (E.el (e_var (α := Int) rfl)) (fun _ => (E.el (e_var (α := Int) rfl)))))) (fun x_219 _ _ _ => (e_var (α := Int) rfl))))) (fun _ => (E.el (e_lst (al_cons (e_op2 o_addI (E.el (e_var (α := Int) rfl)) (fun _ => (E.el e_int))) (fun _ => al_nil)))))) (fun behind_221 s_222 => (j_if (t_val (e_op2 o_eqI (E.el (e_var (α := Int) rfl)) (fun _ => (E.el e_int)))) (fun _ => (j_term (j_last (j_retI (ret_t ret_fn) (e_op2 o_addL (E.el (e_op2 o_addL (E.el (e_sl (α := List ((Int) × (Int))) (sl_lst (α := (Int) × (Int))) (E.el (e_var (α := List ((Int) × (Int))) rfl)) (fun _ => o_no) (fun _ => (o_so (e_op2 o_subI (E.el (e_var (α := Int) rfl)) (fun _ => (E.el e_int))))))) (fun _ => (E.el (e_lst (al_cons (e_tup2 (a_cons (e_op2 o_addI (E.el (e_op2 o_addI (E.el (e_var (α := Int) rfl)) (fun _ => (E.el e_int)))) (fun _ => (E.el (e_callS r_law_draw (a_sp rfl (a_cons (e_op2 o_subI (E.el (e_op2 o_subI (E.el (e_cb1 o_minL (E.el (e_var (α := List (Int)) rfl)))) (fun _ => (E.el (e_var (α := Int) rfl))))) (fun _ => (E.el e_int))) (fun _ => a_nil))))))) (fun _ => (a_cons (e_var (α := Int) rfl) (fun _ => a_nil))))) (fun _ => al_nil))))))) (fun _ => (E.el (e_sl (α := List ((Int) × (Int))) (sl_lst (α := (Int) × (Int))) (E.el (e_var (α := List ((Int) × (Int))) rfl)) (fun _ => (o_so (e_var (α := Int) rfl))) (fun _ => o_no))))))))) (fun _ => (j_nil (j_set (α := List (Int)) (by decide) (c_frz (c_lc (α := Int) (β := Int) (c := fun x_224 s_225 => (O.bind ((d_law_t_slot (blocks_205) (x_224)).up s_225) fun x_272 s_273 => .ok ((decide (x_272 < p_215.1))) s_273)) (v := fun x_224 s_225 => (.ok x_224 s_225)) (i_rg1 (e_var (α := Int) rfl)) (tg_nm (α := Int) (by decide)) (fun _ => rfl) (fun x_224 _ _ _ => (t_val (e_op2 o_lt (E.el (e_call r_law_t_slot (a_cons (e_var (α := List ((Int) × (Int))) rfl) (fun _ => (a_cons (e_var (α := Int) rfl) (fun _ => a_nil)))))) (fun _ => (E.el (e_var (α := Int) rfl)))))) (fun x_224 _ _ _ => (e_var (α := Int) rfl)))) (fun lower_226 s_227 => (j_last (j_retI ret_fn (e_op2 o_addL (E.el (e_op2 o_addL (E.el (e_sl (α := List ((Int) × (Int))) (sl_lst (α := (Int) × (Int))) (E.el (e_var (α := List ((Int) × (Int))) rfl)) (fun _ => o_no) (fun _ => (o_so (e_op2 o_subI (E.el (e_var (α := Int) rfl)) (fun _ => (E.el e_int))))))) (fun _ => (E.el (e_lst (al_cons (e_tup2 (a_cons (e_var (α := Int) rfl) (fun _ => (a_cons (e_callS r_law_pick_sli (a_sp rfl (a_cons (e_var (α := List (Int)) rfl) (fun _ => a_nil)))) (fun _ => a_nil))))) (fun _ => al_nil))))))) (fun _ => (E.el (e_sl (α := List ((Int) × (Int))) (sl_lst (α := (Int) × (Int))) (E.el (e_var (α := List ((Int) × (Int))) rfl)) (fun _ => (o_so (e_var (α := Int) rfl))) (fun _ => o_no)))))))))))))))))))))))))))))))
  exact h
theorem r_is_list_ltii : FnP (A := (List ((Int) × (Int))) × (Unit)) (R := Bool) m_is_list (fun a => d_is_list_ltii a.1) := by
  refine fn_okP (fun _ => rfl) (by decide) fun B a s => ?_
  obtain ⟨thing_277, _⟩ := a
  have h : J B 1 (Kfn (R := Bool) B) [(0, w_ thing_277)] [] t_is_list s _ := (j_last (j_retI ret_fn (e_isi (b := true) (fun _ => rfl) (e_var (α := List ((Int) × (Int))) rfl))))
  exact h
theorem r_is_list_tii : FnP (A := ((Int) × (Int)) × (Unit)) (R := Bool) m_is_list (fun a => d_is_list_tii a.1) := by
  refine fn_okP (fun _ => rfl) (by decide) fun B a s => ?_
  obtain ⟨thing_296, _⟩ := a
  have h : J B 1 (Kfn (R := Bool) B) [(0, w_ thing_296)] [] t_is_list s _ := (j_last (j_retI ret_fn (e_isi (b := true) (fun _ => rfl) (e_var (α := (Int) × (Int)) rfl))))
  exact h
theorem r_is_integer_i : FnP (A := (Int) × (Unit)) (R := Bool) m_is_integer (fun a => d_is_integer_i a.1) := by
  refine fn_okP (fun _ => rfl) (by decide) fun B a s => ?_
  obtain ⟨thing_300, _⟩ := a
  have h : J B 1 (Kfn (R := Bool) B) [(0, w_ thing_300)] [] t_is_integer s _ := (j_last (j_retI ret_fn (e_and (e_isi (b := true) (fun _ => rfl) (e_var (α := Int) rfl)) (fun _ => (e_not (e_isi (b := false) (fun _ => rfl) (e_var (α := Int) rfl)))))))
  exact h
theorem r_Tree__contains : FnP (A := (Tree) × (Int) × (Unit)) (R := Bool) m_Tree___contains__ (fun a => d_Tree__contains a.1 a.2.1) := by
  refine fn_okP (fun _ => rfl) (by decide) fun B a s => ?_
  obtain ⟨self_301, thing_302, _⟩ := a
  have h : J B 2 (Kfn (R := Bool) B) [(0, w_ self_301), (1, w_ thing_302)] [] t_Tree___contains__ s _ := (j_last (j_retI ret_fn (e_and (e_callU r_is_integer_i (a_cons (e_var (α := Int) rfl) (fun _ => a_nil))) (fun _ => (e_chainT o_le o_lt e_int (fun _ => (e_var (α := Int) rfl)) (fun _ => (e_cb1 o_lenL (E.el (e_attr (f := Tree.slots) (fun _ _ => rfl) (e_var (α := Tree) rfl))))))))))
  exact h
theorem r_Tree_can_stand : FnP (A := (Tree) × (Int) × (Int) × (Unit)) (R := Bool) m_Tree_can_stand (fun a => d_Tree_can_stand a.1 a.2.1 a.2.2.1) := by
  refine fn_okP (fun _ => rfl) (by decide) fun B a s => ?_
  obtain ⟨self_297, slot_298, parent_299, _⟩ := a
  have h : J B 3 (Kfn (R := Bool) B) [(0, w_ self_297), (1, w_ slot_298), (2, w_ parent_299)] [] t_Tree_can_stand s _ := (j_last (j_retI ret_fn (e_and (e_callU r_is_integer_i (a_cons (e_var (α := Int) rfl) (fun _ => a_nil))) (fun _ => (e_and (e_inOU (neg := false) (fun _ _ => rfl) r_Tree__contains (e_var (α := Int) rfl) (fun _ => (e_var (α := Tree) rfl))) (fun _ => (e_op2 o_lt (E.el (e_ixL (e_attr (f := Tree.slots) (fun _ _ => rfl) (e_var (α := Tree) rfl)) (fun _ => (e_var (α := Int) rfl)))) (fun _ => (E.el (e_var (α := Int) rfl))))))))))
  exact h
theorem r_Tree__init : FnP (A := (List ((Int) × (Int))) × (Unit)) (R := Tree) (mkF 0 m_Tree___init__) (fun a => d_Tree__init a.1) := by
  refine mk_ok2 (fun _ => rfl) (by decide) fun B a s => ?_
  obtain ⟨blocks_276, _⟩ := a
  have h : J B 4 (Ki2 (R := Tree) 0 B) [(0, .loc (B.b + 0)), (1, w_ blocks_276)] [(0, .ins 0 [])] t_Tree___init__ s _ := (j_if (t_not (t_val (e_callU r_is_list_ltii (a_cons (e_var (α := List ((Int) × (Int))) rfl) (fun _ => a_nil))))) (fun _ => (j_term (j_last j_never))) (fun _ => (j_nil (j_aU (ja_c (α := (Int) × (Int)) (c_lst al_nil) (fun k_279 pairs_280 s_281 => (ja_c (α := Int) (c_lst (al_cons e_int (fun _ => al_nil))) (fun k_282 slots_283 s_284 => (ja_c (α := Option (Int)) (c_lst (al_cons (e_co (f := fun _ => (none : Option (Int))) co_none e_non) (fun _ => al_nil))) (fun k_285 parents_286 s_287 => (ja_c (α := Int) (c_lst (al_cons e_int (fun _ => al_nil))) (fun k_288 depths_289 s_290 => (ja_endA (p := 4) (is := [0, 1, 2, 3]) rfl (by decide +kernel) rfl rfl (by first | decide | simp) (acc_app (acc_app (acc_app (acc_app acc_nil (acc_c (.tail _ (.tail _ (.tail _ (.head _)))))) (acc_c (.tail _ (.tail _ (.head _))))) (acc_c (.tail _ (.head _)))) (acc_c (.head _))) (j_last (j_for (β := (Int) × ((Int) × (Int))) (S := (List ((Int) × (Int))) × (List (Int)) × (List (Option (Int))) × (List (Int))) (oG := fun v => [(0, .loc (B.b + 0))]) (oC := fun v => [(k_288, cl_ v.2.2.2), (k_285, cl_ v.2.2.1), (k_282, cl_ v.2.1), (k_279, cl_ v.1), (0, .ins 0 [(0, W.loc (B.b + k_279)), (1, W.loc (B.b + k_282)), (2, W.loc (B.b + k_285)), (3, W.loc (B.b + k_288))])]) (v0 := (pairs_280, (slots_283, (parents_286, depths_289)))) (i_enum d_lst (e_var (α := List ((Int) × (Int))) rfl)) (tg_2 (tg_nm (α := Int) (by decide)) (tg_nm (α := (Int) × (Int)) (by decide))) (fun i_292 v_291 s_293 => (j_if (t_or (t_not (t_val (e_callU r_is_list_tii (a_cons (e_var (α := (Int) × (Int)) rfl) (fun _ => a_nil))))) (fun _ => (t_or (t_val (e_op2 (ne_of o_eqI) (E.el (e_cb1 o_lenP (E.el (e_var (α := (Int) × (Int)) rfl)))) (fun _ => (E.el e_int)))) (fun _ => (t_not (t_val (e_methBU (x := (Tree.mk (v_291.1) (v_291.2.1) (v_291.2.2.1) (v_291.2.2.2))) rfl (.tail _ (.tail _ (.tail _ (.tail _ (.head _))))) (.cell (.tail _ (.tail _ (.tail _ (.head _)))) (.cell (.tail _ (.tail _ (.head _))) (.cell (.tail _ (.head _)) (.cell (.head _) .nil)))) rfl r_Tree_can_stand (ab_cons (E.el (e_ixT (i := 0) (f := fun (a : (Int) × (Int)) => a.1) (fun _ _ => rfl) (e_var (α := (Int) × (Int)) rfl) (fun _ => e_int))) (fun _ => (ab_cons (E.el (e_ixT (i := 1) (f := fun (a : (Int) × (Int)) => a.2) (fun _ _ => rfl) (e_var (α := (Int) × (Int)) rfl) (fun _ => e_int))) (fun _ => ab_nil))))))))))) (fun _ => (j_term (j_last j_never))) (fun _ => (j_nil (j_appA (p := 3) rfl (.tail _ (.tail _ (.tail _ (.tail _ (.head _))))) rfl (e_tup2 (a_cons (e_ixT (i := 0) (f := fun (a : (Int) × (Int)) => a.1) (fun _ _ => rfl) (e_var (α := (Int) × (Int)) rfl) (fun _ => e_int)) (fun _ => (a_cons (e_ixT (i := 1) (f := fun (a : (Int) × (Int)) => a.2) (fun _ _ => rfl) (e_var (α := (Int) × (Int)) rfl) (fun _ => e_int)) (fun _ => a_nil))))) (.tail _ (.tail _ (.tail _ (.head _)))) rfl (fun selfpairs_308 s_309 => (j_appA (p := 2) rfl (.tail _ (.tail _ (.tail _ (.tail _ (.head _))))) rfl (e_ixT (i := 0) (f := fun (a : (Int) × (Int)) => a.1) (fun _ _ => rfl) (e_var (α := (Int) × (Int)) rfl) (fun _ => e_int)) (.tail _ (.tail _ (.head _))) rfl (fun selfslots_310 s_311 => (j_appA (p := 1) rfl (.tail _ (.tail _ (.tail _ (.tail _ (.head _))))) rfl (e_co (f := some) co_some (e_ixT (i := 1) (f := fun (a : (Int) × (Int)) => a.2) (fun _ _ => rfl) (e_var (α := (Int) × (Int)) rfl) (fun _ => e_int))) (.tail _ (.head _)) rfl (fun selfparents_312 s_313 => (j_last (j_appA (p := 0) rfl (.tail _ (.tail _ (.tail _ (.tail _ (.head _))))) rfl (e_op2 o_addI (E.el (e_ixEL (el_attrF rfl (.tail _ (.tail _ (.tail _ (.tail _ (.head _))))) rfl (.head _)) (fun _ => (e_ixT (i := 1) (f := fun (a : (Int) × (Int)) => a.2) (fun _ _ => rfl) (e_var (α := (Int) × (Int)) rfl) (fun _ => e_int))))) (fun _ => (E.el e_int))) (.head _) rfl (fun selfdepths_314 s_315 => (j_end (end_s (v := (selfpairs_308, (selfslots_310, (selfparents_312, selfdepths_314)))) (sub_cons rfl sub_nil) (.cons₂ _ (.cons₂ _ (.cons₂ _ (.cons₂ _ (.cons₂ _ .slnil)))))))))))))))))))) (sub_cons rfl sub_nil) (.cons₂ _ (.cons₂ _ (.cons₂ _ (.cons₂ _ (.cons₂ _ .slnil))))) (fun v_316 s_317 => (j_end (end_i2 (x := (Tree.mk (v_316.1) (v_316.2.1) (v_316.2.2.1) (v_316.2.2.2))) (.tail _ (.tail _ (.tail _ (.tail _ (.head _))))) (.cell (.tail _ (.tail _ (.tail _ (.head _)))) (.cell (.tail _ (.tail _ (.head _))) (.cell (.tail _ (.head _)) (.cell (.head _) .nil)))) (.tail _ (.tail _ (.tail _ (.head _)))) (.head _) rfl))))))))))))))))))
  exact h
theorem r_law_form_s {r : FnM} {d_r : (List ((Int) × (Int))) → (Int) → P (F)} (ih : FnP (A := (List ((Int) × (Int))) × (Int) × Unit) (R := F) r (fun a => d_r a.1 a.2.1)) : FnP (A := (List ((Int) × (Int))) × (Int) × Unit) (R := F) (fnM 2 6 (t__law_form r)) (fun a => d_law_form_s d_r a.1 a.2.1) := by
  refine fn_okP (fun _ => rfl) (by decide) fun B a s => ?_
  obtain ⟨blocks_328, block_329, _⟩ := a
  have h : J B 6 (Kfn (R := F) B) [(0, w_ blocks_328), (1, w_ block_329)] [] (t__law_form r) s _ := (j_setC (α := (Int) × (F)) (by decide) (c_lst al_nil) (fun k_330 found_331 s_332 => (j_for (β := (Int) × ((Int) × (Int))) (S := (List ((Int) × (F)))) (oG := fun v => [(0, w_ blocks_328), (1, w_ block_329), (2, .loc (B.b + k_330))]) (oC := fun v => [(k_330, cl_ v)]) (v0 := found_331) (i_enum d_lst (e_var (α := List ((Int) × (Int))) rfl)) (tg_2 (tg_nm (α := Int) (by decide)) (tg_2 (tg_nm (α := Int) (by decide)) (tg_nm (α := Int) (by decide)))) (fun i_334 v_333 s_335 => (j_last (j_ifJ (S := (List ((Int) × (F)))) (oG := fun v => [(0, w_ blocks_328), (1, w_ block_329), (2, .loc (B.b + k_330))]) (oC := fun v => [(k_330, cl_ v)]) (t_val (e_op2 o_eqI (E.el (e_var (α := Int) rfl)) (fun _ => (E.el (e_var (α := Int) rfl))))) (fun _ => (j_last (j_app (p := 0) rfl (e_tup2 (a_cons (e_var (α := Int) rfl) (fun _ => (a_cons (e_callU ih (a_cons (e_var (α := List ((Int) × (Int))) rfl) (fun _ => (a_cons (e_op2 o_addI (E.el (e_var (α := Int) rfl)) (fun _ => (E.el e_int))) (fun _ => a_nil))))) (fun _ => a_nil))))) (.head _) rfl (fun found_338 s_339 => (j_end (end_j (v := found_338) (sub_cons rfl (sub_cons rfl (sub_cons rfl sub_nil))) (.cons₂ _ .slnil))))))) (fun _ => (j_end (end_j (v := v_333) (sub_cons rfl (sub_cons rfl (sub_cons rfl sub_nil))) (.cons₂ _ .slnil)))) (fun v_340 s_341 => (j_end (end_s (v := v_340) (sub_cons rfl (sub_cons rfl (sub_cons rfl sub_nil))) (.cons₂ _ .slnil))))))) (sub_cons rfl (sub_cons rfl (sub_cons rfl sub_nil))) (.cons₂ _ .slnil) (fun v_343 s_344 => (j_last (j_retI ret_fn (e_co (f := fun a => En.e a) co_any (e_cb1 o_tupleL (E.el (e_cb1 o_srtFm (el_cell rfl (.head _))))))))))))
  exact h
theorem r_law_form : ∀ n, FnP (A := (List ((Int) × (Int))) × (Int) × Unit) (R := F) (m__law_form n) (fun a => d_law_form n a.1 a.2.1)
  | 0 => fun _ _ _ _ => trivial
  | n + 1 => r_law_form_s (r_law_form n)
theorem r_Tree__len : FnP (A := (Tree) × (Unit)) (R := Int) m_Tree___len__ (fun a => d_Tree__len a.1) := by
  refine fn_okP (fun _ => rfl) (by decide) fun B a s => ?_
  obtain ⟨self_358, _⟩ := a
  have h : J B 1 (Kfn (R := Int) B) [(0, w_ self_358)] [] t_Tree___len__ s _ := (j_last (j_retI ret_fn (e_cb1 o_lenL (E.el (e_attr (f := Tree.pairs) (fun _ _ => rfl) (e_var (α := Tree) rfl))))))
  exact h
theorem r_TreeForm {B : Bs wU} (self : Tree) (s : Unit) : J B 4 (Kfn (R := F) B) [(0, w_ self)] [] t_Tree_form s (d_TreeForm self) := by
  unfold t_Tree_form d_TreeForm
  refine j_setFam (x := .lstF []) (by decide) (fun _ => rfl) lstM_new (i_any it_lst (e_attr (f := Tree.slots) (fun _ _ => rfl) (e_var (α := Tree) rfl))) (tg_nm (α := Int) (by decide)) (fun _ => rfl) (fun k1 m s1 => ?_)
  have e0 : ([] ++ fam B.b k1 (List.replicate m (Cell.lstF [])) : List (Nat × Cell)) = [] ++ fam B.b k1 ((List.replicate m ([] : List (Int × F))).map cl_) := by rw [List.map_replicate]; rfl
  rw [e0]
  have hs : ∀ (v : List (List (Int × F))) (G : List (Nat × W)) (te : TEv) (oi : P Int) (s : Unit), lk G 1 = some (.loc (B.b + k1)) → E B 4 G ([] ++ fam B.b k1 (v.map cl_)) ([] ++ fam B.b k1 (v.map cl_)) te s oi →
      E B 4 G ([] ++ fam B.b k1 (v.map cl_)) ([] ++ fam B.b k1 (v.map cl_)) (eCB (g1 tupleF) (aCons (eCB (g1 sortedFmF) (aCons (eIx (eVar 1) te) aNil)) aNil)) s ((((oi.bind fun x _ => (ofO (ixN v.length x) ()).bind fun j2 _ => ofO v[j2]? ()).bind fun l _ => ofO (srtFm l) ()).bind fun l _ => .ok (En.e (Tu.mk l)) ())) := fun v G te oi s hv h => by
    have z := e_co (f := fun a => En.e a) co_any (e_cb1 o_tupleL (E.el (e_cb1 o_srtFm (el_fam (cs0 := []) (ll := v) hv h))))
    have e : ∀ o : P (List (Int × F)), ((o.bind fun l _ => ofO (srtFm l) ()).bind fun a _ => ofO (some (Tu.mk a)) ()).bind (fun a _ => (.ok (En.e a) () : P F)) = ((o.bind fun l _ => ofO (srtFm l) ()).bind fun l _ => .ok (En.e (Tu.mk l)) ()) := fun o => by
      cases o with
      | ok l u =>
        simp only [bind_ok]
        cases srtFm l <;> rfl
      | _ => rfl
    have z2 : E B 4 G ([] ++ fam B.b k1 (v.map cl_)) ([] ++ fam B.b k1 (v.map cl_)) (eCB (g1 tupleF) (aCons (eCB (g1 sortedFmF) (aCons (eIx (eVar 1) te) aNil)) aNil)) s (((((oi.bind fun x _ => (ofO (ixN v.length x) ()).bind fun j2 _ => ofO v[j2]? ())).bind fun l _ => ofO (srtFm l) ()).bind fun a _ => ofO (some (Tu.mk a)) ()).bind (fun a _ => (.ok (En.e a) () : P F))) := z
    rw [e] at z2
    exact z2
  refine j_for (β := Int) (S := List (List (Int × F))) (oG := fun _ => [(1, .loc (B.b + k1)), (0, w_ self)]) (oC := fun v => [] ++ fam B.b k1 (v.map cl_)) (v0 := List.replicate m []) (i_rg3 (e_lenOU (fun _ _ => rfl) r_Tree__len (e_var (α := Tree) rfl)) (fun _ => e_int) (fun _ => e_op1 o_neg (E.el e_int))) (tg_nm (α := Int) (by decide)) (fun b v s2 => ?_) sub_refl (List.Sublist.refl _) (fun v s3 => ?_)
  · refine j_last (j_appFamV (α := Int × F) (i0 := 1) (k' := k1) (ll := v) (o := fun _ => (ofO (atI self.slots b) ()).bind fun sl _ => ((((ofO (ixN v.length b) ()).bind fun j2 _ => ofO v[j2]? ()).bind fun l _ => ofO (srtFm l) ()).bind fun l _ => .ok (En.e (Tu.mk l)) ()).bind fun f _ => .ok (sl, f) ()) rfl (e_cop (f := fun o => o) co_get (e_ixL (e_attr (f := Tree.parents) (fun _ _ => rfl) (e_var (α := Tree) rfl)) (fun _ => e_var (α := Int) rfl))) (fun s4 => ?_) (fun ll' s5 => j_end (end_s ?_ (List.Sublist.refl _))))
    · exact e_tup2 (a_cons (e_ixL (e_attr (f := Tree.slots) (fun _ _ => rfl) (e_var (α := Tree) rfl)) (fun _ => e_var (α := Int) rfl)) (fun _ => a_cons (hs v _ _ _ _ rfl (e_var (α := Int) rfl)) (fun _ => a_nil)))
    · exact sub_cons rfl (sub_cons rfl sub_nil)
  · exact j_last (j_retI ret_fn (hs v _ _ _ _ rfl e_int))

theorem r_Tree_form : FnP (A := (Tree) × (Unit)) (R := F) m_Tree_form (fun a => d_Tree_form a.1) := by
  refine fn_okP (fun _ => rfl) (by decide) fun B a s => ?_
  obtain ⟨self_357, _⟩ := a
  have h : J B 4 (Kfn (R := F) B) [(0, w_ self_357)] [] t_Tree_form s _ := (r_TreeForm (B := B) self_357 _)
  exact h
theorem r_alike : FnP (A := (Tree) × (Tree) × (Unit)) (R := Bool) m_alike (fun a => d_alike a.1 a.2.1) := by
  refine fn_okP (fun _ => rfl) (by decide) fun B a s => ?_
  obtain ⟨one_362, other_363, _⟩ := a
  have h : J B 2 (Kfn (R := Bool) B) [(0, w_ one_362), (1, w_ other_363)] [] t_alike s _ := (j_last (j_retI ret_fn (e_op2 o_eqA (E.el (e_methU (fun _ _ => rfl) r_Tree_form (e_var (α := Tree) rfl) (fun _ => a_nil))) (fun _ => (E.el (e_methU (fun _ _ => rfl) r_Tree_form (e_var (α := Tree) rfl) (fun _ => a_nil)))))))
  exact h
theorem r_Tree__eq : FnP (A := (Tree) × (Tree) × (Unit)) (R := Bool) m_Tree___eq__ (fun a => d_Tree__eq a.1 a.2.1) := by
  refine fn_okP (fun _ => rfl) (by decide) fun B a s => ?_
  obtain ⟨self_368, other_369, _⟩ := a
  have h : J B 2 (Kfn (R := Bool) B) [(0, w_ self_368), (1, w_ other_369)] [] t_Tree___eq__ s _ := (j_last (j_retI ret_fn (e_and (e_isi (b := true) (fun _ => rfl) (e_var (α := Tree) rfl)) (fun _ => (e_op2 (o_eq (α := List ((Int) × (Int))) (by decide)) (E.el (e_attr (f := Tree.pairs) (fun _ _ => rfl) (e_var (α := Tree) rfl))) (fun _ => (E.el (e_attr (f := Tree.pairs) (fun _ _ => rfl) (e_var (α := Tree) rfl)))))))))
  exact h
theorem r_is_list_a : FnP (A := (F) × (Unit)) (R := Bool) m_is_list (fun a => d_is_list_a a.1) := by
  refine fn_okP (fun _ => rfl) (by decide) fun B a s => ?_
  obtain ⟨thing_394, _⟩ := a
  have h : J B 1 (Kfn (R := Bool) B) [(0, w_ thing_394)] [] t_is_list s _ := (j_last (j_retI ret_fn (e_isiD (f := fun q_f => isiAny [.lst, .tup] (kyF q_f)) (fun _ => rfl) (e_var (α := F) rfl))))
  exact h
theorem r_is_integer_a : FnP (A := (F) × (Unit)) (R := Bool) m_is_integer (fun a => d_is_integer_a a.1) := by
  refine fn_okP (fun _ => rfl) (by decide) fun B a s => ?_
  obtain ⟨thing_416, _⟩ := a
  have h : J B 1 (Kfn (R := Bool) B) [(0, w_ thing_416)] [] t_is_integer s _ := (j_last (j_retI ret_fn (e_andT (e_isiD (f := fun q_f => isiAny [.int] (kyF q_f)) (fun _ => rfl) (e_var (α := F) rfl)) (fun _ => (e_not (e_isiD (f := fun q_f => isiAny [.bl] (kyF q_f)) (fun _ => rfl) (e_var (α := F) rfl)))))))
  exact h
theorem r_Tree__contains_Treea : FnP (A := (Tree) × (F) × (Unit)) (R := Bool) m_Tree___contains__ (fun a => d_Tree__contains_Treea a.1 a.2.1) := by
  refine fn_okP (fun _ => rfl) (by decide) fun B a s => ?_
  obtain ⟨self_417, thing_418, _⟩ := a
  have h : J B 2 (Kfn (R := Bool) B) [(0, w_ self_417), (1, w_ thing_418)] [] t_Tree___contains__ s _ := (j_last (j_retI ret_fn (e_and (e_callU r_is_integer_a (a_cons (e_var (α := F) rfl) (fun _ => a_nil))) (fun _ => (e_chain o_le o_lt e_int (fun _ => (e_de (α := Int) (e_var (α := F) rfl))) (fun _ => (e_cb1 o_lenL (E.el (e_attr (f := Tree.slots) (fun _ _ => rfl) (e_var (α := Tree) rfl))))))))))
  exact h
theorem r_Tree_can_stand_Treeaa : FnP (A := (Tree) × (F) × (F) × (Unit)) (R := Bool) m_Tree_can_stand (fun a => d_Tree_can_stand_Treeaa a.1 a.2.1 a.2.2.1) := by
  refine fn_okP (fun _ => rfl) (by decide) fun B a s => ?_
  obtain ⟨self_413, slot_414, parent_415, _⟩ := a
  have h : J B 3 (Kfn (R := Bool) B) [(0, w_ self_413), (1, w_ slot_414), (2, w_ parent_415)] [] t_Tree_can_stand s _ := (j_last (j_retI ret_fn (e_and (e_callU r_is_integer_a (a_cons (e_var (α := F) rfl) (fun _ => a_nil))) (fun _ => (e_and (e_inOU (neg := false) (fun _ _ => rfl) r_Tree__contains_Treea (e_var (α := F) rfl) (fun _ => (e_var (α := Tree) rfl))) (fun _ => (e_op2 o_lt (E.el (e_ixL (e_attr (f := Tree.slots) (fun _ _ => rfl) (e_var (α := Tree) rfl)) (fun _ => (e_de (α := Int) (e_var (α := F) rfl))))) (fun _ => (E.el (e_de (α := Int) (e_var (α := F) rfl)))))))))))
  exact h
theorem r_Tree__init_a : FnP (A := (F) × (Unit)) (R := Tree) (mkF 0 m_Tree___init__) (fun a => d_Tree__init_a a.1) := by
  refine mk_ok2 (fun _ => rfl) (by decide) fun B a s => ?_
  obtain ⟨blocks_393, _⟩ := a
  have h : J B 4 (Ki2 (R := Tree) 0 B) [(0, .loc (B.b + 0)), (1, w_ blocks_393)] [(0, .ins 0 [])] t_Tree___init__ s _ := (j_if (t_not (t_val (e_callU r_is_list_a (a_cons (e_var (α := F) rfl) (fun _ => a_nil))))) (fun _ => (j_term (j_last j_never))) (fun _ => (j_nil (j_aU (ja_c (α := (Int) × (Int)) (c_lst al_nil) (fun k_396 pairs_397 s_398 => (ja_c (α := Int) (c_lst (al_cons e_int (fun _ => al_nil))) (fun k_399 slots_400 s_401 => (ja_c (α := Option (Int)) (c_lst (al_cons (e_co (f := fun _ => (none : Option (Int))) co_none e_non) (fun _ => al_nil))) (fun k_402 parents_403 s_404 => (ja_c (α := Int) (c_lst (al_cons e_int (fun _ => al_nil))) (fun k_405 depths_406 s_407 => (ja_endA (p := 4) (is := [0, 1, 2, 3]) rfl (by decide +kernel) rfl rfl (by first | decide | simp) (acc_app (acc_app (acc_app (acc_app acc_nil (acc_c (.tail _ (.tail _ (.tail _ (.head _)))))) (acc_c (.tail _ (.tail _ (.head _))))) (acc_c (.tail _ (.head _)))) (acc_c (.head _))) (j_last (j_for (β := (Int) × (F)) (S := (List ((Int) × (Int))) × (List (Int)) × (List (Option (Int))) × (List (Int))) (oG := fun v => [(0, .loc (B.b + 0))]) (oC := fun v => [(k_405, cl_ v.2.2.2), (k_402, cl_ v.2.2.1), (k_399, cl_ v.2.1), (k_396, cl_ v.1), (0, .ins 0 [(0, W.loc (B.b + k_396)), (1, W.loc (B.b + k_399)), (2, W.loc (B.b + k_402)), (3, W.loc (B.b + k_405))])]) (v0 := (pairs_397, (slots_400, (parents_403, depths_406)))) (i_enumD (e_var (α := F) rfl)) (tg_2 (tg_nm (α := Int) (by decide)) (tg_nm (α := F) (by decide))) (fun i_409 v_408 s_410 => (j_if (t_or (t_not (t_val (e_callU r_is_list_a (a_cons (e_var (α := F) rfl) (fun _ => a_nil))))) (fun _ => (t_or (t_val (e_op2 (ne_of o_eqI) (E.el (e_cb1 o_lenA (E.el (e_var (α := F) rfl)))) (fun _ => (E.el e_int)))) (fun _ => (t_not (t_val (e_methBU (x := (Tree.mk (v_408.1) (v_408.2.1) (v_408.2.2.1) (v_408.2.2.2))) rfl (.tail _ (.tail _ (.tail _ (.tail _ (.head _))))) (.cell (.tail _ (.tail _ (.tail _ (.head _)))) (.cell (.tail _ (.tail _ (.head _))) (.cell (.tail _ (.head _)) (.cell (.head _) .nil)))) rfl r_Tree_can_stand_Treeaa (ab_cons (E.el (e_ixA (e_var (α := F) rfl) (fun _ => e_int))) (fun _ => (ab_cons (E.el (e_ixA (e_var (α := F) rfl) (fun _ => e_int))) (fun _ => ab_nil))))))))))) (fun _ => (j_term (j_last j_never))) (fun _ => (j_nil (j_appA (p := 3) rfl (.tail _ (.tail _ (.tail _ (.tail _ (.head _))))) rfl (e_deA (β := (Int) × (Int)) (e_tup2 (a_cons (e_ixA (e_var (α := F) rfl) (fun _ => e_int)) (fun _ => (a_cons (e_ixA (e_var (α := F) rfl) (fun _ => e_int)) (fun _ => a_nil)))))) (.tail _ (.tail _ (.tail _ (.head _)))) rfl (fun selfpairs_427 s_428 => (j_appA (p := 2) rfl (.tail _ (.tail _ (.tail _ (.tail _ (.head _))))) rfl (e_de (α := Int) (e_ixA (e_var (α := F) rfl) (fun _ => e_int))) (.tail _ (.tail _ (.head _))) rfl (fun selfslots_429 s_430 => (j_appA (p := 1) rfl (.tail _ (.tail _ (.tail _ (.tail _ (.head _))))) rfl (e_co (f := some) co_some (e_de (α := Int) (e_ixA (e_var (α := F) rfl) (fun _ => e_int)))) (.tail _ (.head _)) rfl (fun selfparents_431 s_432 => (j_last (j_appA (p := 0) rfl (.tail _ (.tail _ (.tail _ (.tail _ (.head _))))) rfl (e_op2 o_addI (E.el (e_ixEL (el_attrF rfl (.tail _ (.tail _ (.tail _ (.tail _ (.head _))))) rfl (.head _)) (fun _ => (e_de (α := Int) (e_ixA (e_var (α := F) rfl) (fun _ => e_int)))))) (fun _ => (E.el e_int))) (.head _) rfl (fun selfdepths_433 s_434 => (j_end (end_s (v := (selfpairs_427, (selfslots_429, (selfparents_431, selfdepths_433)))) (sub_cons rfl sub_nil) (.cons₂ _ (.cons₂ _ (.cons₂ _ (.cons₂ _ (.cons₂ _ .slnil)))))))))))))))))))) (sub_cons rfl sub_nil) (.cons₂ _ (.cons₂ _ (.cons₂ _ (.cons₂ _ (.cons₂ _ .slnil))))) (fun v_435 s_436 => (j_end (end_i2 (x := (Tree.mk (v_435.1) (v_435.2.1) (v_435.2.2.1) (v_435.2.2.2))) (.tail _ (.tail _ (.tail _ (.tail _ (.head _))))) (.cell (.tail _ (.tail _ (.tail _ (.head _)))) (.cell (.tail _ (.tail _ (.head _))) (.cell (.tail _ (.head _)) (.cell (.head _) .nil)))) (.tail _ (.tail _ (.tail _ (.head _)))) (.head _) rfl))))))))))))))))))
  exact h
theorem r_Tree__init_a_d1 : FnP (A := Unit) (R := Tree) (mkF 0 m_Tree___init___d1) (fun a => d_Tree__init_a_d1 ) := fun rest s a h => by
  exact r_Tree__init_a rest s (((En.e (Tu.mk ([] : List (Int)))) : F), ()) h
theorem r_law (ns : List Int) (h : ∃ s', d_law ⟨ns, 0, 0, 11⟩ = .ok true s') : ∃ st, m_law [.f (.scr ns)] [] = .ok (.f (.bl true)) st :=
  law_run (n := 14) (i := 1) (ms := m__law_start) (by decide) (by decide) rfl (fun B => J.cast (j_forL (β := Int) (S := Unit) (oG := fun v => [(1, .loc 1)]) (oC := fun v => []) (R := Bool) (v0 := ()) ret_fn (i_rg1 e_int) (tg_nm (α := Int) (by decide)) (fun i_2 v_1 s_3 => (j_set (α := List ((Int) × (Int))) (by decide) (e_callS r_law_t_drawn (a_sp rfl (a_cons e_int (fun _ => a_nil)))) (fun blocks_135 s_136 => (j_ifJ (S := (List ((Int) × (Int)))) (oG := fun v => [(1, .loc 1), (3, w_ v)]) (oC := fun v => []) (t_val (e_op2 o_eqI (E.el (e_callS r_law_draw (a_sp rfl (a_cons e_int (fun _ => a_nil))))) (fun _ => (E.el e_int)))) (fun _ => (j_last (j_set (α := List ((Int) × (Int))) (by decide) (c_frz (c_map (α := (Int) × (Int)) (β := (Int) × (Int)) (v := fun x_137 s_138 => (O.bind (O.bind (O.bind ((d_law_t_depths (blocks_135)).up s_138) fun x_601 s_602 => ofO (atI x_601 x_137.2) s_602) fun x_599 s_600 => .ok (((1 : Int) + x_599)) s_600) fun x_597 s_598 => .ok ((x_597, x_137.2)) s_598)) (i_any it_lst (e_var (α := List ((Int) × (Int))) rfl)) (tg_2 (tg_nm (α := Int) (by decide)) (tg_nm (α := Int) (by decide))) (fun _ => rfl) (fun x_137 _ _ _ => (e_tup2 (a_cons (e_op2 o_addI (E.el e_int) (fun _ => (E.el (e_ixL (e_call r_law_t_depths (a_cons (e_var (α := List ((Int) × (Int))) rfl) (fun _ => a_nil))) (fun _ => (e_var (α := Int) rfl)))))) (fun _ => (a_cons (e_var (α := Int) rfl) (fun _ => a_nil)))))))) (fun blocks_154 s_155 => (j_end (end_j (v := blocks_154) (sub_cons rfl (sub_cons rfl sub_nil)) .slnil)))))) (fun _ => (j_end (end_j (v := blocks_135) (sub_cons rfl (sub_cons rfl sub_nil)) .slnil))) (fun v_156 s_157 => (j_a2 (ja_v (α := List ((Int) × (Int))) (e_callS r_law_renumbered (a_sp rfl (a_cons (e_var (α := List ((Int) × (Int))) rfl) (fun _ => a_nil)))) (fun other_203 s_204 => (ja_v (α := List ((Int) × (Int))) (e_callS r_law_changed (a_sp rfl (a_cons (e_var (α := List ((Int) × (Int))) rfl) (fun _ => a_nil)))) (fun bent_274 s_275 => (ja_e2 (by decide) (j_a2 (ja_v (α := Tree) (e_call r_Tree__init (a_cons (e_var (α := List ((Int) × (Int))) rfl) (fun _ => a_nil))) (fun one_326 s_327 => (ja_v (α := F) (e_call (r_law_form 16) (a_cons (e_var (α := List ((Int) × (Int))) rfl) (fun _ => (a_cons e_int (fun _ => a_nil))))) (fun due_350 s_351 => (ja_e2 (by decide) (j_forL (β := Int) (S := Unit) (oG := fun v => [(1, .loc 1), (3, w_ v_156), (4, w_ other_203), (5, w_ bent_274), (6, w_ one_326), (7, w_ due_350)]) (oC := fun v => []) (R := Bool) (v0 := ()) ret_l (i_rg1 e_int) (tg_nm (α := Int) (by decide)) (fun i_353 v_352 s_354 => (j_last (j_if (t_not (t_val (e_call r_law_same (a_cons (e_co (f := fun a => En.e a) co_any (e_lst (al_cons (e_meth (fun _ _ => rfl) r_Tree_form (e_var (α := Tree) rfl) (fun _ => a_nil)) (fun _ => (al_cons (e_meth (fun _ _ => rfl) r_Tree_form (e_call r_Tree__init (a_cons (e_var (α := List ((Int) × (Int))) rfl) (fun _ => a_nil))) (fun _ => a_nil)) (fun _ => al_nil)))))) (fun _ => (a_cons (e_co (f := fun a => En.e a) co_any (e_lst (al_cons (e_var (α := F) rfl) (fun _ => (al_cons (e_var (α := F) rfl) (fun _ => al_nil)))))) (fun _ => a_nil))))))) (fun _ => (j_term (j_last (j_ret (f := Fl.rt) (ret_t ret_l) e_bl)))) (fun _ => (j_nil (j_end (end_l (v := ()) (sub_cons rfl (sub_cons rfl (sub_cons rfl (sub_cons rfl (sub_cons rfl (sub_cons rfl sub_nil)))))) .slnil))))))) (sub_cons rfl (sub_cons rfl (sub_cons rfl (sub_cons rfl (sub_cons rfl (sub_cons rfl sub_nil)))))) .slnil (fun v_360 s_361 => (j_if (t_not (t_val (e_call r_law_same (a_cons (e_co (f := fun a => En.e a) co_any (e_lst (al_cons (e_call r_alike (a_cons (e_var (α := Tree) rfl) (fun _ => (a_cons (e_call r_Tree__init (a_cons (e_var (α := List ((Int) × (Int))) rfl) (fun _ => a_nil))) (fun _ => a_nil))))) (fun _ => (al_cons (e_call r_alike (a_cons (e_call r_Tree__init (a_cons (e_var (α := List ((Int) × (Int))) rfl) (fun _ => a_nil))) (fun _ => (a_cons (e_var (α := Tree) rfl) (fun _ => a_nil))))) (fun _ => (al_cons (e_call r_alike (a_cons (e_var (α := Tree) rfl) (fun _ => (a_cons (e_var (α := Tree) rfl) (fun _ => a_nil))))) (fun _ => al_nil)))))))) (fun _ => (a_cons (e_co (f := fun a => En.e a) co_any (e_op2 o_mulL (E.el (e_lst (al_cons e_bl (fun _ => al_nil)))) (fun _ => (E.el e_int)))) (fun _ => a_nil))))))) (fun _ => (j_term (j_last (j_ret (f := Fl.rt) (ret_t ret_l) e_bl)))) (fun _ => (j_nil (j_if (t_not (t_val (e_call r_law_same (a_cons (e_co (f := fun a => En.e a) co_any (e_call r_alike (a_cons (e_var (α := Tree) rfl) (fun _ => (a_cons (e_call r_Tree__init (a_cons (e_var (α := List ((Int) × (Int))) rfl) (fun _ => a_nil))) (fun _ => a_nil)))))) (fun _ => (a_cons (e_co (f := fun a => En.e a) co_any (e_op2 o_eqA (E.el (e_call (r_law_form 16) (a_cons (e_var (α := List ((Int) × (Int))) rfl) (fun _ => (a_cons e_int (fun _ => a_nil)))))) (fun _ => (E.el (e_var (α := F) rfl))))) (fun _ => a_nil))))))) (fun _ => (j_term (j_last (j_ret (f := Fl.rt) (ret_t ret_l) e_bl)))) (fun _ => (j_nil (j_last (j_if (t_or (t_val (e_op2 (ne_of o_eqB) (E.el (e_own2 (fun _ _ => rfl) (fun _ _ => rfl) r_Tree__eq (e_var (α := Tree) rfl) (fun _ => (e_call r_Tree__init (a_cons (e_var (α := List ((Int) × (Int))) rfl) (fun _ => a_nil)))))) (fun _ => (E.el (e_op2 (o_eq (α := List ((Int) × (Int))) (by decide)) (E.el (e_var (α := List ((Int) × (Int))) rfl)) (fun _ => (E.el (e_var (α := List ((Int) × (Int))) rfl)))))))) (fun _ => (t_val (e_op2 (ne_of o_eqB) (E.el (e_own2 (fun _ _ => rfl) (fun _ _ => rfl) r_Tree__eq (e_var (α := Tree) rfl) (fun _ => (e_call r_Tree__init (a_cons (e_var (α := List ((Int) × (Int))) rfl) (fun _ => a_nil)))))) (fun _ => (E.el (e_op2 (o_eq (α := List ((Int) × (Int))) (by decide)) (E.el (e_var (α := List ((Int) × (Int))) rfl)) (fun _ => (E.el (e_var (α := List ((Int) × (Int))) rfl)))))))))) (fun _ => (j_term (j_last (j_ret (f := Fl.rt) (ret_t ret_l) e_bl)))) (fun _ => (j_nil (j_end (end_l (v := ()) (sub_cons rfl sub_nil) .slnil))))))))))))))))))))))))))))))) (sub_cons rfl sub_nil) .slnil (fun v_371 s_372 => (j_set (α := F) (by decide) (e_co (f := fun a => En.e a) co_any (e_tupS (α := Int) al_nil)) (fun chain_373 s_374 => (j_for (β := Int) (S := (F)) (oG := fun v => [(1, .loc 1), (9, w_ v)]) (oC := fun v => []) (v0 := chain_373) (i_rg3 e_int (fun _ => e_int) (fun _ => (e_op1 o_neg (E.el e_int)))) (tg_nm (α := Int) (by decide)) (fun i_376 v_375 s_377 => (j_last (j_set (α := F) (by decide) (e_co (f := fun a => En.e a) co_any (e_tupS (al_cons (e_tup2 (a_cons (e_var (α := Int) rfl) (fun _ => (a_cons (e_var (α := F) rfl) (fun _ => a_nil))))) (fun _ => al_nil)))) (fun chain_380 s_381 => (j_end (end_s (v := chain_380) (sub_cons rfl (sub_cons rfl sub_nil)) .slnil)))))) (sub_cons rfl (sub_cons rfl sub_nil)) .slnil (fun v_382 s_383 => (j_set (α := List (F)) (by decide) (e_lst (al_cons (e_meth (fun _ _ => rfl) r_Tree_form (e_call r_Tree__init (a_cons (c_frz (c_mapT (α := (Int) × (Int)) (β := Int) (v := fun x_384 => (x_384, (x_384 - (1 : Int)))) (i_rg2 e_int (fun _ => e_int)) (tg_nm (α := Int) (by decide)) (fun _ => rfl) (fun x_384 _ _ _ => (e_tup2 (a_cons (e_var (α := Int) rfl) (fun _ => (a_cons (e_op2 o_subI (E.el (e_var (α := Int) rfl)) (fun _ => (E.el e_int))) (fun _ => a_nil)))))))) (fun _ => a_nil))) (fun _ => a_nil)) (fun _ => (al_cons (e_meth (fun _ _ => rfl) r_Tree_form (e_call r_Tree__init (a_cons (c_frz (c_mapT (α := (Int) × (Int)) (β := Int) (v := fun x_386 => (((301 : Int) - x_386), (0 : Int))) (i_rg1 e_int) (tg_nm (α := Int) (by decide)) (fun _ => rfl) (fun x_386 _ _ _ => (e_tup2 (a_cons (e_op2 o_subI (E.el e_int) (fun _ => (E.el (e_var (α := Int) rfl)))) (fun _ => (a_cons e_int (fun _ => a_nil)))))))) (fun _ => a_nil))) (fun _ => a_nil)) (fun _ => al_nil))))) (fun found_388 s_389 => (j_if (t_not (t_val (e_call r_law_same (a_cons (e_co (f := fun a => En.e a) co_any (e_var (α := List (F)) rfl)) (fun _ => (a_cons (e_co (f := fun a => En.e a) co_any (e_lst (al_cons (e_var (α := F) rfl) (fun _ => (al_cons (e_co (f := fun a => En.e a) co_any (e_cb1 o_tupleL (E.el (c_frz (c_mapT (α := (Int) × (Tu (Int))) (β := Int) (v := fun x_390 => (x_390, (Tu.mk ([] : List (Int))))) (i_rg2 e_int (fun _ => e_int)) (tg_nm (α := Int) (by decide)) (fun _ => rfl) (fun x_390 _ _ _ => (e_tup2 (a_cons (e_var (α := Int) rfl) (fun _ => (a_cons (e_tupS (α := Int) al_nil) (fun _ => a_nil))))))))))) (fun _ => al_nil)))))) (fun _ => a_nil))))))) (fun _ => (j_term (j_last (j_retI (ret_t ret_fn) e_bl)))) (fun _ => (j_nil (j_last (j_retI ret_fn (e_and (e_call r_law_same (a_cons (e_meth (fun _ _ => rfl) r_Tree_form (e_call r_Tree__init_a_d1 a_nil) (fun _ => a_nil)) (fun _ => (a_cons (e_co (f := fun a => En.e a) co_any (e_tupS (α := Int) al_nil)) (fun _ => a_nil))))) (fun _ => (e_call r_alike (a_cons (e_call r_Tree__init_a_d1 a_nil) (fun _ => (a_cons (e_call r_Tree__init_a_d1 a_nil) (fun _ => a_nil)))))))))))))))))))) (by kernel_rfl)) h
end LB

set_option Elab.async false
set_option linter.all false
set_option maxRecDepth 100000
set_option maxHeartbeats 4000000
set_option autoImplicit false
/-! M1: the step by itself: kinds 104 h, 72 H, 46 ., 65 A; states (reach, left). -/
namespace LM
abbrev S2 := Int × Int
def isK (k : Nat) : Bool := k == 104 || k == 72 || k == 46 || k == 65
def isTr (k : Nat) : Bool := k == 104 || k == 72
def stp (s : S2) (k : Nat) : S2 :=
  if k = 65 then (s.1 + 1, s.2 + 1) else if k = 46 then s
  else (if s.1 - 1 < 0 then 0 else s.1 - 1, if s.2 = 0 ∧ (0 < s.1 ∨ k = 72) then s.2 else s.2 - 1)
def run (s : S2) : List Nat → S2
  | [] => s
  | k :: t => run (stp s k) t
theorem run_append (s : S2) : ∀ (a b : List Nat), run s (a ++ b) = run (run s a) b
  | [], b => rfl
  | k :: a, b => by rw [List.cons_append, run, run, run_append _ a b]
  termination_by a => a.length
/-- a word n times -/
def pow (w : List Nat) : Nat → List Nat
  | 0 => []
  | n + 1 => w ++ pow w n
theorem pow_add (w : List Nat) (m : Nat) : ∀ n, pow w (n + m) = pow w n ++ pow w m
  | 0 => by simp [pow]
  | n + 1 => by rw [show n + 1 + m = (n + m) + 1 from by omega, pow, pow, pow_add w m n, List.append_assoc]
/-- those ahead of h and H -/
def met (s : S2) : List Nat → List S2
  | [] => []
  | k :: t => if isTr k = true then s :: met (stp s k) t else met (stp s k) t
/-- two states go alike at every true sign -/
def likes (u v : Int) (p : S2) : Prop := (0 < p.1 ↔ 0 < p.1 + u) ∧ (p.1 ≤ 0 → u = 0) ∧ (p.2 = 0 ↔ p.2 + v = 0)
theorem stp_nonneg {s : S2} (h : 0 ≤ s.1) (k : Nat) : 0 ≤ (stp s k).1 := by
  unfold stp
  split
  · show 0 ≤ s.1 + 1; omega
  · split
    · exact h
    · show 0 ≤ (if s.1 - 1 < 0 then 0 else s.1 - 1); split <;> omega
theorem run_nonneg : ∀ (t : List Nat) {s : S2}, 0 ≤ s.1 → 0 ≤ (run s t).1
  | [], _, h => h
  | k :: t, _, h => run_nonneg t (stp_nonneg h k)
theorem stp_shift {s : S2} {u v : Int} {k : Nat} (hk : isK k = true) (h : isTr k = true → likes u v s) (h0 : 0 ≤ s.1) (h1 : 0 ≤ s.1 + u) : stp (s.1 + u, s.2 + v) k = ((stp s k).1 + u, (stp s k).2 + v) := by
  unfold stp
  by_cases e1 : k = 65
  · simp [e1]; omega
  · by_cases e2 : k = 46
    · simp [e1, e2]
    · have ht : isTr k = true := by
        unfold isK at hk; unfold isTr
        simp only [Bool.or_eq_true, beq_iff_eq] at hk ⊢
        omega
      obtain ⟨a, b, c⟩ := h ht
      simp only [e1, e2, if_false]
      refine Prod.ext ?_ ?_
      · show (if s.1 + u - 1 < 0 then 0 else s.1 + u - 1) = (if s.1 - 1 < 0 then 0 else s.1 - 1) + u
        by_cases q : 0 < s.1
        · have := a.mp q
          rw [if_neg (by omega), if_neg (by omega)]; omega
        · have := b (by omega)
          subst this
          rw [if_pos (by omega), if_pos (by omega)]; rfl
      · show (if s.2 + v = 0 ∧ (0 < s.1 + u ∨ k = 72) then s.2 + v else s.2 + v - 1) = (if s.2 = 0 ∧ (0 < s.1 ∨ k = 72) then s.2 else s.2 - 1) + v
        by_cases q : s.2 = 0 ∧ (0 < s.1 ∨ k = 72)
        · rw [if_pos q, if_pos ⟨c.mp q.1, q.2.elim (fun z => .inl (a.mp z)) .inr⟩]
        · rw [if_neg q, if_neg fun z => q ⟨c.mpr z.1, z.2.elim (fun y => .inl (a.mpr y)) .inr⟩]; omega
theorem run_shift {u v : Int} : ∀ (t : List Nat) {s : S2}, (∀ k ∈ t, isK k = true) → (∀ p ∈ met s t, likes u v p) → 0 ≤ s.1 → 0 ≤ s.1 + u → run (s.1 + u, s.2 + v) t = ((run s t).1 + u, (run s t).2 + v) ∧ met (s.1 + u, s.2 + v) t = (met s t).map fun p => (p.1 + u, p.2 + v)
  | [], s, _, _, _, _ => ⟨rfl, rfl⟩
  | k :: t, s, hk, hm, h0, h1 => by
    have e := stp_shift (u := u) (v := v) (hk k (by simp)) (fun ht => hm s (by simp [met, ht])) h0 h1
    have h1' : 0 ≤ (stp s k).1 + u := by
      have := stp_nonneg (s := (s.1 + u, s.2 + v)) h1 k
      rw [e] at this
      exact this
    have ih := run_shift t (s := stp s k) (u := u) (v := v) (fun x hx => hk x (by simp [hx])) (fun p hp => hm p (by
      unfold met
      split
      · simp [hp]
      · exact hp)) (stp_nonneg h0 k) h1'
    refine ⟨by rw [run, run, e]; exact ih.1, ?_⟩
    unfold met
    rw [e, ih.2]
    split <;> simp
/-- rounds that go alike -/
theorem rounds {t : List Nat} {s : S2} {u v : Int} (hk : ∀ k ∈ t, isK k = true) (h0 : 0 ≤ s.1) (hu : (run s t).1 = s.1 + u) (hv : (run s t).2 = s.2 + v) : ∀ n : Nat, (∀ i : Nat, i ≤ n → ∀ p ∈ met s t, likes (i * u) (i * v) p) →
    run s (pow t (n + 1)) = (s.1 + (n + 1 : Nat) * u, s.2 + (n + 1 : Nat) * v)
  | 0, _ => by
    rw [pow, pow, List.append_nil]
    refine Prod.ext ?_ ?_
    · rw [hu]; simp
    · rw [hv]; simp
  | n + 1, h => by
    have ih := rounds hk h0 hu hv n fun i hi => h i (by omega)
    have e : pow t (n + 1 + 1) = pow t (n + 1) ++ t := by
      rw [pow_add t 1 (n + 1)]
      simp [pow]
    rw [e, run_append, ih]
    have hn := run_nonneg (pow t (n + 1)) h0
    rw [ih] at hn
    have sh := (run_shift (u := (n + 1 : Nat) * u) (v := (n + 1 : Nat) * v) t hk (h (n + 1) (Nat.le_refl _)) h0 hn).1
    rw [sh, hu, hv]
    have e1 : ((n + 1 + 1 : Nat) : Int) * u = (n + 1 : Nat) * u + u := by
      rw [show ((n + 1 + 1 : Nat) : Int) = ((n + 1 : Nat) : Int) + 1 from by omega, Int.add_mul, Int.one_mul]
    have e2 : ((n + 1 + 1 : Nat) : Int) * v = (n + 1 : Nat) * v + v := by
      rw [show ((n + 1 + 1 : Nat) : Int) = ((n + 1 : Nat) : Int) + 1 from by omega, Int.add_mul, Int.one_mul]
    refine Prod.ext ?_ ?_
    · simp only [e1]; omega
    · simp only [e2]; omega
end LM

set_option Elab.async false
set_option linter.all false
set_option maxRecDepth 100000
set_option maxHeartbeats 4000000
set_option autoImplicit false
/-! A1: reach and margins by themselves. -/
namespace LM
def rank (k : Nat) : Nat := if k = 104 then 0 else if k = 72 then 1 else if k = 46 then 2 else 3
def le2 (a b : S2) : Prop := a.1 ≤ b.1 ∧ a.2 ≤ b.2
theorem le2.refl {a : S2} : le2 a a := ⟨Int.le_refl _, Int.le_refl _⟩
theorem le2.trans {a b c : S2} (h : le2 a b) (h' : le2 b c) : le2 a c := ⟨Int.le_trans h.1 h'.1, Int.le_trans h.2 h'.2⟩
/-- each kind is no worse -/
def nw : List Nat → List Nat → Prop
  | [], [] => True
  | a :: x, b :: y => rank a ≤ rank b ∧ nw x y
  | _, _ => False
theorem nw.refl : ∀ t : List Nat, nw t t
  | [] => trivial
  | _ :: t => ⟨Nat.le_refl _, nw.refl t⟩
theorem nw.len : ∀ {a b : List Nat}, nw a b → a.length = b.length
  | [], [], _ => rfl
  | _ :: x, _ :: y, h => by simp [nw.len h.2]
  | [], _ :: _, h => h.elim
  | _ :: _, [], h => h.elim
theorem nw.app : ∀ {a b c d : List Nat}, nw a b → nw c d → nw (a ++ c) (b ++ d)
  | [], [], _, _, _, h => h
  | _ :: x, _ :: y, _, _, h, h' => ⟨h.1, nw.app h.2 h'⟩
  | [], _ :: _, _, _, h, _ => h.elim
  | _ :: _, [], _, _, h, _ => h.elim
theorem nw.pow {a b : List Nat} (h : nw a b) : ∀ n, nw (pow a n) (pow b n)
  | 0 => trivial
  | n + 1 => by rw [LM.pow, LM.pow]; exact h.app (nw.pow h n)
theorem nw.take : ∀ {a b : List Nat} (n : Nat), nw a b → nw (a.take n) (b.take n)
  | _, _, 0, _ => by simp [nw]
  | [], [], _ + 1, _ => by simp [nw]
  | _ :: x, _ :: y, n + 1, h => ⟨h.1, nw.take n h.2⟩
  | [], _ :: _, _ + 1, h => h.elim
  | _ :: _, [], _ + 1, h => h.elim
theorem nw.drop : ∀ {a b : List Nat} (n : Nat), nw a b → nw (a.drop n) (b.drop n)
  | _, _, 0, h => h
  | [], [], _ + 1, _ => by simp [nw]
  | _ :: x, _ :: y, n + 1, h => nw.drop n h.2
  | [], _ :: _, _ + 1, h => h.elim
  | _ :: _, [], _ + 1, h => h.elim
abbrev Ks (t : List Nat) : Prop := ∀ k ∈ t, isK k = true
theorem Ks.take {t : List Nat} (h : Ks t) (n : Nat) : Ks (t.take n) := fun k hk => h k (List.mem_of_mem_take hk)
theorem Ks.drop {t : List Nat} (h : Ks t) (n : Nat) : Ks (t.drop n) := fun k hk => h k (List.mem_of_mem_drop hk)
theorem Ks.app {a b : List Nat} (h : Ks a) (h' : Ks b) : Ks (a ++ b) := fun k hk => (List.mem_append.mp hk).elim (h k) (h' k)
theorem Ks.pow {w : List Nat} (h : Ks w) : ∀ n, Ks (pow w n)
  | 0 => fun k hk => by simp [LM.pow] at hk
  | n + 1 => by rw [LM.pow]; exact h.app (Ks.pow h n)
end LM

set_option Elab.async false
set_option linter.all false
set_option maxRecDepth 100000
set_option maxHeartbeats 4000000
set_option autoImplicit false
/-! B1: the steps' functions. -/
namespace LB
open VS TL LM
open L2 (atI ixN)
theorem smL_ok {σ β : Type} {xs : List β} {s : σ} (h : xs.length ≤ 1000000) : smL xs s = .ok xs s := by
  unfold smL
  rw [if_pos h]; rfl
theorem appO_ok {σ α : Type} [En α] {l : List α} {a : α} {s : σ} (h : l.length < 1000000) : appO l a s = .ok (l ++ [a]) s := by
  unfold appO
  rw [if_pos (show small (l.length + 1) = true from decide_eq_true h)]; rfl
theorem lenI_ok {σ : Type} {i : Int} {s : σ} (h : 0 ≤ i) (h' : i < 2 ^ 63) : lenI i s = .ok i s := by
  unfold lenI
  rw [if_pos (by rw [Bool.and_eq_true, posB_iff, inRg_iff]; omega)]; rfl
theorem rg1_ok {σ : Type} {j : Int} {s : σ} (h : 0 ≤ j) (h' : j < 2 ^ 62) : rg1 j s = .ok (rgI 0 j.toNat) s := by
  unfold rg1
  rw [if_pos (by unfold smI; rw [inRg_iff]; omega)]; rfl
theorem atI_get {α : Type} {xs : List α} {i : Int} (h : 0 ≤ i) (h' : i < xs.length) : atI xs i = xs[i.toNat]? := by
  unfold atI ixN
  simp [h, h']
theorem eqO_pairs (a b : List (Int × Int)) : eqO a b = some (decide (a = b)) := by
  have h : ∀ l : List (Int × Int), EqT.ok l = true := fun l => List.all_eq_true.mpr fun x _ => rfl
  unfold eqO
  rw [if_pos ⟨h a, h b⟩]
theorem eqO_ints (a b : List Int) : eqO a b = some (decide (a = b)) := by
  have h : ∀ l : List Int, EqT.ok l = true := fun l => List.all_eq_true.mpr fun x _ => rfl
  unfold eqO
  rw [if_pos ⟨h a, h b⟩]
end LB

set_option Elab.async false
set_option linter.all false
set_option maxRecDepth 100000
set_option maxHeartbeats 4000000
set_option autoImplicit false
/-! B2: rows: what their functions tell. -/
namespace LB
open VS TL LM
open L2 (atI ixN)
abbrev Ps := List (List Nat × Int)
def den : Ps → List Nat
  | [] => []
  | p :: ps => pow p.1 p.2.toNat ++ den ps
structure Okp (m : Nat) (p : List Nat × Int) : Prop where
  ne : p.1 ≠ []
  len : p.1.length ≤ m
  ks : Ks p.1
  pos : 1 ≤ p.2
structure WF (m : Nat) (ps : Ps) : Prop where
  ok : ∀ p ∈ ps, Okp m p
  m : m ≤ 250000
  cnt : ps.length ≤ 300000
  tot : (den ps).length < 2 ^ 60
theorem mapO_ok {σ α β : Type} {v : β → σ → O σ α} (f : β → α) : ∀ (xs : List β) (s : σ), (∀ x ∈ xs, ∀ s, v x s = .ok (f x) s) → mapO v xs s = .ok (xs.map f) s
  | [], _, _ => rfl
  | x :: xs, s, h => by
    rw [mapO, h x (by simp) s, bind_ok, mapO_ok f xs s fun y hy => h y (by simp [hy]), bind_ok]
    rfl
/-- pieces as they are handed in -/
structure Okr (m : Nat) (p : List Nat × Int) : Prop where
  len : p.1.length ≤ m
  ks : Ks p.1
  pos : 0 ≤ p.2
def keep (ps : Ps) : Ps := ps.filter fun x => (!decide (x.1 = [])) && decide (0 < x.2)
theorem Okp.r {m : Nat} {p : List Nat × Int} (h : Okp m p) : Okr m p := ⟨h.len, h.ks, by have := h.pos; omega⟩
/-! through -/
/-! cuts of a power -/
def Per (w : List Nat) (c : Nat) (L : List Nat) : Prop := ∀ i, i < L.length → L[i]? = w[(c + i) % w.length]?
theorem Per.app {w A B : List Nat} {c : Nat} (h : Per w c A) (h' : Per w (c + A.length) B) : Per w c (A ++ B) := fun i hi => by
  by_cases hA : i < A.length
  · rw [List.getElem?_append_left hA]; exact h i hA
  · rw [List.getElem?_append_right (by omega), h' (i - A.length) (by rw [List.length_append] at hi; omega)]
    congr 2
    omega
theorem Per.mod {w L : List Nat} {c d : Nat} (h : Per w c L) (e : c % w.length = d % w.length) : Per w d L := fun i hi => by
  rw [h i hi, Nat.add_mod, e, ← Nat.add_mod]
theorem Per.self (w : List Nat) : Per w 0 w := fun i hi => by rw [Nat.zero_add, Nat.mod_eq_of_lt hi]
theorem Per.pow (w : List Nat) : ∀ n, Per w 0 (pow w n)
  | 0 => fun i hi => by simp [LM.pow] at hi
  | n + 1 => by
    rw [LM.pow]
    exact (Per.self w).app ((Per.pow w n).mod (by simp))
theorem Per.drop {w L : List Nat} {c : Nat} (h : Per w c L) (k : Nat) : Per w (c + k) (L.drop k) := fun i hi => by
  rw [List.length_drop] at hi
  rw [List.getElem?_drop, h (k + i) (by omega)]
  congr 2
  omega
theorem Per.take {w L : List Nat} {c : Nat} (h : Per w c L) (k : Nat) : Per w c (L.take k) := fun i hi => by
  rw [List.length_take] at hi
  rw [List.getElem?_take_of_lt (by omega), h i (by omega)]
theorem Per.eq {w A B : List Nat} {c d : Nat} (h : Per w c A) (h' : Per w d B) (e : c % w.length = d % w.length) (hl : A.length = B.length) : A = B := by
  apply List.ext_getElem?
  intro i
  by_cases hi : i < A.length
  · rw [h i hi, (h'.mod e.symm) i (by omega)]
  · rw [List.getElem?_eq_none (by omega), List.getElem?_eq_none (by omega)]
theorem sIx_nat (n d k : Nat) (h : k ≤ n) : HT.sIx n d (some (k : Int)) = k := by
  rw [HT.sIx_nat, Nat.min_eq_left h]
theorem cutL_from {α : Type} (l : List α) {a : Nat} (ha : a ≤ l.length) : cutL l (some (a : Int)) none = l.drop a := by
  unfold cutL
  rw [sIx_nat _ _ _ ha]
  show (l.drop a).take (l.length - a) = _
  rw [List.take_of_length_le (by simp)]
theorem cutL_to {α : Type} (l : List α) {b : Nat} (hb : b ≤ l.length) : cutL l none (some (b : Int)) = l.take b := by
  unfold cutL
  rw [sIx_nat _ _ _ hb]
  show (l.drop 0).take (b - 0) = _
  rw [List.drop_zero, Nat.sub_zero]
end LB

set_option Elab.async false
set_option linter.all false
set_option maxRecDepth 100000
set_option maxHeartbeats 4000000
set_option autoImplicit false
/-! B3: parts of rows, margins, the firm slot. -/
namespace LB
open VS TL LM
open L2 (atI ixN)
theorem addL_ok {α : Type} {a b : List α} (h : a.length + b.length ≤ 1000000) : addL a b = some (a ++ b) := by
  unfold addL
  rw [if_pos (show small (a.length + b.length) = true from decide_eq_true h)]
theorem is_int (i : Int) : d_is_integer_i i = .ok true () := rfl
end LB

set_option Elab.async false
set_option linter.all false
set_option maxRecDepth 100000
set_option maxHeartbeats 4000000
set_option autoImplicit false
/-! B4: draws. -/
namespace LB
open VS TL LM
open L2 (atI ixN)
structure SpOk (b : Nat) (s : Sp) : Prop where
  mix0 : 0 ≤ s.mix
  mix1 : s.mix < 2147483647
  c0 : 0 ≤ s.cnt
  c1 : s.cnt ≤ b
  big : 0 ≤ s.big
theorem SpOk.mono {b c : Nat} {s : Sp} (h : SpOk b s) (hbc : b ≤ c) : SpOk c s := ⟨h.mix0, h.mix1, h.c0, by have := h.c1; omega, h.big⟩
theorem spOk0 (ns : List Int) : SpOk 0 ⟨ns, 0, 0, 11⟩ := ⟨show (0 : Int) ≤ 11 by decide, show (11 : Int) < 2147483647 by decide, Int.le_refl 0, Int.le_refl 0, Int.le_refl 0⟩
theorem pow18 : powO (10 : Int) (18 : Int) = some 1000000000000000000 := by
  rw [show (18 : Int) = ((18 : Nat) : Int) from rfl, powO_ok (by decide) (by decide)]; rfl
theorem v_draw {b : Nat} {many : Int} {s : Sp} (h : SpOk b s) (hb : b < 2 ^ 40) (h1 : 1 ≤ many) (h2 : many < 2 ^ 60) : ∃ d s', d_law_draw many s = .ok d s' ∧ 0 ≤ d ∧ d < many ∧ SpOk (b + 1) s' := by
  obtain ⟨m0, m1, c0, c1, bg⟩ := h
  obtain ⟨cells, big, cnt, mix⟩ := s
  dsimp only at m0 m1 c0 c1 bg
  have tail : ∀ s1 : Sp, SpOk (b + 1) s1 → ∃ d s', (if decide (0 < s1.big) = true then O.bind (ofO (modO s1.big many) s1) fun d s_23 => O.bind (ofO (divO s_23.big many) s_23) fun a s_25 => .ok d { s_25 with big := a }
      else O.bind (ofO (mulO 7919 s1.cnt) s1) fun a s => O.bind (ofO (powO (s1.mix + a + 104729) 5) s) fun a s => O.bind (ofO (modO a 2147483629) s) fun mixed s_28 => O.bind (ofO (mulO mixed 48271) s_28) fun a s => O.bind (ofO (mulO 30011 s.cnt) s) fun a_1 s => O.bind (ofO (powO (a + a_1 + 29) 3) s) fun a s => O.bind (ofO (modO a 1000000007) s) fun x s => ofO (modO x many) s) = .ok d s' ∧ 0 ≤ d ∧ d < many ∧ SpOk (b + 1) s' := by
    intro s1 ⟨m0', m1', c0', c1', bg'⟩
    by_cases q : 0 < s1.big
    · rw [if_pos (decide_eq_true q)]
      have e1 := Int.emod_nonneg s1.big (show many ≠ 0 by omega)
      have e2 := Int.emod_lt_of_pos s1.big (show 0 < many by omega)
      rw [modO_ok (show 0 < many by omega), ofO_some, bind_ok, divO_ok (show 0 < many by omega) (by omega), ofO_some, bind_ok]
      exact ⟨_, _, rfl, e1, e2, m0', m1', c0', c1', Int.ediv_nonneg bg' (by omega)⟩
    · rw [if_neg (by simpa using q)]
      have p1 : mulO 7919 s1.cnt = some (7919 * s1.cnt) := mulO_ok (.inl (by decide))
      have p2 : mulO 30011 s1.cnt = some (30011 * s1.cnt) := mulO_ok (.inl (by decide))
      have p3 : powO (s1.mix + 7919 * s1.cnt + 104729) 5 = some ((s1.mix + 7919 * s1.cnt + 104729) ^ 5) := powO_ok (j := 5) (by decide) (by omega)
      simp only [p1, p2, p3, ofO_some, bind_ok, modO_ok (show (0 : Int) < 2147483629 by decide)]
      generalize hx : (s1.mix + 7919 * s1.cnt + 104729) ^ 5 % 2147483629 = x
      have x0 : 0 ≤ x := by rw [← hx]; exact Int.emod_nonneg _ (by decide)
      have x1 : x < 2147483629 := by rw [← hx]; exact Int.emod_lt_of_pos _ (by decide)
      have p4 : mulO x 48271 = some (x * 48271) := mulO_ok (.inr (by decide))
      have p5 : powO (x * 48271 + 30011 * s1.cnt + 29) 3 = some ((x * 48271 + 30011 * s1.cnt + 29) ^ 3) := powO_ok (j := 3) (by decide) (by omega)
      simp only [p2, p4, p5, ofO_some, bind_ok, modO_ok (show (0 : Int) < 1000000007 by decide), modO_ok (show (0 : Int) < many by omega)]
      exact ⟨_, _, rfl, Int.emod_nonneg _ (by omega), Int.emod_lt_of_pos _ (by omega), m0', m1', c0', c1', bg'⟩
  have fin : ∀ {o : O Sp Int} (s1 : Sp), SpOk (b + 1) s1 → (o = (if decide (0 < s1.big) = true then O.bind (ofO (modO s1.big many) s1) fun d s_23 => O.bind (ofO (divO s_23.big many) s_23) fun a s_25 => .ok d { s_25 with big := a }
      else O.bind (ofO (mulO 7919 s1.cnt) s1) fun a s => O.bind (ofO (powO (s1.mix + a + 104729) 5) s) fun a s => O.bind (ofO (modO a 2147483629) s) fun mixed s_28 => O.bind (ofO (mulO mixed 48271) s_28) fun a s => O.bind (ofO (mulO 30011 s.cnt) s) fun a_1 s => O.bind (ofO (powO (a + a_1 + 29) 3) s) fun a s => O.bind (ofO (modO a 1000000007) s) fun x s => ofO (modO x many) s)) → ∃ d s', o = .ok d s' ∧ 0 ≤ d ∧ d < many ∧ SpOk (b + 1) s' := fun s1 h e => by rw [e]; exact tail s1 h
  unfold d_law_draw
  simp only [bind_assoc, bind_ok, pow18, ofO_some]
  by_cases q : big = 0
  · cases cells with
    | nil =>
      simp only [q, decide_true, if_true, List.isEmpty_nil, Bool.not_true, bind_ok, Bool.false_eq_true, if_false]
      exact fin ⟨[], 0, cnt + 1, mix⟩ ⟨m0, m1, by show 0 ≤ cnt + 1; omega, by show cnt + 1 ≤ _; omega, Int.le_refl 0⟩ rfl
    | cons cell l =>
      have hmod0 := Int.emod_nonneg (mix * 8191 + cell + 3) (show (2147483647 : Int) ≠ 0 by decide)
      have hmod1 := Int.emod_lt_of_pos (mix * 8191 + cell + 3) (show (0 : Int) < 2147483647 by decide)
      simp only [q, decide_true, if_true, List.isEmpty_cons, Bool.not_false, bind_ok, mulO_ok (i := mix) (j := 8191) (.inr (by decide)), ofO_some, modO_ok (show (0 : Int) < 2147483647 by decide)]
      by_cases r : (1000000000000000000 : Int) ≤ cell
      · simp only [decide_eq_true r, if_true, bind_ok]
        exact fin ⟨l, cell, cnt + 1, (mix * 8191 + cell + 3) % 2147483647⟩ ⟨hmod0, hmod1, by show 0 ≤ cnt + 1; omega, by show cnt + 1 ≤ _; omega, by show 0 ≤ cell; omega⟩ rfl
      · simp only [decide_eq_false r, Bool.false_eq_true, if_false, bind_ok]
        exact fin ⟨l, 0, cnt + 1, (mix * 8191 + cell + 3) % 2147483647⟩ ⟨hmod0, hmod1, by show 0 ≤ cnt + 1; omega, by show cnt + 1 ≤ _; omega, Int.le_refl 0⟩ rfl
  · simp only [decide_eq_false q, Bool.false_eq_true, if_false, bind_ok]
    exact fin ⟨cells, big, cnt + 1, mix⟩ ⟨m0, m1, by show 0 ≤ cnt + 1; omega, by show cnt + 1 ≤ _; omega, bg⟩ rfl
end LB

set_option Elab.async false
set_option linter.all false
set_option maxRecDepth 100000
set_option maxHeartbeats 4000000
set_option autoImplicit false
/-! B5: drawn texts. -/
namespace LB
open VS TL LM
open L2 (atI ixN)
theorem atI_mem {α : Type} {xs : List α} {i : Int} (h : 0 ≤ i) (h' : i < xs.length) : ∃ x, atI xs i = some x ∧ x ∈ xs := by
  have hi : i.toNat < xs.length := by omega
  exact ⟨xs[i.toNat], by rw [atI_get h h', List.getElem?_eq_getElem hi], List.getElem_mem hi⟩
theorem v_pick_sli {b : Nat} {l : List Int} {s : Sp} (h : SpOk b s) (hb : b < 2 ^ 40) (hl : l ≠ []) (hl' : l.length < 2 ^ 50) : ∃ x s', d_law_pick_sli l s = .ok x s' ∧ x ∈ l ∧ SpOk (b + 1) s' := by
  have := List.length_pos_iff.mpr hl
  obtain ⟨d, s', e, d0, d1, k⟩ := v_draw (many := (l.length : Int)) h hb (by omega) (by omega)
  obtain ⟨x, ex, hx⟩ := atI_mem (xs := l) d0 d1
  refine ⟨x, s', ?_, hx, k⟩
  unfold d_law_pick_sli
  rw [e, bind_ok, ex, ofO_some]
theorem rgI_length (lo : Int) (n : Nat) : (rgI lo n).length = n := by unfold rgI; simp
end LB

set_option Elab.async false
set_option linter.all false
set_option maxRecDepth 100000
set_option maxHeartbeats 4000000
set_option autoImplicit false
/-! H1: what a typed program comes to, by what is known of it. -/
namespace LB
open VS TL
open L2 (atI ixN)
def Sat {σ α : Type} (o : O σ α) (Q : α → σ → Prop) : Prop := ∃ a s, o = .ok a s ∧ Q a s
section
variable {σ α β γ S R X : Type} {Q Q' : α → σ → Prop}
theorem sat_ok {a : α} {s : σ} (h : Q a s) : Sat (.ok a s) Q := ⟨a, s, rfl, h⟩
theorem sat_eq {o : O σ α} {a : α} {s : σ} (e : o = .ok a s) (h : Q a s) : Sat o Q := ⟨a, s, e, h⟩
theorem Sat.mono {o : O σ α} (h : Sat o Q) (k : ∀ a s, Q a s → Q' a s) : Sat o Q' := by
  obtain ⟨a, s, e, q⟩ := h
  exact ⟨a, s, e, k a s q⟩
theorem sat_bind {o : O σ β} {k : β → σ → O σ α} {Q1 : β → σ → Prop} (h : Sat o Q1) (hk : ∀ b s, Q1 b s → Sat (k b s) Q) : Sat (o.bind k) Q := by
  obtain ⟨b, s, e, q⟩ := h
  rw [e]
  exact hk b s q
theorem sat_bindE {o : O σ β} {k : β → σ → O σ α} {b : β} {s : σ} (e : o = .ok b s) (hk : Sat (k b s) Q) : Sat (o.bind k) Q := by
  rw [e]
  exact hk
theorem sat_if {b : Bool} {x y : O σ α} (h1 : b = true → Sat x Q) (h2 : b = false → Sat y Q) : Sat (if b = true then x else y) Q := by
  cases b with
  | true => exact h1 rfl
  | false => exact h2 rfl
theorem Sat.run {p : P α} {Q : α → Unit → Prop} (h : Sat p Q) : ∃ a, p = .ok a () ∧ Q a () := by
  obtain ⟨a, s, e, q⟩ := h
  exact ⟨a, e, q⟩
theorem eq_of_sat {p : P α} {a : α} (h : Sat p fun b _ => b = a) : p = .ok a () := by
  obtain ⟨b, s, e, q⟩ := h
  rw [e, q]
/-- a loop by what holds behind its first rounds -/
theorem sat_fold {body : β → S → σ → O σ S} (I : List β → S → σ → Prop) {xs : List β} {v : S} {s : σ} (h0 : I [] v s)
    (hs : ∀ pre x post v s, xs = pre ++ x :: post → I pre v s → Sat (body x v s) (I (pre ++ [x]))) : Sat (foldO body xs v s) (I xs) := by
  have key : ∀ (ys pre : List β) v s, xs = pre ++ ys → I pre v s → Sat (foldO body ys v s) (I xs) := by
    intro ys
    induction ys with
    | nil => intro pre v s e h; rw [List.append_nil] at e; subst e; exact sat_ok h
    | cons y ys ih =>
      intro pre v s e h
      exact sat_bind (hs pre y ys v s e h) fun v' s' h' => ih (pre ++ [y]) v' s' (by rw [e]; simp) h'
  exact key xs [] v s rfl h0
/-- a loop that is never left -/
theorem sat_forN {body : β → S → σ → O σ (Fl S R)} (I : List β → S → σ → Prop) {xs : List β} {v : S} {s : σ} (h0 : I [] v s)
    (hs : ∀ pre x post v s, xs = pre ++ x :: post → I pre v s → Sat (body x v s) fun y s' => ∃ v', y = .nx v' ∧ I (pre ++ [x]) v' s') :
    Sat (forO body xs v s) fun y s' => ∃ v', y = .nx v' ∧ I xs v' s' := by
  have key : ∀ (ys pre : List β) v s, xs = pre ++ ys → I pre v s → Sat (forO body ys v s) fun y s' => ∃ v', y = .nx v' ∧ I xs v' s' := by
    intro ys
    induction ys with
    | nil => intro pre v s e h; rw [List.append_nil] at e; subst e; exact sat_ok ⟨v, rfl, h⟩
    | cons y ys ih =>
      intro pre v s e h
      refine sat_bind (hs pre y ys v s e h) fun z s' h' => ?_
      obtain ⟨v', rfl, h'⟩ := h'
      exact ih (pre ++ [y]) v' s' (by rw [e]; simp) h'
  exact key xs [] v s rfl h0
theorem sat_forNk {body : β → S → σ → O σ (Fl S R)} {k : Fl S R → σ → O σ α} (I : List β → S → σ → Prop) {xs : List β} {v : S} {s : σ} (h0 : I [] v s)
    (hs : ∀ pre x post v s, xs = pre ++ x :: post → I pre v s → Sat (body x v s) fun y s' => ∃ v', y = .nx v' ∧ I (pre ++ [x]) v' s')
    (hk : ∀ v s, I xs v s → Sat (k (.nx v) s) Q) : Sat ((forO body xs v s).bind k) Q :=
  sat_bind (sat_forN I h0 hs) fun y s' h => by
    obtain ⟨v', rfl, h⟩ := h
    exact hk v' s' h
/-- a while loop by a number that becomes less -/
theorem sat_wh {c : S → σ → O σ Bool} {body : S → σ → O σ S} (I : S → σ → Prop) (m : S → σ → Nat) (t : S → σ → Bool) {v : S} {s : σ} (f : Nat) (hf : m v s < f) (h0 : I v s)
    (hc : ∀ v s, I v s → c v s = .ok (t v s) s)
    (hs : ∀ v s, I v s → t v s = true → Sat (body v s) fun v' s' => I v' s' ∧ m v' s' < m v s) : Sat (whO c body f v s) fun v' s' => I v' s' ∧ t v' s' = false := by
  induction f generalizing v s with
  | zero => omega
  | succ f ih =>
    rw [whO]
    refine sat_bindE (hc v s h0) ?_
    cases e : t v s with
    | false => rw [if_neg (by simp)]; exact sat_ok ⟨h0, e⟩
    | true =>
      rw [if_pos rfl]
      refine sat_bind (hs v s h0 e) fun v' s' h => ?_
      exact ih (by omega) h.1
end
end LB

set_option Elab.async false
set_option linter.all false
set_option maxRecDepth 100000
set_option maxHeartbeats 4000000
set_option autoImplicit false
/-! A3: trees by themselves: no tree of a row has a greater reach, or a greater margin, than the row. -/
namespace LM
/-- blocks 1 .. n, the root 0 -/
structure ATree (n : Nat) (sl pa : Nat → Nat) (dp : Nat → Int) : Prop where
  s0 : sl 0 = 0
  d0 : dp 0 = 0
  st : ∀ b, 1 ≤ b → b ≤ n → pa b < b ∧ sl (pa b) < sl b ∧ dp b = dp (pa b) + 1
inductive Anc (pa : Nat → Nat) : Nat → Nat → Prop
  | refl (b : Nat) : Anc pa b b
  | up {a b : Nat} : b ≠ 0 → Anc pa a (pa b) → Anc pa a b
section
variable {n : Nat} {sl pa : Nat → Nat} {dp : Nat → Int}
/-- the greatest depth of a true block of the first k slots -/
structure IsH (n : Nat) (sl : Nat → Nat) (dp : Nat → Int) (tr : Nat → Bool) (k : Nat) (h : Int) : Prop where
  nn : 0 ≤ h
  up : ∀ b, 1 ≤ b → b ≤ n → sl b ≤ k → tr b = true → dp b ≤ h
  at_ : h = 0 ∨ ∃ b, 1 ≤ b ∧ b ≤ n ∧ sl b ≤ k ∧ tr b = true ∧ dp b = h
/-- a tree of a row -/
structure OfRow (w : List Nat) (n : Nat) (sl : Nat → Nat) (dp : Nat → Int) : Prop where
  in_ : ∀ b, 1 ≤ b → b ≤ n → 1 ≤ sl b ∧ sl b ≤ w.length ∧ w[sl b - 1]? ≠ some 46
  one : ∀ i, w[i]? = some 104 → ∀ a b, 1 ≤ a → a ≤ n → 1 ≤ b → b ≤ n → sl a = i + 1 → sl b = i + 1 → a = b
  some_ : ∀ i c, w[i]? = some c → isTr c = true → ∃ b, 1 ≤ b ∧ b ≤ n ∧ sl b = i + 1
  deep : ∀ a b, 1 ≤ a → a ≤ n → 1 ≤ b → b ≤ n → isTr (w.getD (sl a - 1) 0) = true → isTr (w.getD (sl b - 1) 0) = true → sl a < sl b → dp a < dp b
def Apart (pa sl : Nat → Nat) (x y s : Nat) : Prop := ∀ c, Anc pa c x → Anc pa c y → sl c < s
theorem Apart.symm {x y s : Nat} (h : Apart pa sl x y s) : Apart pa sl y x s := fun c a b => h c b a
variable {w : List Nat}
end
end LM

set_option Elab.async false
set_option linter.all false
set_option maxRecDepth 100000
set_option maxHeartbeats 4000000
set_option autoImplicit false
/-! A4: branches, last common blocks; trees as lists of pairs. -/
namespace LM
section
variable {n : Nat} {sl pa : Nat → Nat} {dp : Nat → Int}
end
theorem snoc_ind {α : Type} {P : List α → Prop} (h0 : P []) (hs : ∀ l a, P l → P (l ++ [a])) : ∀ l, P l := by
  have key : ∀ (m : Nat) (l : List α), l.length = m → P l := by
    intro m
    induction m with
    | zero => intro l hl; rw [List.length_eq_zero_iff.mp hl]; exact h0
    | succ m ih =>
      intro l hl
      rcases List.eq_nil_or_concat l with e | ⟨u, a, e⟩
      · rw [e] at hl; simp at hl
      · rw [List.concat_eq_append] at e
        rw [e, List.length_append, List.length_singleton] at hl
        rw [e]
        exact hs u a (ih u (by omega))
  exact fun l => key l.length l rfl
/-! ### trees as lists of pairs of a slot and a parent -/
abbrev Bl := List (Int × Int)
def slI (bl : Bl) (b : Nat) : Int := ((0 : Int) :: bl.map (·.1)).getD b 0
def slN (bl : Bl) (b : Nat) : Nat := (slI bl b).toNat
def paN (bl : Bl) (b : Nat) : Nat := (bl.getD (b - 1) (0, 0)).2.toNat
def dpl (bl : Bl) : List Int := bl.foldl (fun acc p => acc ++ [acc.getD p.2.toNat 0 + 1]) [0]
def dpI (bl : Bl) (b : Nat) : Int := (dpl bl).getD b 0
/-- each block stands on an earlier one of a lesser slot -/
def VT : Bl → Prop := fun bl => ∀ (i : Nat) (p : Int × Int), bl[i]? = some p → 0 ≤ p.2 ∧ p.2 ≤ i ∧ slI bl p.2.toNat < p.1
theorem dpl_snoc (bl : Bl) (p : Int × Int) : dpl (bl ++ [p]) = dpl bl ++ [dpI bl p.2.toNat + 1] := by
  unfold dpl dpI
  rw [List.foldl_append]
  rfl
theorem dpl_len (bl : Bl) : (dpl bl).length = bl.length + 1 := by
  refine snoc_ind (P := fun bl => (dpl bl).length = bl.length + 1) rfl (fun bl p ih => ?_) bl
  rw [dpl_snoc, List.length_append, ih, List.length_append]; rfl
theorem slI_zero (bl : Bl) : slI bl 0 = 0 := rfl
theorem slI_succ {bl : Bl} {i : Nat} {p : Int × Int} (h : bl[i]? = some p) : slI bl (i + 1) = p.1 := by
  unfold slI
  rw [List.getD_cons_succ, List.getD_eq_getElem?_getD, List.getElem?_map, h]
  rfl
theorem slI_app (bl more : Bl) {b : Nat} (hb : b ≤ bl.length) : slI (bl ++ more) b = slI bl b := by
  unfold slI
  cases b with
  | zero => rfl
  | succ i =>
    rw [List.getD_cons_succ, List.getD_cons_succ, List.getD_eq_getElem?_getD, List.getD_eq_getElem?_getD, List.map_append, List.getElem?_append_left (by rw [List.length_map]; omega)]
theorem dpI_app (bl more : Bl) {b : Nat} (hb : b ≤ bl.length) : dpI (bl ++ more) b = dpI bl b := by
  refine snoc_ind (P := fun more => dpI (bl ++ more) b = dpI bl b) (by rw [List.append_nil]) (fun more p ih => ?_) more
  rw [← ih, ← List.append_assoc]
  unfold dpI
  rw [dpl_snoc, List.getD_eq_getElem?_getD, List.getD_eq_getElem?_getD, List.getElem?_append_left (by rw [dpl_len, List.length_append]; omega)]
theorem paN_succ {bl : Bl} {i : Nat} {p : Int × Int} (h : bl[i]? = some p) : paN bl (i + 1) = p.2.toNat := by
  unfold paN
  rw [show i + 1 - 1 = i by omega, List.getD_eq_getElem?_getD, h]
  rfl
theorem dpI_zero (bl : Bl) : dpI bl 0 = 0 := by
  have := dpI_app [] bl (b := 0) (by simp)
  rw [List.nil_append] at this
  rw [this]
  rfl
theorem dpI_succ {bl : Bl} (V : VT bl) {i : Nat} {p : Int × Int} (h : bl[i]? = some p) : dpI bl (i + 1) = dpI bl p.2.toNat + 1 := by
  have hi := (List.getElem?_eq_some_iff.mp h).1
  have e : bl = (bl.take i ++ [p]) ++ bl.drop (i + 1) := by
    have := (List.take_append_drop i bl).symm
    rw [List.drop_eq_getElem_cons hi, (List.getElem?_eq_some_iff.mp h).2] at this
    rw [List.append_assoc]
    exact this
  have hp := V i p h
  have hl : (bl.take i ++ [p]).length = i + 1 := by rw [List.length_append, List.length_take]; simp; omega
  have e1 : dpI bl (i + 1) = dpI (bl.take i ++ [p]) (i + 1) := by
    conv => lhs; rw [e]
    exact dpI_app _ _ (by omega)
  have e2 : dpI bl p.2.toNat = dpI (bl.take i) p.2.toNat := by
    have : dpI bl p.2.toNat = dpI (bl.take i ++ ([p] ++ bl.drop (i + 1))) p.2.toNat := by
      conv => lhs; rw [e]
      rw [List.append_assoc]
    rw [this]
    exact dpI_app _ _ (by rw [List.length_take]; omega)
  rw [e1, e2]
  show (dpl (bl.take i ++ [p])).getD (i + 1) 0 = _
  rw [dpl_snoc, List.getD_eq_getElem?_getD, List.getElem?_append_right (by rw [dpl_len, List.length_take]; omega), dpl_len, List.length_take]
  simp [show i + 1 - (min i bl.length + 1) = 0 by omega]
theorem slI_nn {bl : Bl} (V : VT bl) : ∀ b, b ≤ bl.length → 0 ≤ slI bl b := by
  intro b
  induction b using Nat.strongRecOn with
  | ind b ih =>
    intro hb
    cases b with
    | zero => rw [slI_zero]; omega
    | succ i =>
      obtain ⟨p, hp⟩ : ∃ p, bl[i]? = some p := ⟨bl[i], List.getElem?_eq_getElem (by omega)⟩
      obtain ⟨h1, h2, h3⟩ := V i p hp
      rw [slI_succ hp]
      have := ih p.2.toNat (by omega) (by omega)
      omega
theorem slN_cast {bl : Bl} (V : VT bl) {b : Nat} (hb : b ≤ bl.length) : ((slN bl b : Nat) : Int) = slI bl b := by
  unfold slN
  have := slI_nn V b hb
  omega
theorem VT.tree {bl : Bl} (V : VT bl) : ATree bl.length (slN bl) (paN bl) (dpI bl) := by
  refine ⟨rfl, dpI_zero bl, fun b h1 hb => ?_⟩
  obtain ⟨i, rfl⟩ : ∃ i, b = i + 1 := ⟨b - 1, by omega⟩
  obtain ⟨p, hp⟩ : ∃ p, bl[i]? = some p := ⟨bl[i], List.getElem?_eq_getElem (by omega)⟩
  obtain ⟨q1, q2, q3⟩ := V i p hp
  rw [paN_succ hp]
  refine ⟨by omega, ?_, dpI_succ V hp⟩
  have e1 := slN_cast V (b := p.2.toNat) (by omega)
  have e2 := slN_cast V (b := i + 1) hb
  rw [slI_succ hp] at e2
  omega
theorem VT.snoc {bl : Bl} (V : VT bl) {p : Int × Int} (h1 : 0 ≤ p.2) (h2 : p.2 ≤ bl.length) (h3 : slI bl p.2.toNat < p.1) : VT (bl ++ [p]) := by
  intro i q hq
  by_cases hi : i < bl.length
  · rw [List.getElem?_append_left hi] at hq
    obtain ⟨a, b, c⟩ := V i q hq
    exact ⟨a, b, by rw [slI_app _ _ (by omega)]; exact c⟩
  · rw [List.getElem?_append_right (by omega)] at hq
    have : i = bl.length := by
      have := (List.getElem?_eq_some_iff.mp hq).1
      simp at this
      omega
    subst this
    simp at hq
    subst hq
    exact ⟨h1, h2, by rw [slI_app _ _ (by omega)]; exact h3⟩
theorem VT.nil : VT [] := fun i p h => by simp at h
end LM

set_option Elab.async false
set_option linter.all false
set_option maxRecDepth 100000
set_option maxHeartbeats 4000000
set_option autoImplicit false
/-! BT1: what trees tell: the making of a tree, branches, last common blocks. -/
namespace LB
open VS TL LM
open L2 (atI ixN)
theorem lcO_ok {σ α β : Type} {c : β → σ → O σ Bool} {v : β → σ → O σ α} (f : β → Bool) (g : β → α) : ∀ (xs : List β) (s : σ), (∀ x ∈ xs, ∀ s, c x s = .ok (f x) s) → (∀ x ∈ xs, f x = true → ∀ s, v x s = .ok (g x) s) → lcO c v xs s = .ok ((xs.filter f).map g) s
  | [], _, _, _ => rfl
  | x :: xs, s, h1, h2 => by
    unfold lcO
    rw [h1 x (by simp), bind_ok, List.filter_cons]
    cases q : f x with
    | true =>
      rw [if_pos rfl, h2 x (by simp) q, bind_ok, lcO_ok f g xs s (fun y hy => h1 y (by simp [hy])) (fun y hy => h2 y (by simp [hy]))]
      rfl
    | false =>
      rw [if_neg (by simp), lcO_ok f g xs s (fun y hy => h1 y (by simp [hy])) (fun y hy => h2 y (by simp [hy]))]
      rfl
theorem enI_get {α : Type} : ∀ (l : List α) (k j : Nat), (enI k l)[j]? = (l[j]?).map fun x => (((k + j : Nat) : Int), x)
  | [], k, j => by simp [enI]
  | x :: l, k, 0 => by simp [enI]
  | x :: l, k, j + 1 => by
    show (enI (k + 1) l)[j]? = _
    rw [enI_get l (k + 1) j]
    simp only [List.getElem?_cons_succ]
    rw [show k + 1 + j = k + (j + 1) by omega]
theorem enI_len {α : Type} : ∀ (l : List α) (k : Nat), (enI k l).length = l.length
  | [], _ => rfl
  | x :: l, k => by show (enI (k + 1) l).length + 1 = l.length + 1; rw [enI_len l]
theorem rgI_mem2 {lo : Int} {n : Nat} {x : Int} : x ∈ rgI lo n ↔ lo ≤ x ∧ x < lo + n := by
  unfold rgI
  rw [List.mem_map]
  constructor
  · rintro ⟨i, hi, rfl⟩
    rw [List.mem_range] at hi
    omega
  · rintro ⟨h1, h2⟩
    exact ⟨(x - lo).toNat, List.mem_range.mpr (by omega), by omega⟩
/-- a tree of pairs -/
def mkT (bl : Bl) : Tree := ⟨bl, 0 :: bl.map (·.1), none :: bl.map (fun p => some p.2), dpl bl⟩
theorem at_cast {α : Type} {l : List α} {b : Nat} {x : α} (h : l[b]? = some x) : atI l (b : Int) = some x := by
  have hl := (List.getElem?_eq_some_iff.mp h).1
  rw [atI_get (by omega) (by omega), Int.toNat_natCast, h]
theorem at_slot (bl : Bl) {b : Nat} (hb : b ≤ bl.length) : atI (mkT bl).slots (b : Int) = some (slI bl b) := by
  refine at_cast ?_
  show ((0 : Int) :: bl.map (·.1))[b]? = _
  unfold slI
  rw [List.getD_eq_getElem?_getD, List.getElem?_eq_getElem (by simp; omega)]
  rfl
theorem at_depth (bl : Bl) {b : Nat} (hb : b ≤ bl.length) : atI (mkT bl).depths (b : Int) = some (dpI bl b) := by
  refine at_cast ?_
  show (dpl bl)[b]? = _
  unfold dpI
  rw [List.getD_eq_getElem?_getD, List.getElem?_eq_getElem (by rw [dpl_len]; omega)]
  rfl
theorem at_parent {bl : Bl} (V : VT bl) {b : Nat} (h1 : 1 ≤ b) (hb : b ≤ bl.length) : atI (mkT bl).parents (b : Int) = some (some ((paN bl b : Nat) : Int)) := by
  obtain ⟨i, rfl⟩ : ∃ i, b = i + 1 := ⟨b - 1, by omega⟩
  obtain ⟨p, hp⟩ : ∃ p, bl[i]? = some p := ⟨bl[i], List.getElem?_eq_getElem (by omega)⟩
  refine at_cast ?_
  show ((none : Option Int) :: bl.map (fun p => some p.2))[i + 1]? = _
  rw [List.getElem?_cons_succ, List.getElem?_map, hp, paN_succ hp]
  have := (V i p hp).1
  simp only [Option.map_some]
  congr 2
  omega
theorem v_tin (bl : Bl) {b : Int} : d_Tree__contains (mkT bl) b = .ok (decide (0 ≤ b) && decide (b < (bl.length : Int) + 1)) () := by
  unfold d_Tree__contains
  rw [is_int]
  simp only [bind_ok, if_true]
  have : (((mkT bl).slots.length : Nat) : Int) = (bl.length : Int) + 1 := by
    show ((((0 : Int) :: bl.map (·.1)).length : Nat) : Int) = _
    rw [List.length_cons, List.length_map]
    omega
  rw [this]
theorem v_stand {bl : Bl} {slot : Int} {p : Nat} (hp : p ≤ bl.length) : d_Tree_can_stand (mkT bl) slot (p : Int) = .ok (decide (slI bl p < slot)) () := by
  unfold d_Tree_can_stand
  rw [is_int, v_tin]
  have e : (decide ((0 : Int) ≤ (p : Int)) && decide ((p : Int) < (bl.length : Int) + 1)) = true := by
    rw [Bool.and_eq_true, decide_eq_true_eq, decide_eq_true_eq]; omega
  rw [e]
  simp only [bind_ok, if_true, Bool.xor_false, at_slot bl hp, ofO_some]
theorem v_tinit {bl : Bl} (V : VT bl) (hl : bl.length ≤ 100000) : d_Tree__init bl = .ok (mkT bl) () := by
  unfold d_Tree__init
  refine eq_of_sat ?_
  show Sat (O.bind _ _) _
  refine sat_bindE (b := false) rfl ?_
  rw [if_neg (by simp)]
  dsimp only
  refine sat_bind (sat_fold (fun pre (v : Bl × List Int × List (Option Int) × List Int) _ => ∃ q : Bl, pre = enI 0 q ∧ (∃ r, bl = q ++ r) ∧ v = (q, (mkT q).slots, (mkT q).parents, (mkT q).depths)) ⟨[], rfl, ⟨bl, rfl⟩, rfl⟩ ?_) ?_
  · rintro pre x post v ⟨⟩ e ⟨q, rfl, ⟨r, rfl⟩, rfl⟩
    have hx : (enI 0 (q ++ r))[q.length]? = some x := by rw [e, List.getElem?_append_right (by rw [enI_len]; omega), enI_len]; simp
    rw [enI_get] at hx
    cases r with
    | nil => rw [List.append_nil, List.getElem?_eq_none (by omega)] at hx; cases hx
    | cons p r =>
      rw [List.getElem?_append_right (by omega)] at hx
      simp only [Nat.sub_self, List.getElem?_cons_zero, Option.map_some] at hx
      cases hx
      have hq : (q ++ p :: r)[q.length]? = some p := by simp
      obtain ⟨v1, v2, v3⟩ := V q.length p hq
      have hlq : q.length ≤ 99999 := by rw [List.length_append, List.length_cons] at hl; omega
      obtain ⟨m, em⟩ : ∃ m : Nat, p.2 = m := ⟨p.2.toNat, by omega⟩
      have em' : p.2.toNat = m := by omega
      rw [em', slI_app _ _ (by omega)] at v3
      have hcs : d_Tree_can_stand (mkT q) p.1 p.2 = .ok true () := by
        rw [em, v_stand (by omega)]
        rw [decide_eq_true v3]
      have hdp : atI (mkT q).depths p.2 = some (dpI q m) := by rw [em]; exact at_depth q (by omega)
      have hmk : (Tree.mk q (mkT q).slots (mkT q).parents (mkT q).depths) = mkT q := rfl
      have l1 : (mkT q).slots.length < 1000000 := by show ((0 : Int) :: q.map (·.1)).length < _; rw [List.length_cons, List.length_map]; omega
      have l2 : (mkT q).parents.length < 1000000 := by show ((none : Option Int) :: q.map (fun p => some p.2)).length < _; rw [List.length_cons, List.length_map]; omega
      have l3 : (mkT q).depths.length < 1000000 := by show (dpl q).length < _; rw [dpl_len]; omega
      show Sat (O.bind (O.bind (O.bind (O.ok true ()) _) _) _) _
      simp only [bind_ok, Bool.not_true, Bool.false_eq_true, if_false, decide_true, hmk, hcs, noEx, hdp, ofO_some]
      rw [appO_ok (by omega), bind_ok, appO_ok l1, bind_ok, appO_ok l2, bind_ok, appO_ok l3, bind_ok]
      refine sat_ok ⟨q ++ [p], ?_, ⟨r, by simp⟩, ?_⟩
      · apply List.ext_getElem?
        intro j
        rw [enI_get]
        by_cases hj : j < q.length
        · rw [List.getElem?_append_left (by rw [enI_len]; exact hj), List.getElem?_append_left hj, enI_get]
        · rw [List.getElem?_append_right (by rw [enI_len]; omega), List.getElem?_append_right (by omega), enI_len]
          by_cases hj2 : j = q.length
          · subst hj2; simp
          · rw [List.getElem?_eq_none (by simp; omega), List.getElem?_eq_none (by simp; omega)]
            rfl
      · show (q ++ [(p.1, p.2)], (mkT q).slots ++ [p.1], (mkT q).parents ++ [some p.2], (mkT q).depths ++ [dpI q m + 1]) = _
        refine Prod.ext rfl (Prod.ext ?_ (Prod.ext ?_ ?_))
        · show ((0 : Int) :: q.map (·.1)) ++ [p.1] = (0 : Int) :: (q ++ [p]).map (·.1)
          simp
        · show ((none : Option Int) :: q.map (fun p => some p.2)) ++ [some p.2] = (none : Option Int) :: (q ++ [p]).map (fun p => some p.2)
          simp
        · show dpl q ++ [dpI q m + 1] = dpl (q ++ [p])
          rw [dpl_snoc, em']
  · rintro v ⟨⟩ ⟨q, e, ⟨r, e2⟩, rfl⟩
    have : q = bl := by
      have h1 := congrArg List.length e
      rw [enI_len, enI_len] at h1
      have h2 := congrArg List.length e2
      rw [List.length_append] at h2
      have : r = [] := List.length_eq_zero_iff.mp (by omega)
      rw [this, List.append_nil] at e2
      exact e2.symm
    subst this
    exact sat_ok rfl
end LB

set_option Elab.async false
set_option linter.all false
set_option maxRecDepth 100000
set_option maxHeartbeats 400000
set_option autoImplicit false
/-! FA: the order of forms: sorted forms do not hang on the order ahead. -/
namespace LB
open VS
open PySem PySem.W PyProof.Rows
theorem toks_inj : ∀ (f g : Fm) (l m : List (Int ⊕ List Nat)), keyToksAll (encs f) ++ l = keyToksAll (encs g) ++ m → f = g ∧ l = m
  | .nil, .nil, l, m, h => by
    simp only [encs, keyToksAll, List.cons_append, List.nil_append, List.cons.injEq, true_and] at h
    exact ⟨rfl, h⟩
  | .nil, .cons j t u, l, m, h => by
    simp only [encs, keyToksAll, List.cons_append, List.nil_append, List.cons.injEq] at h
    have := Sum.inl.inj h.1
    omega
  | .cons i s r, .nil, l, m, h => by
    simp only [encs, keyToksAll, List.cons_append, List.nil_append, List.cons.injEq] at h
    have := Sum.inl.inj h.1
    omega
  | .cons i s r, .cons j t u, l, m, h => by
    simp only [encs, keyToksAll, keyToks, List.cons_append, List.nil_append, List.append_assoc, List.cons.injEq, true_and] at h
    obtain ⟨h1, h2⟩ := h
    obtain ⟨rfl, h3⟩ := toks_inj s t _ _ h2
    simp only [List.cons.injEq, true_and] at h3
    obtain ⟨rfl, h4⟩ := toks_inj r u _ _ h3
    exact ⟨by rw [Sum.inl.inj h1], h4⟩
theorem encI_inj {a b : Int × Fm} (h : keyToks (encI a) = keyToks (encI b)) : a = b := by
  obtain ⟨i, s⟩ := a
  obtain ⟨j, t⟩ := b
  have e : ∀ (i : Int) (s : Fm), keyToksAll (encs (.cons i s .nil)) = .inl 1 :: (keyToks (encI (i, s)) ++ [.inl 0]) := fun i s => by
    simp only [encs, keyToksAll, encI]
  have := toks_inj (.cons i s .nil) (.cons j t .nil) [] [] (by rw [List.append_nil, List.append_nil, e, e, h])
  injection this.1 with h1 h2 h3
  rw [h1, h2]
theorem fle_total : TotalLe (dataLe false encI) := sortLe_total _ _ _
theorem fle_anti {a b : Int × Fm} (h1 : dataLe false encI a b = true) (h2 : dataLe false encI b a = true) : a = b := by
  have h1 : (!(listOrd itemOrd).blt (keyToks (encI b)) (keyToks (encI a))) = true := h1
  have h2 : (!(listOrd itemOrd).blt (keyToks (encI a)) (keyToks (encI b))) = true := h2
  rw [Bool.not_eq_true'] at h1 h2
  exact encI_inj ((listOrd itemOrd).total _ _ h2 h1)
theorem sortFm_perm {l m : List (Int × Fm)} (h : l.Perm m) : sortFm l = sortFm m := by
  unfold sortFm
  exact List.Perm.eq_of_pairwise (le := fun a b => dataLe false encI a b = true) (fun a b _ _ h1 h2 => fle_anti h1 h2) (sort_pairwise fle_total l) (sort_pairwise fle_total m) ((List.mergeSort_perm l _).trans (h.trans (List.mergeSort_perm m _).symm))
theorem sortFm_sorted {l m : List (Int × Fm)} (h : l.Perm m) (hs : m.Pairwise fun a b => dataLe false encI a b = true) : sortFm l = m := by
  unfold sortFm
  exact List.Perm.eq_of_pairwise (le := fun a b => dataLe false encI a b = true) (fun a b _ _ h1 h2 => fle_anti h1 h2) (sort_pairwise fle_total l) hs ((List.mergeSort_perm l _).trans h)
theorem fle_lt {i j : Int} {s t : Fm} (h : i < j) : dataLe false encI (i, s) (j, t) = true := by
  show (!(listOrd itemOrd).blt (keyToks (encI (j, t))) (keyToks (encI (i, s)))) = true
  rw [Bool.not_eq_true']
  have e : ∀ (i : Int) (s : Fm), keyToks (encI (i, s)) = .inl 1 :: .inl i :: .inl 1 :: (keyToksAll (encs s) ++ [.inl 0]) := fun i s => by
    simp only [encI, keyToks, keyToksAll, List.cons_append, List.nil_append, List.append_assoc]
  rw [e, e]
  show PyProof.Rows.lexLt itemOrd (.inl 1 :: .inl j :: .inl 1 :: _) (.inl 1 :: .inl i :: .inl 1 :: _) = false
  rw [lex_self (O := itemOrd)]
  refine (lex_false (O := itemOrd)).mpr ⟨?_, .inl ?_⟩
  · show decide (j < i) = false
    simp; omega
  · show decide (i < j) = true
    simp; omega
theorem sortFm_nil : sortFm [] = [] := by
  unfold sortFm
  simp
theorem sortFm_one (x : Int × Fm) : sortFm [x] = [x] := by
  unfold sortFm
  simp
theorem mem_sortFm {l : List (Int × Fm)} {x : Int × Fm} : x ∈ sortFm l ↔ x ∈ l := by
  unfold sortFm
  exact (List.mergeSort_perm l _).mem_iff
theorem fmL_inj {a b : List (Int × Fm)} (h : fmL a = fmL b) : a = b := by
  rw [← items_fmL a, ← items_fmL b, h]
theorem deepN_fmL {k : Nat} : ∀ {l : List (Int × Fm)}, (∀ x ∈ l, deepN x.2 + 2 ≤ k) → deepN (fmL l) ≤ k
  | [], _ => Nat.zero_le _
  | (i, s) :: r, h => by
    show max (deepN s + 2) (deepN (fmL r)) ≤ k
    have h1 := h (i, s) (.head _)
    have h2 := deepN_fmL (l := r) fun x hx => h x (.tail _ hx)
    simp only at h1
    omega
/-! ### forms of trees -/
open LM
/-- the blocks behind c that stand on p -/
def kdB (bl : Bl) (p c : Nat) : List Nat := (List.range' (c + 1) (bl.length - c)).filter fun b => decide (paN bl b = p)
theorem mem_kd {bl : Bl} {p c b : Nat} : b ∈ kdB bl p c ↔ c < b ∧ b ≤ bl.length ∧ paN bl b = p := by
  unfold kdB
  rw [List.mem_filter, List.mem_range'_1, decide_eq_true_eq]
  omega
theorem kd_step {bl : Bl} {p b : Nat} (h1 : 1 ≤ b) (h2 : b ≤ bl.length) : kdB bl p (b - 1) = if paN bl b = p then b :: kdB bl p b else kdB bl p b := by
  unfold kdB
  rw [show b - 1 + 1 = b by omega, show bl.length - (b - 1) = (bl.length - b) + 1 by omega, List.range'_succ, List.filter_cons]
  by_cases q : paN bl b = p
  · rw [if_pos q, if_pos (by simp [q])]
  · rw [if_neg q, if_neg (by simp [q])]
theorem kd_end (bl : Bl) (p : Nat) : kdB bl p bl.length = [] := by
  unfold kdB
  rw [Nat.sub_self]; rfl
theorem pa_lt {bl : Bl} (V : VT bl) {b : Nat} (h1 : 1 ≤ b) (h2 : b ≤ bl.length) : paN bl b < b := by
  obtain ⟨i, rfl⟩ : ∃ i, b = i + 1 := ⟨b - 1, by omega⟩
  obtain ⟨p, hp⟩ : ∃ p, bl[i]? = some p := ⟨bl[i], List.getElem?_eq_getElem (by omega)⟩
  rw [paN_succ hp]
  have := V i p hp
  omega
theorem kd_all {bl : Bl} (V : VT bl) {p : Nat} : ∀ c, c ≤ p → p ≤ bl.length → kdB bl p c = kdB bl p 0 := by
  intro c
  induction c with
  | zero => intros; rfl
  | succ c ih =>
    intro h1 h2
    rw [← ih (by omega) h2]
    have := kd_step (bl := bl) (p := p) (b := c + 1) (by omega) (by omega)
    rw [show c + 1 - 1 = c by omega] at this
    rw [this, if_neg]
    have := pa_lt V (b := c + 1) (by omega) (by omega)
    omega
theorem kd_nodup (bl : Bl) (p c : Nat) : (kdB bl p c).Nodup := List.Nodup.sublist List.filter_sublist (List.nodup_range')
/-- the form of what stands on a block, so many steps deep -/
def fmG : Nat → Bl → Nat → List (Int × Fm)
  | 0, _, _ => []
  | n + 1, bl, p => sortFm ((kdB bl p 0).map fun b => (slI bl b, fmL (fmG n bl b)))
theorem fmG_any {bl : Bl} (V : VT bl) : ∀ (n m : Nat) (b : Nat), bl.length < n + b → bl.length < m + b → fmG n bl b = fmG m bl b
  | 0, 0, _, _, _ => rfl
  | 0, m + 1, b, h, _ => by
    have : kdB bl b 0 = [] := List.eq_nil_iff_forall_not_mem.mpr fun x hx => by
      obtain ⟨h1, h2, h3⟩ := mem_kd.mp hx
      have := pa_lt V (b := x) (by omega) h2
      omega
    rw [fmG, fmG, this, List.map_nil, sortFm_nil]
  | n + 1, 0, b, _, h => by
    have : kdB bl b 0 = [] := List.eq_nil_iff_forall_not_mem.mpr fun x hx => by
      obtain ⟨h1, h2, h3⟩ := mem_kd.mp hx
      have := pa_lt V (b := x) (by omega) h2
      omega
    rw [fmG, fmG, this, List.map_nil, sortFm_nil]
  | n + 1, m + 1, b, h1, h2 => by
    rw [fmG, fmG]
    congr 1
    refine List.map_congr_left fun x hx => ?_
    obtain ⟨q1, q2, q3⟩ := mem_kd.mp hx
    have := pa_lt V (b := x) (by omega) q2
    rw [fmG_any V n m x (by omega) (by omega)]
/-- the form of what stands on a block -/
def fm (bl : Bl) (b : Nat) : List (Int × Fm) := fmG (bl.length + 1 - b) bl b
theorem fm_eq {bl : Bl} (V : VT bl) {b : Nat} (hb : b ≤ bl.length) : fm bl b = sortFm ((kdB bl b 0).map fun c => (slI bl c, fmL (fm bl c))) := by
  unfold fm
  rw [show bl.length + 1 - b = (bl.length - b) + 1 by omega, fmG]
  congr 1
  refine List.map_congr_left fun x hx => ?_
  obtain ⟨q1, q2, q3⟩ := mem_kd.mp hx
  have := pa_lt V (b := x) (by omega) q2
  rw [fmG_any V (bl.length - b) (bl.length + 1 - x) x (by omega) (by omega)]
theorem fmG_fm {bl : Bl} (V : VT bl) {n b : Nat} (hb : b ≤ bl.length) (h : bl.length < n + b) : fmG n bl b = fm bl b := fmG_any V _ _ b h (by omega)
theorem fmG_deep (bl : Bl) : ∀ (n b : Nat), deepN (fmL (fmG n bl b)) ≤ 2 * n
  | 0, _ => by rw [fmG]; exact Nat.zero_le _
  | n + 1, b => by
    rw [fmG]
    refine deepN_fmL fun x hx => ?_
    rw [mem_sortFm, List.mem_map] at hx
    obtain ⟨c, _, rfl⟩ := hx
    have := fmG_deep bl n c
    simp only
    omega
/-- trees that are the same but for the numbers of their blocks have the same form -/
theorem fmG_iso {bl ot : Bl} {q : Nat → Nat} (hl : ot.length = bl.length) (h0 : q 0 = 0) (hr : ∀ b, 1 ≤ b → b ≤ bl.length → 1 ≤ q b ∧ q b ≤ bl.length ∧ slI ot (q b) = slI bl b ∧ paN ot (q b) = q (paN bl b))
    (hi : ∀ a b, a ≤ bl.length → b ≤ bl.length → q a = q b → a = b) (hs : ∀ c, 1 ≤ c → c ≤ bl.length → ∃ b, 1 ≤ b ∧ b ≤ bl.length ∧ q b = c) (hp : ∀ b, 1 ≤ b → b ≤ bl.length → paN bl b ≤ bl.length) :
    ∀ (n b : Nat), b ≤ bl.length → fmG n ot (q b) = fmG n bl b
  | 0, _, _ => rfl
  | n + 1, b, hb => by
    rw [fmG, fmG]
    refine sortFm_perm ?_
    have e : (kdB ot (q b) 0).Perm ((kdB bl b 0).map q) := by
      refine (List.perm_ext_iff_of_nodup (kd_nodup _ _ _) ?_).mpr fun c => ?_
      · unfold List.Nodup
        rw [List.pairwise_map]
        refine (kd_nodup bl b 0).imp_of_mem fun {x y} hx hy hn he => hn ?_
        exact hi x y (mem_kd.mp hx).2.1 (mem_kd.mp hy).2.1 he
      · rw [mem_kd, List.mem_map]
        constructor
        · rintro ⟨h1, h2, h3⟩
          obtain ⟨x, x1, x2, rfl⟩ := hs c (by omega) (by omega)
          refine ⟨x, mem_kd.mpr ⟨by omega, x2, hi _ _ (hp x x1 x2) hb ?_⟩, rfl⟩
          rw [← (hr x x1 x2).2.2.2, h3]
        · rintro ⟨x, hx, rfl⟩
          obtain ⟨x1, x2, x3⟩ := mem_kd.mp hx
          have := hr x (by omega) x2
          exact ⟨by omega, by omega, by rw [this.2.2.2, x3]⟩
    refine (e.map _).trans ?_
    rw [List.map_map]
    refine List.Perm.of_eq (List.map_congr_left fun x hx => ?_)
    obtain ⟨x1, x2, x3⟩ := mem_kd.mp hx
    have := hr x (by omega) x2
    simp only [Function.comp_apply, this.2.2.1]
    rw [fmG_iso hl h0 hr hi hs hp n x x2]
end LB

set_option Elab.async false
set_option linter.all false
set_option maxRecDepth 100000
set_option maxHeartbeats 400000
set_option autoImplicit false
/-! FB: k42: the law's form, the tree's form; equality of forms. -/
namespace LB
open VS TL LM
open L2 (atI ixN)
def fF (l : List (Int × Fm)) : F := F.tup (l.map itF)
def prF (b : Int × Fm) : Int × F := (b.1, F.tup (fmFs b.2))
theorem fF_fmL (l : List (Int × Fm)) : F.tup (fmFs (fmL l)) = fF l := by
  rw [fmFs_items, items_fmL]; rfl
theorem prF_fmL (i : Int) (l : List (Int × Fm)) : prF (i, fmL l) = (i, fF l) := by
  unfold prF
  rw [fF_fmL]
theorem e_prF (l : List (Int × Fm)) : (l.map prF).map En.e = l.map itF := by
  rw [List.map_map]; rfl
theorem en_fF (l : List (Int × Fm)) : (En.e (Tu.mk (l.map prF)) : F) = fF l := by
  show F.tup ((l.map prF).map En.e) = _
  rw [e_prF]; rfl
theorem srt_ok {l : List (Int × Fm)} (h : ∀ b ∈ l, deepN b.2 ≤ 190) : srtFm (l.map prF) = some ((sortFm l).map prF) := by
  unfold srtFm
  rw [e_prF]
  have e : fmOf (l.map itF) = some (fmL l) := by
    have := fmOf_fs (fmL l)
    rw [fmFs_items, items_fmL] at this
    exact this
  rw [e]
  show (if _ then _ else _) = _
  rw [if_pos (by rw [items_fmL]; exact List.all_eq_true.mpr fun x hx => decide_eq_true (h x hx)), items_fmL]
  rfl
theorem enI_split {α : Type} {l : List α} {pre post : List (Int × α)} {x : Int × α} (e : enI 0 l = pre ++ x :: post) : x.1 = (pre.length : Int) ∧ l[pre.length]? = some x.2 := by
  have h : (enI 0 l)[pre.length]? = some x := by rw [e]; simp
  rw [enI_get] at h
  cases q : l[pre.length]? with
  | none => rw [q] at h; cases h
  | some y =>
    rw [q] at h
    cases h
    exact ⟨by simp, rfl⟩
theorem v_lform {bl : Bl} (V : VT bl) (hl : bl.length ≤ 1000) : ∀ (n p : Nat), n ≤ 90 → p ≤ bl.length → bl.length < n + p → d_law_form n bl (p : Int) = .ok (fF (fmG n bl p)) ()
  | 0, p, _, h1, h2 => by omega
  | n + 1, p, hn, h1, h2 => by
    rw [d_law_form]
    unfold d_law_form_s
    dsimp only
    refine eq_of_sat (sat_bind (sat_fold (fun pre v _ => v = (((List.range' 1 pre.length).filter fun b => decide (paN bl b = p)).map fun b => ((slI bl b, fmL (fmG n bl b)) : Int × Fm)).map prF) rfl ?_) ?_)
    · rintro pre x post v ⟨⟩ e rfl
      obtain ⟨e1, e2⟩ := enI_split e
      have hlt := (List.getElem?_eq_some_iff.mp e2).1
      obtain ⟨v1, v2, v3⟩ := V _ _ e2
      have hpa := paN_succ e2
      rw [List.length_append, List.length_singleton, List.range'_concat, List.filter_append, List.map_append, List.map_append]
      have e3 : (1 + 1 * pre.length : Nat) = pre.length + 1 := by omega
      rw [e3]
      have hsz : ((((List.range' 1 pre.length).filter fun b => decide (paN bl b = p)).map fun b => ((slI bl b, fmL (fmG n bl b)) : Int × Fm)).map prF).length ≤ 1000 := by
        rw [List.length_map, List.length_map]
        refine Nat.le_trans (List.length_filter_le _ _) ?_
        rw [List.length_range']; omega
      by_cases q : paN bl (pre.length + 1) = p
      · rw [if_pos (decide_eq_true (by omega)), e1, show ((pre.length : Int) + 1) = ((pre.length + 1 : Nat) : Int) by omega, v_lform V hl n (pre.length + 1) (by omega) (by omega) (by omega)]
        simp only [bind_ok]
        rw [appO_ok (by omega)]
        simp only [bind_ok]
        refine sat_ok ?_
        rw [List.filter_cons_of_pos (p := fun b => decide (paN bl b = p)) (by exact decide_eq_true q), List.filter_nil, List.map_cons, List.map_nil, List.map_cons, List.map_nil, prF_fmL, slI_succ e2]
      · rw [if_neg (by simp; omega), List.filter_cons_of_neg (p := fun b => decide (paN bl b = p)) (by simp [q]), List.filter_nil, List.map_nil, List.map_nil, List.append_nil]
        exact sat_bindE rfl (sat_ok rfl)
    · rintro v ⟨⟩ rfl
      rw [enI_len, srt_ok]
      · simp only [bind_ok, ofO_some]
        refine sat_ok ?_
        rw [en_fF, fmG]
        rfl
      · intro b hb
        rw [List.mem_map] at hb
        obtain ⟨c, _, rfl⟩ := hb
        have := fmG_deep bl n c
        simp only
        omega
theorem ixN_nn {m k : Nat} (h : k < m) : ixN m (k : Int) = some k := by
  unfold L2.ixN
  rw [if_pos (by omega), if_pos (by omega), Int.toNat_natCast]
theorem rg3_ok {σ : Type} {n : Nat} (h : n ≤ 1000000) (s : σ) : rg3 (n : Int) 0 s = .ok (rgD n n) s := by
  unfold rg3
  rw [if_pos ⟨by unfold smI; rw [inRg_iff]; omega, by decide⟩]
  simp only [ofO_some, Int.sub_zero, Int.toNat_natCast]
theorem rgD_get (n k : Nat) (h : k < n) : (rgD n n)[k]? = some ((n : Int) - k) := by
  unfold rgD
  rw [List.getElem?_map, List.getElem?_range h]
  rfl
theorem rgD_len (n : Nat) : (rgD n n).length = n := by unfold rgD; simp
theorem v_tform {bl : Bl} (V : VT bl) (hl : bl.length ≤ 1000) (hd : ∀ c, 1 ≤ c → c ≤ bl.length → deepN (fmL (fm bl c)) ≤ 190) : d_Tree_form (mkT bl) = .ok (fF (fm bl 0)) () := by
  have hb : ∀ (ks : List Nat) (p : Nat), ks.Perm (kdB bl p 0) → p ≤ bl.length → srtFm ((ks.map fun b => ((slI bl b, fmL (fm bl b)) : Int × Fm)).map prF) = some ((fm bl p).map prF) := fun ks p hp h => by
    rw [srt_ok, sortFm_perm (hp.map _), ← fm_eq V h]
    intro b hb
    rw [List.mem_map] at hb
    obtain ⟨c, hc, rfl⟩ := hb
    obtain ⟨c1, c2, c3⟩ := mem_kd.mp (hp.mem_iff.mp hc)
    exact hd c (by omega) c2
  unfold d_Tree_form d_TreeForm
  have hlen : (mkT bl).slots.length = bl.length + 1 := by
    show ((0 : Int) :: bl.map (·.1)).length = _
    simp
  have hv : d_Tree__len (mkT bl) = .ok (bl.length : Int) () := rfl
  refine eq_of_sat ?_
  rw [hlen, hv]
  unfold famO
  rw [if_pos ⟨by omega, by omega⟩]
  simp only [bind_ok]
  rw [lenI_ok (by omega) (by omega)]
  simp only [bind_ok]
  rw [rg3_ok (by omega)]
  simp only [bind_ok]
  refine sat_bind (sat_fold (fun pre (v : List (List (Int × F))) _ => v.length = bl.length + 1 ∧ ∀ p, p ≤ bl.length → ∃ ks : List Nat, v[p]? = some ((ks.map fun b => ((slI bl b, fmL (fm bl b)) : Int × Fm)).map prF) ∧ ks.Perm (kdB bl p (bl.length - pre.length))) ⟨by simp, fun p hp => ⟨[], ?_, ?_⟩⟩ ?_) ?_
  · rw [List.getElem?_replicate, if_pos (by omega)]; rfl
  · rw [List.length_nil, Nat.sub_zero, kd_end]
  · rintro pre x post v ⟨⟩ e ⟨h1, h2⟩
    have hlt : pre.length < bl.length := by
      have := congrArg List.length e
      rw [rgD_len, List.length_append, List.length_cons] at this
      omega
    have ex : x = ((bl.length - pre.length : Nat) : Int) := by
      have : (rgD bl.length bl.length)[pre.length]? = some x := by rw [e]; simp
      rw [rgD_get _ _ hlt] at this
      have := Option.some.inj this
      omega
    obtain ⟨b, hbe⟩ : ∃ b, b = bl.length - pre.length := ⟨_, rfl⟩
    rw [← hbe] at ex
    subst ex
    have hpa := pa_lt V (b := b) (by omega) (by omega)
    obtain ⟨kb, kb1, kb2⟩ := h2 b (by omega)
    obtain ⟨kp, kp1, kp2⟩ := h2 (paN bl b) (by omega)
    rw [← hbe] at kb2 kp2
    rw [kd_all V b (Nat.le_refl _) (by omega)] at kb2
    rw [at_parent V (by omega) (by omega)]
    simp only [ofO_some, bind_ok]
    rw [h1, ixN_nn (k := paN bl b) (by omega), ixN_nn (k := b) (by omega), at_slot bl (by omega)]
    simp only [ofO_some, bind_ok]
    rw [kb1]
    simp only [ofO_some, bind_ok]
    rw [hb kb b kb2 (by omega)]
    simp only [ofO_some, bind_ok]
    rw [en_fF]
    unfold appF
    rw [kp1]
    have hkl : ((kp.map fun b => ((slI bl b, fmL (fm bl b)) : Int × Fm)).map prF).length ≤ 1000 := by
      rw [List.length_map, List.length_map, kp2.length_eq]
      unfold kdB
      refine Nat.le_trans (List.length_filter_le _ _) ?_
      rw [List.length_range']; omega
    simp only
    rw [if_pos (by omega)]
    simp only [bind_ok]
    refine sat_ok ⟨by rw [List.length_set]; exact h1, fun p hp => ?_⟩
    have hs := kd_step (bl := bl) (p := p) (b := b) (by omega) (by omega)
    rw [List.length_append, List.length_singleton, show bl.length - (pre.length + 1) = b - 1 by omega, hs]
    by_cases q : paN bl b = p
    · subst q
      rw [if_pos rfl, List.getElem?_set_self (by omega)]
      refine ⟨kp ++ [b], ?_, (List.perm_append_comm.trans (kp2.cons b))⟩
      rw [List.map_append, List.map_append, List.map_cons, List.map_nil, List.map_cons, List.map_nil, prF_fmL]
    · rw [if_neg q, List.getElem?_set_ne q]
      obtain ⟨k, k1, k2⟩ := h2 p hp
      rw [← hbe] at k2
      exact ⟨k, k1, k2⟩
  · rintro v ⟨⟩ ⟨h1, h2⟩
    rw [rgD_len, Nat.sub_self] at h2
    obtain ⟨k, k1, k2⟩ := h2 0 (Nat.zero_le _)
    rw [h1, show (0 : Int) = ((0 : Nat) : Int) from rfl, ixN_nn (by omega)]
    simp only [ofO_some, bind_ok]
    rw [k1]
    simp only [ofO_some, bind_ok]
    rw [hb k 0 k2 (Nat.zero_le _)]
    simp only [ofO_some, bind_ok]
    exact sat_ok (en_fF _)
/-! ### equality of forms -/
theorem eqv_encs : ∀ f g : Fm, PySem.PyData.eqvAll (encs f) (encs g) = true ↔ f = g
  | .nil, .nil => by simp [encs, PySem.PyData.eqvAll]
  | .nil, .cons _ _ _ => by simp [encs, PySem.PyData.eqvAll]
  | .cons _ _ _, .nil => by simp [encs, PySem.PyData.eqvAll]
  | .cons i s r, .cons j t u => by
    have h1 := eqv_encs s t
    have h2 := eqv_encs r u
    simp only [encs, PySem.PyData.eqvAll, PySem.PyData.eqv, Bool.and_eq_true, h1, h2, beq_iff_eq, and_true]
    constructor
    · rintro ⟨⟨rfl, rfl⟩, rfl⟩; rfl
    · rintro ⟨⟩; exact ⟨⟨rfl, rfl⟩, rfl⟩
theorem lay_encs : ∀ f : Fm, PySem.PyData.canLayAll0 (encs f) = true
  | .nil => by simp [encs, PySem.PyData.canLayAll0]
  | .cons i s r => by simp [encs, PySem.PyData.canLayAll0, PySem.PyData.canLay0, lay_encs s, lay_encs r]
theorem eqA_form {a b : List (Int × Fm)} (ha : deepN (fmL a) ≤ 60) (hb : deepN (fmL b) ≤ 60) : ∃ c, eqA (fF a) (fF b) = some c ∧ (c = true ↔ a = b) := by
  have e : ∀ a : List (Int × Fm), toD (fF a) = some (.tuple (encs (fmL a))) := fun a => by
    rw [← fF_fmL]
    simp [toD, toD_fs]
  have s : ∀ a : List (Int × Fm), deepN (fmL a) ≤ 60 → PySem.SeqAt.shaped (.tuple (encs (fmL a))) = true := fun a h => by
    unfold PySem.SeqAt.shaped
    simp only [PySem.PyData.canLay0, lay_encs, PySem.PyData.depth, depth_encs, Bool.true_and, decide_eq_true_eq]
    omega
  refine ⟨PySem.PyData.eqv (.tuple (encs (fmL a))) (.tuple (encs (fmL b))), ?_, ?_⟩
  · show eqD (fF a) (fF b) = _
    unfold eqD
    rw [e, e]
    simp only [Option.bind_some, s a ha, s b hb, Bool.and_self, if_true]
  · simp only [PySem.PyData.eqv]
    rw [eqv_encs]
    exact ⟨fmL_inj, fun h => by rw [h]⟩
theorem fm_deep (bl : Bl) (b : Nat) : deepN (fmL (fm bl b)) ≤ 2 * (bl.length + 1 - b) := fmG_deep _ _ _
/-! ### sameness of forms -/
theorem okPs_of {n : Nat} : ∀ {xs : List F}, (∀ x ∈ xs, okP n x = true) → okPs n xs = true
  | [], _ => by simp [okPs]
  | x :: xs, h => by simp [okPs, h x (.head _), okPs_of (xs := xs) fun y hy => h y (.tail _ hy)]
theorem okP_tup {n : Nat} {xs : List F} (hl : xs.length ≤ 1000000) (h : ∀ x ∈ xs, okP n x = true) : okP (n + 1) (.tup xs) = true := by
  rw [okP, okPs_of h]
  unfold small
  simp [hl]
theorem okP_lst {n : Nat} {xs : List F} (hl : xs.length ≤ 1000000) (h : ∀ x ∈ xs, okP n x = true) : okP (n + 1) (.lst xs) = true := by
  rw [okP, okPs_of h]
  unfold small
  simp [hl]
theorem okP_up : ∀ (n : Nat) (x : F), okP n x = true → okP (n + 1) x = true
  | _, .non, _ => by simp [okP]
  | _, .bl _, _ => by simp [okP]
  | _, .int _, _ => by simp [okP]
  | _, .str _, h => by simpa [okP] using h
  | n + 1, .lst xs, h => by
    rw [okP, Bool.and_eq_true] at h
    exact okP_lst (by have := h.1; unfold small at this; exact of_decide_eq_true this) fun x hx => okP_up n x (okPs_mem h.2 hx)
  | n + 1, .tup xs, h => by
    rw [okP, Bool.and_eq_true] at h
    exact okP_tup (by have := h.1; unfold small at this; exact of_decide_eq_true this) fun x hx => okP_up n x (okPs_mem h.2 hx)
  | 0, .lst xs, h => by simp [okP] at h
  | 0, .tup xs, h => by simp [okP] at h
  | 0, .dct _, h => by simp [okP] at h
  | 0, .dlk _ _, h => by simp [okP] at h
  | 0, .ktp _, h => by simp [okP] at h
  | 0, .obj _ _, h => by simp [okP] at h
  | 0, .scr _, h => by simp [okP] at h
  | _ + 1, .dct _, h => by simp [okP] at h
  | _ + 1, .dlk _ _, h => by simp [okP] at h
  | _ + 1, .ktp _, h => by simp [okP] at h
  | _ + 1, .obj _ _, h => by simp [okP] at h
  | _ + 1, .scr _, h => by simp [okP] at h
theorem okP_le {n m : Nat} (h : n ≤ m) {x : F} (hx : okP n x = true) : okP m x = true := by
  induction h with
  | refl => exact hx
  | step _ ih => exact okP_up _ _ ih
theorem okP_fmG {bl : Bl} (hl : bl.length ≤ 100000) : ∀ (n b : Nat), okP (2 * n + 1) (fF (fmG n bl b)) = true
  | 0, _ => by rw [fmG]; rfl
  | n + 1, b => by
    rw [fmG]
    unfold fF
    refine okP_tup ?_ fun x hx => ?_
    · rw [List.length_map]
      unfold sortFm
      rw [List.length_mergeSort, List.length_map]
      unfold kdB
      refine Nat.le_trans (List.length_filter_le _ _) ?_
      rw [List.length_range']; omega
    · rw [List.mem_map] at hx
      obtain ⟨y, hy, rfl⟩ := hx
      rw [mem_sortFm, List.mem_map] at hy
      obtain ⟨c, _, rfl⟩ := hy
      unfold itF
      simp only
      rw [fF_fmL]
      refine okP_tup (n := 2 * n + 1) (by simp) fun z hz => ?_
      rcases List.mem_cons.mp hz with rfl | hz
      · simp [okP]
      · rw [List.mem_singleton] at hz
        subst hz
        exact okP_fmG hl n c
theorem ok_fm {bl : Bl} (V : VT bl) (hl : bl.length ≤ 60) : okP 128 (fF (fm bl 0)) = true := okP_le (by omega) (okP_fmG (n := bl.length + 1) (b := 0) (by omega))
theorem sameM_refl {x : F} (h : okP 129 x = true) : d_sameM x x = .ok true () := by
  unfold d_sameM
  rw [if_pos ⟨h, h⟩, eqS_refl 129 x h]
theorem sameM_bl (a b : Bool) : d_sameM (.bl a) (.bl b) = .ok (a == b) () := by
  unfold d_sameM
  rw [if_pos ⟨by simp [okP], by simp [okP]⟩]
  simp [eqS]
end LB

set_option Elab.async false
set_option linter.all false
set_option maxRecDepth 100000
set_option maxHeartbeats 400000
set_option autoImplicit false
/-! FC: k42: drawn trees, the same with other numbers, changed ones. -/
namespace LB
open VS TL LM
open L2 (atI ixN)
theorem v_slotI {q : Bl} {p : Nat} (hp : p ≤ q.length) : d_law_t_slot q (p : Int) = .ok (slI q p) () := by
  unfold d_law_t_slot
  by_cases h0 : p = 0
  · subst h0
    rfl
  · rw [if_pos (decide_eq_true (by omega))]
    obtain ⟨i, rfl⟩ : ∃ i, p = i + 1 := ⟨p - 1, by omega⟩
    obtain ⟨y, hy⟩ : ∃ y, q[i]? = some y := ⟨q[i], List.getElem?_eq_getElem (by omega)⟩
    rw [show (((i + 1 : Nat) : Int) - 1) = (i : Int) by omega, at_cast hy, slI_succ hy]
    rfl
theorem pow6 : powO (10 : Int) (6 : Int) = some 1000000 := by
  rw [show (6 : Int) = ((6 : Nat) : Int) from rfl, powO_ok (by decide) (by decide)]; rfl
theorem lstO_ok' {σ α : Type} [En α] {l : List α} {s : σ} (h : l.length ≤ 1000000) : lstO l s = .ok l s := by
  unfold lstO
  rw [if_pos (by unfold small; exact decide_eq_true h)]
  rfl
theorem slI_le {bl : Bl} {K : Int} (hK : 0 ≤ K) (h : ∀ p ∈ bl, p.1 ≤ K) {b : Nat} (hb : b ≤ bl.length) : slI bl b ≤ K := by
  cases b with
  | zero => exact hK
  | succ i =>
    obtain ⟨y, hy⟩ : ∃ y, bl[i]? = some y := ⟨bl[i], List.getElem?_eq_getElem (by omega)⟩
    rw [slI_succ hy]
    exact h y (List.mem_of_getElem? hy)
theorem dpI_le {bl : Bl} (V : VT bl) : ∀ b, b ≤ bl.length → dpI bl b ≤ b := by
  intro b
  induction b using Nat.strongRecOn with
  | ind b ih =>
    intro hb
    cases b with
    | zero => rw [dpI_zero]; omega
    | succ i =>
      obtain ⟨p, hp⟩ : ∃ p, bl[i]? = some p := ⟨bl[i], List.getElem?_eq_getElem (by omega)⟩
      obtain ⟨h1, h2, h3⟩ := V i p hp
      rw [dpI_succ V hp]
      have := ih p.2.toNat (by omega) (by omega)
      omega
theorem v_t_drawn {b : Nat} {s : Sp} (hs : SpOk b s) (hb : b + 100 < 2 ^ 40) : Sat (d_law_t_drawn 12 s) fun bl s' => VT bl ∧ bl.length ≤ 12 ∧ (∀ p ∈ bl, p.1 ≤ 2 ^ 40) ∧ SpOk (b + 37) s' := by
  unfold d_law_t_drawn
  obtain ⟨d, s1, e, d0, d1, k1⟩ := v_draw (many := 12 + 1) hs (by omega) (by decide) (by decide)
  rw [e]
  simp only [bind_ok]
  rw [rg1_ok (by omega) (by omega)]
  simp only [bind_ok]
  refine sat_bind (sat_fold (fun pre bl s' => VT bl ∧ bl.length = pre.length ∧ (∀ p ∈ bl, p.1 ≤ 1000001 * bl.length) ∧ SpOk (b + 1 + 3 * pre.length) s') ⟨VT.nil, rfl, by simp, k1⟩ ?_) ?_
  · rintro pre x post bl s2 e2 ⟨V, hl, hS, k2⟩
    have hp : pre.length < 12 := by
      have := congrArg List.length e2
      rw [rgI_length, List.length_append, List.length_cons] at this
      omega
    obtain ⟨p, s3, e3, p0, p1, k3⟩ := v_draw (many := (bl.length : Int) + 1) k2 (by omega) (by omega) (by omega)
    rw [e3]
    simp only [bind_ok]
    rw [lstO_ok' (by simp)]
    simp only [bind_ok]
    obtain ⟨q, s4, e4, hq, k4⟩ := v_pick_sli (l := [p, (bl.length : Int)]) k3 (by omega) (by simp) (by simp)
    rw [e4]
    simp only [bind_ok]
    have q01 : 0 ≤ q ∧ q ≤ bl.length := by
      rcases List.mem_cons.mp hq with z | z
      · omega
      · rw [List.mem_singleton] at z; omega
    obtain ⟨c, rfl⟩ : ∃ c : Nat, q = c := ⟨q.toNat, by omega⟩
    rw [noEx_ok (v_slotI (q := bl) (p := c) (by omega)), up_ok]
    simp only [bind_ok]
    rw [pow6]
    simp only [ofO_some, bind_ok]
    rw [lstO_ok' (by simp)]
    simp only [bind_ok]
    obtain ⟨a, s5, e5, ha, k5⟩ := v_pick_sli (l := [(0 : Int), 0, 1, 2, 1000000]) k4 (by omega) (by simp) (by simp)
    rw [e5]
    simp only [bind_ok]
    rw [appO_ok (by omega)]
    simp only [bind_ok]
    refine sat_ok ⟨V.snoc (by simp only; omega) (by simp only; omega) ?_, by rw [List.length_append, List.length_append, hl]; rfl, fun p hp => ?_, k5.mono (by rw [List.length_append, List.length_singleton]; omega)⟩
    · simp only [Int.toNat_natCast]
      simp only [List.mem_cons, List.not_mem_nil, or_false] at ha
      omega
    · have h1 := slI_le (by omega) hS (b := c) (by omega)
      simp only [List.mem_cons, List.not_mem_nil, or_false] at ha
      rw [List.length_append, List.length_singleton]
      rcases List.mem_append.mp hp with q | q
      · have := hS p q
        omega
      · rw [List.mem_singleton] at q
        subst q
        simp only
        omega
  · rintro bl s2 ⟨V, hl, hS, k2⟩
    rw [rgI_length] at hl k2
    exact sat_ok ⟨V, by omega, fun p hp => by have := hS p hp; omega, k2.mono (by omega)⟩
/-! ### slots that are depths -/
theorem v_depths {bl : Bl} (V : VT bl) (hl : bl.length ≤ 100000) : d_law_t_depths bl = .ok (dpl bl) () := by
  unfold d_law_t_depths
  simp only
  refine eq_of_sat (sat_bind (sat_fold (fun pre v _ => v = dpl pre) rfl ?_) fun v s h => sat_ok h)
  rintro pre x post v ⟨⟩ e rfl
  have hx : bl[pre.length]? = some x := by rw [e]; simp
  obtain ⟨x1, x2, x3⟩ := V _ _ hx
  have hlen : bl.length = pre.length + (post.length + 1) := by rw [e]; simp
  have e2 : x.2 = ((x.2.toNat : Nat) : Int) := by omega
  have ha : atI (dpl pre) x.2 = some (dpI pre x.2.toNat) := by
    rw [e2, Int.toNat_natCast]
    refine at_cast ?_
    have : x.2.toNat < (dpl pre).length := by rw [dpl_len]; omega
    unfold dpI
    rw [List.getD_eq_getElem?_getD, List.getElem?_eq_getElem this]
    rfl
  rw [ha]
  simp only [ofO_some, bind_ok]
  rw [appO_ok (by rw [dpl_len]; omega)]
  simp only [bind_ok]
  refine sat_ok ?_
  rw [dpl_snoc]
def dpB (bl : Bl) : Bl := bl.map fun p => (1 + dpI bl p.2.toNat, p.2)
theorem dpB_sl {bl : Bl} (V : VT bl) {b : Nat} (hb : b ≤ bl.length) : slI (dpB bl) b = dpI bl b := by
  cases b with
  | zero => rw [slI_zero, dpI_zero]
  | succ i =>
    obtain ⟨p, hp⟩ : ∃ p, bl[i]? = some p := ⟨bl[i], List.getElem?_eq_getElem (by omega)⟩
    have : (dpB bl)[i]? = some (1 + dpI bl p.2.toNat, p.2) := by
      unfold dpB
      rw [List.getElem?_map, hp]; rfl
    rw [slI_succ this, dpI_succ V hp]
    simp only
    omega
theorem dpB_vt {bl : Bl} (V : VT bl) : VT (dpB bl) := fun i p h => by
  unfold dpB at h
  rw [List.getElem?_map] at h
  cases q : bl[i]? with
  | none => rw [q] at h; cases h
  | some y =>
    rw [q] at h
    cases h
    obtain ⟨h1, h2, h3⟩ := V i y q
    have := (List.getElem?_eq_some_iff.mp q).1
    refine ⟨h1, h2, ?_⟩
    rw [dpB_sl V (by simp only; omega)]
    simp only
    omega
theorem dpB_le {bl : Bl} (V : VT bl) : ∀ p ∈ dpB bl, p.1 ≤ (bl.length : Int) + 1 := fun p hp => by
  unfold dpB at hp
  rw [List.mem_map] at hp
  obtain ⟨q, hq, rfl⟩ := hp
  obtain ⟨i, hi⟩ := List.mem_iff_getElem?.mp hq
  obtain ⟨h1, h2, h3⟩ := V i q hi
  have hl := (List.getElem?_eq_some_iff.mp hi).1
  have := dpI_le V q.2.toNat (by omega)
  simp only
  omega
theorem v_dpB {bl : Bl} (V : VT bl) (hl : bl.length ≤ 100000) (s : Sp) : (O.bind (smL bl s) fun l_467 s_468 => mapO (fun x_137 s_138 => (O.bind (O.bind (O.bind ((d_law_t_depths (bl)).up s_138) fun x_473 s_474 => ofO (atI x_473 x_137.2) s_474) fun x_471 s_472 => .ok (((1 : Int) + x_471)) s_472) fun x_469 s_470 => .ok ((x_469, x_137.2)) s_470)) l_467 s_468) = .ok (dpB bl) s := by
  rw [smL_ok (by omega)]
  simp only [bind_ok]
  refine mapO_ok _ _ _ fun x hx s => ?_
  obtain ⟨i, hi, rfl⟩ := List.getElem_of_mem hx
  obtain ⟨h1, h2, h3⟩ := V i _ (List.getElem?_eq_getElem hi)
  rw [v_depths V hl]
  simp only [up_ok, bind_ok]
  have ha : atI (dpl bl) (bl[i]).2 = some (dpI bl (bl[i]).2.toNat) := by
    have := at_depth bl (b := (bl[i]).2.toNat) (by omega)
    rw [show (((bl[i]).2.toNat : Nat) : Int) = (bl[i]).2 by omega] at this
    exact this
  rw [ha]
  rfl
/-! ### other numbers -/
theorem remI_ok {l : List Int} {k : Int} (h : k ∈ l) : remI l k = some (l.erase k) := by
  induction l with
  | nil => cases h
  | cons a l ih =>
    unfold remI at ih ⊢
    rw [List.findIdx?_cons]
    by_cases q : a = k
    · subst q
      rw [if_pos (by simp), List.erase_cons_head]
      rfl
    · rw [if_neg (by simp [q]), List.erase_cons_tail (by simp [q])]
      have hm : k ∈ l := by
        rcases List.mem_cons.mp h with rfl | h
        · exact absurd rfl q
        · exact h
      have := ih hm
      cases e : List.findIdx? (fun x => decide (x = k)) l with
      | none => rw [e] at this; cases this
      | some j =>
        rw [e] at this
        have := Option.some.inj this
        simp only [Option.map_some, List.eraseIdx_cons_succ, this]
theorem look_put {κ ν : Type} [DecidableEq κ] (y z : κ) (x : ν) : ∀ l : List (κ × ν), lookD (TL.putD l y x) z = if y = z then some x else lookD l z := by
  intro l
  unfold TL.putD
  by_cases h : (l.any fun p => decide (p.1 = y)) = true
  · rw [if_pos h]
    induction l with
    | nil => cases h
    | cons p l ih =>
      unfold lookD at ih ⊢
      rw [List.map_cons]
      by_cases hp : p.1 = y
      · rw [if_pos hp]
        by_cases hz : y = z
        · rw [if_pos hz, List.find?_cons_of_pos (by simp [hp, hz])]
          rfl
        · rw [if_neg hz, List.find?_cons_of_neg (by simp [hp, hz]), List.find?_cons_of_neg (by simp [hp, hz])]
          by_cases h2 : (l.any fun p => decide (p.1 = y)) = true
          · have := ih h2
            rw [if_neg hz] at this
            exact this
          · congr 1
            have : l.map (fun p => if p.1 = y then (p.1, x) else p) = l := by
              conv => rhs; rw [← List.map_id l]
              refine List.map_congr_left fun q hq => ?_
              rw [if_neg]
              · rfl
              · intro e
                exact h2 (List.any_eq_true.mpr ⟨q, hq, by simp [e]⟩)
            rw [this]
      · rw [if_neg hp]
        have h2 : (l.any fun p => decide (p.1 = y)) = true := by
          rw [List.any_cons] at h
          simpa [hp] using h
        by_cases hz : p.1 = z
        · rw [List.find?_cons_of_pos (by simp [hz]), List.find?_cons_of_pos (by simp [hz]), if_neg]
          rintro rfl
          exact hp hz
        · rw [List.find?_cons_of_neg (by simp [hz]), List.find?_cons_of_neg (by simp [hz])]
          exact ih h2
  · rw [if_neg h]
    have hno : ∀ p ∈ l, p.1 ≠ y := fun p hp e => h (List.any_eq_true.mpr ⟨p, hp, by simp [e]⟩)
    unfold lookD
    rw [List.find?_append]
    by_cases hz : y = z
    · subst hz
      rw [if_pos rfl, List.find?_eq_none.mpr (by intro p hp; simp [hno p hp])]
      simp
    · rw [if_neg hz]
      cases e : List.find? (fun p => decide (p.1 = z)) l with
      | some p => simp
      | none => simp [hz]
structure RI (bl : Bl) (left : List Int) (ot : Bl) (P : List (Int × Int)) : Prop where
  nd : left.Nodup
  nat : ∀ x ∈ left, 0 ≤ x
  mem : ∀ c : Nat, (c : Int) ∈ left ↔ 1 ≤ c ∧ c ≤ bl.length ∧ lookD P (c : Int) = none
  len : left.length + ot.length = bl.length
  zero : lookD P 0 = some 0
  val : ∀ (c : Nat) (w : Int), lookD P (c : Int) = some w → c ≤ bl.length ∧ 0 ≤ w ∧ w ≤ ot.length ∧ (1 ≤ c → 1 ≤ w ∧ ∃ u, lookD P ((paN bl c : Nat) : Int) = some u ∧ ot[w.toNat - 1]? = some (slI bl c, u))
  inj : ∀ (c d : Nat) (w : Int), lookD P (c : Int) = some w → lookD P (d : Int) = some w → c = d
  sur : ∀ w : Nat, w ≤ ot.length → ∃ c : Nat, lookD P (c : Int) = some (w : Int)
  vt : VT ot
  plen : P.length ≤ ot.length + 1
theorem RI.slot {bl : Bl} {left : List Int} {ot : Bl} {P : List (Int × Int)} (R : RI bl left ot P) {c : Nat} {w : Int} (h : lookD P (c : Int) = some w) : slI ot w.toNat = slI bl c := by
  obtain ⟨h1, h2, h3, h4⟩ := R.val c w h
  by_cases q : c = 0
  · subst q
    have := R.zero
    rw [show ((0 : Nat) : Int) = 0 from rfl, this] at h
    cases h
    rfl
  · obtain ⟨h5, u, h6, h7⟩ := h4 (by omega)
    have := slI_succ h7
    rw [show w.toNat - 1 + 1 = w.toNat by omega] at this
    exact this
theorem put_len (l : List (Int × Int)) (y x : Int) : (TL.putD l y x).length ≤ l.length + 1 := by
  unfold TL.putD
  split
  · rw [List.length_map]; omega
  · rw [List.length_append]; simp
theorem RI.step {bl : Bl} (V : VT bl) {left : List Int} {ot : Bl} {P : List (Int × Int)} (R : RI bl left ot P) {c : Nat} {u : Int} (hc : (c : Int) ∈ left) (hu : lookD P ((paN bl c : Nat) : Int) = some u) :
    RI bl (left.erase (c : Int)) (ot ++ [(slI bl c, u)]) (TL.putD P (c : Int) ((ot ++ [(slI bl c, u)]).length : Int)) := by
  obtain ⟨c1, c2, c3⟩ := (R.mem c).mp hc
  obtain ⟨u1, u2, u3, u4⟩ := R.val _ _ hu
  have hpa := pa_lt V c1 c2
  have hll : (ot ++ [(slI bl c, u)]).length = ot.length + 1 := by simp
  have hlt : slI bl (paN bl c) < slI bl c := by
    obtain ⟨i, rfl⟩ : ∃ i, c = i + 1 := ⟨c - 1, by omega⟩
    obtain ⟨p, hp⟩ : ∃ p, bl[i]? = some p := ⟨bl[i], List.getElem?_eq_getElem (by omega)⟩
    rw [slI_succ hp, paN_succ hp]
    exact (V i p hp).2.2
  have lo : ∀ d : Nat, d ≠ c → lookD (TL.putD P (c : Int) ((ot ++ [(slI bl c, u)]).length : Int)) (d : Int) = lookD P (d : Int) := fun d hd => by
    rw [look_put, if_neg (by omega)]
  have ls : lookD (TL.putD P (c : Int) ((ot ++ [(slI bl c, u)]).length : Int)) (c : Int) = some ((ot.length : Int) + 1) := by
    rw [look_put, if_pos rfl, hll]
    rfl
  refine ⟨R.nd.erase _, fun x hx => R.nat x (List.mem_of_mem_erase hx), fun d => ?_, ?_, ?_, fun d w hw => ?_, fun d e w h1 h2 => ?_, fun w hw => ?_, R.vt.snoc u2 u3 ?_, ?_⟩
  · rw [R.nd.mem_erase_iff, R.mem]
    by_cases q : d = c
    · subst q
      rw [ls]
      simp
    · rw [lo d q]
      have : (d : Int) ≠ (c : Int) := by omega
      simp [this]
  · have h1 := List.length_erase_of_mem hc
    have h2 : 0 < left.length := List.length_pos_of_mem hc
    have := R.len
    rw [hll, h1]
    omega
  · have := lo 0 (by omega)
    rw [show ((0 : Nat) : Int) = 0 from rfl] at this
    rw [this]
    exact R.zero
  · by_cases q : d = c
    · subst q
      rw [ls] at hw
      cases hw
      refine ⟨c2, by omega, by rw [hll]; omega, fun _ => ⟨by omega, u, ?_, ?_⟩⟩
      · rw [lo _ (by omega)]
        exact hu
      · rw [show ((ot.length : Int) + 1).toNat - 1 = ot.length by omega, List.getElem?_append_right (Nat.le_refl _)]
        simp
    · rw [lo d q] at hw
      obtain ⟨h1, h2, h3, h4⟩ := R.val d w hw
      refine ⟨h1, h2, by rw [hll]; omega, fun hd => ?_⟩
      obtain ⟨h5, v, h6, h7⟩ := h4 hd
      refine ⟨h5, v, ?_, ?_⟩
      · rw [lo _ (fun z => by rw [z, c3] at h6; cases h6)]
        exact h6
      · rw [List.getElem?_append_left (List.getElem?_eq_some_iff.mp h7).1]
        exact h7
  · by_cases q1 : d = c
    · by_cases q2 : e = c
      · omega
      · subst q1
        rw [ls] at h1
        cases h1
        rw [lo e q2] at h2
        have := (R.val e _ h2).2.2.1
        omega
    · by_cases q2 : e = c
      · subst q2
        rw [ls] at h2
        cases h2
        rw [lo d q1] at h1
        have := (R.val d _ h1).2.2.1
        omega
      · rw [lo d q1] at h1
        rw [lo e q2] at h2
        exact R.inj d e w h1 h2
  · by_cases q : w ≤ ot.length
    · obtain ⟨d, hd⟩ := R.sur w q
      exact ⟨d, by rw [lo d (fun z => by rw [z, c3] at hd; cases hd)]; exact hd⟩
    · rw [hll] at hw
      refine ⟨c, ?_⟩
      rw [ls]
      congr 1
      omega
  · rw [R.slot hu]
    exact hlt
  · have := put_len P (c : Int) ((ot ++ [(slI bl c, u)]).length : Int)
    have := R.plen
    rw [hll] at *
    omega
theorem RI.ready {bl : Bl} (V : VT bl) {left : List Int} {ot : Bl} {P : List (Int × Int)} (R : RI bl left ot P) (c : Nat) : (c : Int) ∈ left → ∃ d : Nat, (d : Int) ∈ left ∧ (lookD P ((paN bl d : Nat) : Int)).isSome = true := by
  induction c using Nat.strongRecOn with
  | ind c ih =>
    intro hc
    obtain ⟨c1, c2, c3⟩ := (R.mem c).mp hc
    have hpa := pa_lt V c1 c2
    cases e : lookD P ((paN bl c : Nat) : Int) with
    | some u => exact ⟨c, hc, by rw [e]; rfl⟩
    | none =>
      refine ih (paN bl c) hpa ((R.mem _).mpr ⟨?_, by omega, e⟩)
      by_cases q : paN bl c = 0
      · rw [q, show ((0 : Nat) : Int) = 0 from rfl, R.zero] at e
        cases e
      · omega
theorem RI.done {bl : Bl} (V : VT bl) {ot : Bl} {P : List (Int × Int)} (R : RI bl [] ot P) : ot.length = bl.length ∧ fm ot 0 = fm bl 0 := by
  have hl : ot.length = bl.length := by have := R.len; simpa using this
  refine ⟨hl, ?_⟩
  have all : ∀ c, c ≤ bl.length → ∃ w, lookD P (c : Int) = some w := fun c hc => by
    by_cases q : c = 0
    · subst q; exact ⟨0, R.zero⟩
    · cases e : lookD P (c : Int) with
      | some w => exact ⟨w, rfl⟩
      | none => exact absurd ((R.mem c).mpr ⟨by omega, hc, e⟩) (by simp)
  obtain ⟨q, hq⟩ : ∃ q : Nat → Nat, ∀ c, c ≤ bl.length → lookD P (c : Int) = some ((q c : Nat) : Int) := by
    refine ⟨fun c => ((lookD P (c : Int)).getD 0).toNat, fun c hc => ?_⟩
    obtain ⟨w, hw⟩ := all c hc
    have := (R.val c w hw).2.1
    simp only [hw, Option.getD_some]
    congr 1
    omega
  have hp : ∀ b, 1 ≤ b → b ≤ bl.length → paN bl b ≤ bl.length := fun b h1 h2 => by
    have := pa_lt V h1 h2
    omega
  have h0 : q 0 = 0 := by
    have h1 := hq 0 (Nat.zero_le _)
    have h2 := R.zero
    rw [show ((0 : Nat) : Int) = 0 from rfl, h2] at h1
    have := Option.some.inj h1
    omega
  have key := fmG_iso (bl := bl) (ot := ot) (q := q) hl h0 (fun b h1 h2 => ?_) (fun a b ha hb e => ?_) (fun c h1 h2 => ?_) hp (bl.length + 1) 0 (Nat.zero_le _)
  · unfold fm
    rw [hl, Nat.sub_zero]
    rw [h0] at key
    exact key
  · obtain ⟨v1, v2, v3, v4⟩ := R.val b _ (hq b h2)
    obtain ⟨v5, u, v6, v7⟩ := v4 h1
    rw [Int.toNat_natCast] at v7
    refine ⟨by omega, by omega, ?_, ?_⟩
    · have := slI_succ v7
      rw [show q b - 1 + 1 = q b by omega] at this
      exact this
    · have := paN_succ v7
      rw [show q b - 1 + 1 = q b by omega] at this
      rw [this]
      simp only
      rw [hq _ (hp b h1 h2)] at v6
      have := Option.some.inj v6
      omega
  · have h1 := hq a ha
    have h2 := hq b hb
    rw [e] at h1
    exact R.inj a b _ h1 h2
  · obtain ⟨b, hb⟩ := R.sur c (by omega)
    have v1 := (R.val b _ hb).1
    rw [hq b v1] at hb
    have e1 : q b = c := by have := Option.some.inj hb; omega
    refine ⟨b, ?_, v1, e1⟩
    by_cases z : b = 0
    · subst z; omega
    · omega
theorem v_renum {bl : Bl} (V : VT bl) (hl : bl.length ≤ 1000) {b : Nat} {s : Sp} (hs : SpOk b s) (hb : b + 2000 < 2 ^ 40) : Sat (d_law_renumbered bl s) fun ot s' => VT ot ∧ ot.length = bl.length ∧ fm ot 0 = fm bl 0 ∧ SpOk (b + bl.length) s' := by
  unfold d_law_renumbered
  have e0 : dispO [((0 : Int), (0 : Int))] s = .ok (Dc.mk [((0 : Int), (0 : Int))]) s := rfl
  rw [e0]
  simp only [bind_ok]
  have e1 : lrg2O (1 : Int) ((bl.length : Int) + 1) s = .ok (rgI 1 bl.length) s := by
    unfold lrg2O
    rw [if_pos ⟨by decide, by unfold smI; rw [inRg_iff]; omega, by unfold small; exact decide_eq_true (by omega)⟩, show ((bl.length : Int) + 1 - 1).toNat = bl.length by omega]
    rfl
  rw [e1]
  simp only [bind_ok]
  refine sat_bind (sat_wh (fun (v : List Int × List (Int × Int) × List (Int × Int)) s' => RI bl v.1 v.2.1 v.2.2 ∧ SpOk (b + v.2.1.length) s') (fun v _ => v.1.length) (fun v _ => !decide (v.1 = [])) fuel ?_ ?_ ?_ ?_) ?_
  · simp only [rgI_length]
    unfold fuel
    omega
  · refine ⟨⟨?_, ?_, ?_, ?_, rfl, ?_, ?_, ?_, VT.nil, by simp⟩, hs⟩
    · unfold List.Nodup rgI
      simp only
      rw [List.pairwise_map]
      exact (List.nodup_range).imp fun h e => h (by omega)
    · intro x hx
      have := (rgI_mem2.mp hx).1
      omega
    · intro c
      rw [rgI_mem2]
      constructor
      · rintro ⟨h1, h2⟩
        refine ⟨by omega, by omega, ?_⟩
        unfold lookD
        rw [List.find?_cons_of_neg (by simp; omega)]
        rfl
      · rintro ⟨h1, h2, _⟩
        omega
    · simp [rgI_length]
    · intro c w h
      unfold lookD at h
      by_cases q : c = 0
      · subst q
        have h : some (0 : Int) = some w := h
        cases h
        exact ⟨by omega, by omega, by simp, fun h => by omega⟩
      · rw [List.find?_cons_of_neg (by simp; omega)] at h
        cases h
    · intro c d w h1 h2
      unfold lookD at h1 h2
      by_cases q : c = 0
      · by_cases q2 : d = 0
        · omega
        · rw [List.find?_cons_of_neg (by simp; omega)] at h2
          cases h2
      · rw [List.find?_cons_of_neg (by simp; omega)] at h1
        cases h1
    · intro w hw
      refine ⟨0, ?_⟩
      have : w = 0 := by simpa using hw
      subst this
      rfl
  · rintro v s' ⟨R, _⟩
    rw [eqO_ints]
    rfl
  · rintro ⟨left, ot, P⟩ s1 ⟨R, k1⟩ ht
    simp only at R k1 ht ⊢
    have hne : left ≠ [] := by simpa using ht
    have hlen := R.len
    have hx : ∀ x ∈ left, ∃ c : Nat, x = c ∧ 1 ≤ c ∧ c ≤ bl.length ∧ ∃ p, bl[c - 1]? = some p ∧ atI bl (x - 1) = some p ∧ p.1 = slI bl c ∧ p.2 = ((paN bl c : Nat) : Int) := fun x hx => by
      have := R.nat x hx
      obtain ⟨c, rfl⟩ : ∃ c : Nat, x = c := ⟨x.toNat, by omega⟩
      obtain ⟨c1, c2, c3⟩ := (R.mem c).mp hx
      obtain ⟨i, rfl⟩ : ∃ i, c = i + 1 := ⟨c - 1, by omega⟩
      obtain ⟨p, hp⟩ : ∃ p, bl[i]? = some p := ⟨bl[i], List.getElem?_eq_getElem (by omega)⟩
      refine ⟨i + 1, rfl, c1, c2, p, hp, ?_, (slI_succ hp).symm, ?_⟩
      · rw [show ((i + 1 : Nat) : Int) - 1 = (i : Int) by omega]
        exact at_cast hp
      · rw [paN_succ hp]
        have := (V i p hp).1
        omega
    rw [smL_ok (by omega)]
    simp only [bind_ok]
    rw [lcO_ok (fun x => (lookD P ((paN bl x.toNat : Nat) : Int)).isSome) (fun x => x) left () (fun x hx' s => by
      obtain ⟨c, rfl, c1, c2, p, p1, p2, p3, p4⟩ := hx x hx'
      rw [p2]
      simp only [ofO_some, bind_ok]
      rw [p4, Int.toNat_natCast]) (fun x _ _ s => rfl), List.map_id']
    rw [noEx_ok rfl, up_ok]
    simp only [bind_ok]
    obtain ⟨y, ys, rfl⟩ := List.exists_cons_of_ne_nil hne
    obtain ⟨c0, rfl, _⟩ := hx y (.head _)
    obtain ⟨d0, hd0, hd1⟩ := R.ready V c0 (.head _)
    obtain ⟨x, s2, e2, hxm, k2⟩ := v_pick_sli (l := ((c0 : Int) :: ys).filter fun x => (lookD P ((paN bl x.toNat : Nat) : Int)).isSome) k1 (by omega) (fun z => by
      have : (d0 : Int) ∈ ((c0 : Int) :: ys).filter fun x => (lookD P ((paN bl x.toNat : Nat) : Int)).isSome := List.mem_filter.mpr ⟨hd0, by rw [Int.toNat_natCast]; exact hd1⟩
      rw [z] at this
      cases this) (by
        have := List.length_filter_le (fun x : Int => (lookD P ((paN bl x.toNat : Nat) : Int)).isSome) ((c0 : Int) :: ys)
        omega)
    rw [e2]
    simp only [bind_ok]
    rw [List.mem_filter] at hxm
    obtain ⟨hx1, hx2⟩ := hxm
    obtain ⟨c, rfl, c1, c2, p, p1, p2, p3, p4⟩ := hx x hx1
    rw [Int.toNat_natCast] at hx2
    obtain ⟨u, hu⟩ := Option.isSome_iff_exists.mp hx2
    rw [remI_ok hx1, p2]
    simp only [ofO_some, bind_ok]
    rw [p4, hu]
    simp only [ofO_some, bind_ok]
    rw [appO_ok (by omega)]
    simp only [bind_ok]
    unfold dputO
    have := R.plen
    rw [if_pos (by omega)]
    simp only [bind_ok]
    rw [p3]
    refine sat_ok ⟨⟨R.step V hx1 hu, ?_⟩, ?_⟩
    · rw [List.length_append, List.length_singleton]
      exact k2.mono (by omega)
    · rw [List.length_erase_of_mem hx1]
      simp
  · rintro ⟨left, ot, P⟩ s1 ⟨⟨R, k1⟩, ht⟩
    simp only at R k1 ht ⊢
    have : left = [] := by simpa using ht
    subst this
    obtain ⟨h1, h2⟩ := R.done V
    exact sat_ok ⟨R.vt, h1, h2, by rw [h1] at k1; exact k1⟩
end LB

set_option Elab.async false
set_option linter.all false
set_option maxRecDepth 100000
set_option maxHeartbeats 400000
set_option autoImplicit false
/-! FD: k42: changed trees. -/
namespace LB
open VS TL LM
open L2 (atI ixN)
theorem minO_ok {l : List Int} (h : l ≠ []) : ∃ m, minO l = some m ∧ m ∈ l ∧ ∀ y ∈ l, m ≤ y := by
  have key : ∀ (r : List Int) (a : Int), (minL a r ∈ a :: r) ∧ ∀ y ∈ a :: r, minL a r ≤ y := by
    intro r
    induction r with
    | nil => intro a; exact ⟨by simp [minL], by simp [minL]⟩
    | cons b r ih =>
      intro a
      unfold minL
      obtain ⟨h1, h2⟩ := ih (if b < a then b else a)
      have h3 := h2 _ (.head _)
      constructor
      · rcases List.mem_cons.mp h1 with q | q
        · rw [q]
          by_cases z : b < a
          · rw [if_pos z]; simp
          · rw [if_neg z]; simp
        · exact List.mem_cons_of_mem _ (List.mem_cons_of_mem _ q)
      · intro y hy
        rcases List.mem_cons.mp hy with rfl | hy
        · by_cases z : b < y
          · rw [if_pos z] at h3; rw [if_pos z]; omega
          · rw [if_neg z] at h3; rw [if_neg z]; exact h3
        · rcases List.mem_cons.mp hy with rfl | hy
          · by_cases z : y < a
            · rw [if_pos z] at h3; rw [if_pos z]; exact h3
            · rw [if_neg z] at h3; rw [if_neg z]; omega
          · exact h2 y (List.mem_cons_of_mem _ hy)
  cases l with
  | nil => exact absurd rfl h
  | cons a r => exact ⟨minL a r, rfl, (key r a).1, (key r a).2⟩
theorem slI_set {bl : Bl} {i : Nat} {p : Int × Int} (hi : i < bl.length) {b : Nat} (hb : b ≤ bl.length) : slI (bl.set i p) b = if b = i + 1 then p.1 else slI bl b := by
  cases b with
  | zero => rw [if_neg (by omega)]; rfl
  | succ j =>
    by_cases q : j = i
    · subst q
      rw [if_pos rfl]
      exact slI_succ (List.getElem?_set_self hi)
    · rw [if_neg (by omega)]
      obtain ⟨y, hy⟩ : ∃ y, bl[j]? = some y := ⟨bl[j], List.getElem?_eq_getElem (by omega)⟩
      rw [slI_succ hy]
      exact slI_succ (by rw [List.getElem?_set_ne (fun z => q z.symm)]; exact hy)
theorem VT_set {bl : Bl} (V : VT bl) {i : Nat} (hi : i < bl.length) {p : Int × Int} (h0 : 0 ≤ p.2) (h1 : p.2 ≤ i) (h2 : slI bl p.2.toNat < p.1) (h3 : ∀ r ∈ bl, r.2 = (i : Int) + 1 → p.1 < r.1) : VT (bl.set i p) := by
  intro j r hr
  by_cases q : i = j
  · subst q
    rw [List.getElem?_set_self hi] at hr
    cases hr
    refine ⟨h0, h1, ?_⟩
    rw [slI_set hi (by omega), if_neg (by omega)]
    exact h2
  · rw [List.getElem?_set_ne q] at hr
    obtain ⟨v1, v2, v3⟩ := V j r hr
    have hj := (List.getElem?_eq_some_iff.mp hr).1
    refine ⟨v1, v2, ?_⟩
    rw [slI_set hi (by omega)]
    by_cases z : r.2.toNat = i + 1
    · rw [if_pos z]
      exact h3 r (List.mem_of_getElem? hr) (by omega)
    · rw [if_neg z]
      exact v3
theorem set_cut (bl : Bl) {i : Nat} (hi : i < bl.length) (hl : bl.length ≤ 1000) (p : Int × Int) (s : Sp) : (O.bind (ofO (addL (cutL bl none (some (((i + 1 : Nat) : Int) - (1 : Int)))) [p]) s) fun x s' => ofO (addL x (cutL bl (some ((i + 1 : Nat) : Int)) none)) s') = .ok (bl.set i p) s := by
  rw [show ((i + 1 : Nat) : Int) - 1 = (i : Int) by omega, cutL_to bl (by omega), cutL_from bl (by omega)]
  rw [addL_ok (by rw [List.length_take]; simp; omega)]
  simp only [ofO_some, bind_ok]
  rw [addL_ok (by rw [List.length_append, List.length_take, List.length_drop]; simp; omega)]
  simp only [ofO_some]
  rw [List.set_eq_take_append_cons_drop, if_pos hi, List.append_assoc]
  rfl
theorem v_changed {bl : Bl} (V : VT bl) (hl : bl.length ≤ 12) (hS : ∀ p ∈ bl, p.1 ≤ 2 ^ 40) {b : Nat} {s : Sp} (hs : SpOk b s) (hb : b + 100 < 2 ^ 40) : Sat (d_law_changed bl s) fun bt s' => VT bt ∧ bt.length ≤ 13 ∧ SpOk (b + 3) s' := by
  unfold d_law_changed
  obtain ⟨way, s1, e1, w0, w1, k1⟩ := v_draw (many := 3) hs (by omega) (by decide) (by decide)
  obtain ⟨at0, s2, e2, a0, a1, k2⟩ := v_draw (many := (bl.length : Int) + 1) k1 (by omega) (by omega) (by omega)
  obtain ⟨a, rfl⟩ : ∃ a : Nat, at0 = a := ⟨at0.toNat, by omega⟩
  rw [e1]
  simp only [bind_ok]
  rw [e2]
  simp only [bind_ok]
  rw [v_slotI (q := bl) (p := a) (by omega), up_ok]
  simp only [bind_ok]
  have ec : (if (decide (way = (0 : Int))) = true then .ok true s2 else (ofO ((eqO bl ([] : List ((Int) × (Int))))) s2) : O Sp Bool) = .ok (decide (way = 0 ∨ bl = [])) s2 := by
    by_cases q : way = 0
    · rw [if_pos (decide_eq_true q), decide_eq_true (.inl q)]
    · rw [if_neg (by simp [q]), eqO_pairs, ofO_some]
      simp [q]
  rw [ec]
  simp only [bind_ok]
  refine sat_if (fun h => ?_) (fun h => ?_)
  · obtain ⟨y, s3, e3, y0, y1, k3⟩ := v_draw (many := 2) k2 (by omega) (by decide) (by decide)
    rw [e3]
    simp only [bind_ok]
    rw [lstO_ok' (by simp)]
    simp only [bind_ok]
    rw [addL_ok (by simp; omega)]
    refine sat_ok ⟨V.snoc (by simp only; omega) (by simp only; omega) (by simp only; rw [Int.toNat_natCast]; omega), by simp; omega, k3⟩
  · have h := of_decide_eq_false h
    have hne : bl ≠ [] := fun z => h (.inr z)
    have hpos := List.length_pos_iff.mpr hne
    obtain ⟨i, hi, ei⟩ : ∃ i : Nat, i < bl.length ∧ (if (1 : Int) > (a : Int) then (1 : Int) else (a : Int)) = ((i + 1 : Nat) : Int) := by
      by_cases q : a = 0
      · exact ⟨0, hpos, by rw [if_pos (by omega)]; rfl⟩
      · exact ⟨a - 1, by omega, by rw [if_neg (by omega)]; omega⟩
    rw [ei]
    obtain ⟨p, hp⟩ : ∃ p, bl[i]? = some p := ⟨bl[i], List.getElem?_eq_getElem hi⟩
    obtain ⟨v1, v2, v3⟩ := V i p hp
    have hpm := List.mem_of_getElem? hp
    have hkid : ∀ r ∈ bl, r.2 = (i : Int) + 1 → p.1 < r.1 := fun r hr e => by
      obtain ⟨j, hj⟩ := List.mem_iff_getElem?.mp hr
      have := (V j r hj).2.2
      rw [show r.2.toNat = i + 1 by omega, slI_succ hp] at this
      exact this
    have hat : atI bl (((i + 1 : Nat) : Int) - 1) = some p := by
      rw [show ((i + 1 : Nat) : Int) - 1 = (i : Int) by omega]
      exact at_cast hp
    rw [hat]
    simp only [ofO_some, bind_ok]
    obtain ⟨u, hu⟩ : ∃ u : Nat, p.2 = (u : Int) := ⟨p.2.toNat, by omega⟩
    rw [hu, v_slotI (q := bl) (p := u) (by omega), up_ok]
    simp only [bind_ok]
    rw [smL_ok (by omega)]
    simp only [bind_ok]
    rw [addL_ok (by
      rw [List.length_map]
      exact Nat.le_trans (Nat.add_le_add_right (List.length_filter_le _ _) _) (by rw [List.length_singleton]; omega))]
    simp only [ofO_some, bind_ok]
    have hv3 : slI bl u < p.1 := by rw [hu, Int.toNat_natCast] at v3; exact v3
    refine sat_if (fun h2 => ?_) (fun h2 => ?_)
    · obtain ⟨m, m1, m2, m3⟩ := minO_ok (l := ((bl.filter fun x => decide (x.2 = ((i + 1 : Nat) : Int))).map fun x => x.1) ++ [p.1 + 3]) (by simp)
      have hm : p.1 < m := by
        rcases List.mem_append.mp m2 with q | q
        · rw [List.mem_map] at q
          obtain ⟨r, hr, rfl⟩ := q
          rw [List.mem_filter, decide_eq_true_eq] at hr
          exact hkid r hr.1 (by omega)
        · rw [List.mem_singleton] at q; omega
      have hmx : m ≤ p.1 + 3 := m3 _ (by simp)
      rw [m1]
      simp only [ofO_some, bind_ok]
      have hbig : m - slI bl u - 1 < 2 ^ 60 := by
        have h1 := hS p hpm
        have h2 := slI_nn V u (by omega)
        omega
      · obtain ⟨y, s3, e3, y0, y1, k3⟩ := v_draw (many := m - slI bl u - 1) k2 (by omega) (by omega) hbig
        rw [e3]
        simp only [bind_ok]
        rw [lstO_ok' (by simp)]
        simp only [bind_ok]
        refine sat_eq (set_cut bl hi (by omega) _ s3) ⟨VT_set V hi (by simp only; omega) (by simp only; omega) (by simp only; rw [Int.toNat_natCast]; omega) (fun r hr e => ?_), by rw [List.length_set]; omega, k3⟩
        simp only
        have := m3 r.1 (List.mem_append_left _ (List.mem_map.mpr ⟨r, List.mem_filter.mpr ⟨hr, decide_eq_true (by omega)⟩, rfl⟩))
        omega
    · rw [rg1_ok (by omega) (by omega)]
      simp only [bind_ok]
      rw [smL_ok (by rw [rgI_length]; omega)]
      simp only [bind_ok]
      rw [lcO_ok (fun x => decide (slI bl x.toNat < p.1)) (fun x => x) _ _ (fun x hx s => by
        have hx := rgI_mem2.mp hx
        obtain ⟨c, rfl⟩ : ∃ c : Nat, x = c := ⟨x.toNat, by omega⟩
        rw [v_slotI (q := bl) (p := c) (by omega), up_ok]
        simp only [bind_ok, Int.toNat_natCast]) (fun x _ _ s => rfl), List.map_id']
      simp only [bind_ok]
      obtain ⟨y, s3, e3, hy, k3⟩ := v_pick_sli (l := (rgI 0 ((i + 1 : Nat) : Int).toNat).filter fun x => decide (slI bl x.toNat < p.1)) k2 (by omega) (fun z => by
        have : (0 : Int) ∈ (rgI 0 ((i + 1 : Nat) : Int).toNat).filter fun x => decide (slI bl x.toNat < p.1) := List.mem_filter.mpr ⟨rgI_mem2.mpr ⟨by omega, by omega⟩, decide_eq_true (by
          have h := slI_nn V u (by omega)
          show slI bl (0 : Int).toNat < p.1
          have e0 : slI bl (0 : Int).toNat = 0 := rfl
          rw [e0]
          omega)⟩
        rw [z] at this
        cases this) (by
          have := List.length_filter_le (fun x : Int => decide (slI bl x.toNat < p.1)) (rgI 0 ((i + 1 : Nat) : Int).toNat)
          rw [rgI_length] at this
          omega)
      rw [e3]
      simp only [bind_ok]
      rw [lstO_ok' (by simp)]
      simp only [bind_ok]
      rw [List.mem_filter, rgI_mem2, decide_eq_true_eq] at hy
      obtain ⟨⟨y0, y1⟩, y2⟩ := hy
      refine sat_eq (set_cut bl hi (by omega) _ s3) ⟨VT_set V hi (by simp only; omega) (by simp only; omega) y2 (fun r hr e => ?_), by rw [List.length_set]; omega, k3⟩
      exact hkid r hr e
end LB

set_option Elab.async false
set_option linter.all false
set_option maxRecDepth 100000
set_option maxHeartbeats 400000
set_option autoImplicit false
/-! C42: law k42 answers true. -/
namespace LB
open VS TL LM
open L2 (atI ixN)
/-! a chain -/
def cb (n : Nat) : Bl := (rgI 1 n).map fun k => (k, k - 1)
theorem cb_len (n : Nat) : (cb n).length = n := by unfold cb; rw [List.length_map, rgI_length]
theorem cb_get {n i : Nat} (h : i < n) : (cb n)[i]? = some ((i : Int) + 1, (i : Int)) := by
  unfold cb rgI
  rw [List.getElem?_map, List.getElem?_map, List.getElem?_range h]
  simp only [Option.map_some]
  congr 2
  · omega
  · omega
theorem cb_vt (n : Nat) : VT (cb n) := fun i p h => by
  have hi := (List.getElem?_eq_some_iff.mp h).1
  rw [cb_len] at hi
  rw [cb_get hi] at h
  cases h
  refine ⟨by simp only; omega, by simp only; omega, ?_⟩
  simp only [Int.toNat_natCast]
  cases i with
  | zero => rw [slI_zero]; omega
  | succ j =>
    rw [slI_succ (cb_get (by omega))]
    simp only
    omega
def chL : Nat → Nat → List (Int × Fm)
  | _, 0 => []
  | b, m + 1 => [(((b + 1 : Nat) : Int), fmL (chL (b + 1) m))]
theorem cb_fm (n : Nat) : ∀ (m b : Nat), b + m = n → fm (cb n) b = chL b m
  | 0, b, h => by
    rw [fm_eq (cb_vt n) (by rw [cb_len]; omega), ← kd_all (cb_vt n) b (Nat.le_refl _) (by rw [cb_len]; omega)]
    have : kdB (cb n) b b = [] := by
      unfold kdB
      rw [cb_len, show n - b = 0 by omega]
      rfl
    rw [this, List.map_nil, sortFm_nil]
    rfl
  | m + 1, b, h => by
    rw [fm_eq (cb_vt n) (by rw [cb_len]; omega), ← kd_all (cb_vt n) b (Nat.le_refl _) (by rw [cb_len]; omega)]
    have : kdB (cb n) b b = [b + 1] := by
      unfold kdB
      rw [cb_len, show n - b = m + 1 by omega, List.range'_succ, List.filter_cons_of_pos, List.filter_eq_nil_iff.mpr]
      · intro c hc
        rw [List.mem_range'_1] at hc
        have := paN_succ (cb_get (n := n) (i := c - 1) (by omega))
        rw [show c - 1 + 1 = c by omega] at this
        rw [this]
        simp only [Int.toNat_natCast, decide_eq_true_eq]
        omega
      · have := paN_succ (cb_get (n := n) (i := b) (by omega))
        rw [this]
        simp
    rw [this, List.map_cons, List.map_nil, cb_fm n m (b + 1) (by omega), slI_succ (cb_get (by omega))]
    rw [sortFm_one]
    rfl
theorem chain_fold (s : Sp) : foldO (fun i_376 (v_375 : (F)) s_377 => (let chain_380 := (En.e (Tu.mk [(i_376, v_375)])); (.ok chain_380 s_377))) (rgD 60 60) (En.e (Tu.mk ([] : List (Int)))) s = (.ok (fF (chL 0 60)) s : O Sp F) := by
  have key : Sat (foldO (fun i_376 (v_375 : (F)) s_377 => (let chain_380 := (En.e (Tu.mk [(i_376, v_375)])); (.ok chain_380 s_377))) (rgD 60 60) (En.e (Tu.mk ([] : List (Int)))) s : O Sp F) fun v s' => v = fF (chL 0 60) ∧ s' = s := by
    refine (sat_fold (fun pre v s' => v = fF (chL (60 - pre.length) pre.length) ∧ s' = s) ⟨rfl, rfl⟩ ?_).mono fun v s' h => ?_
    · rintro pre x post v s2 e ⟨rfl, rfl⟩
      have hlt : pre.length < 60 := by
        have := congrArg List.length e
        rw [show ((60 : Int)) = ((60 : Nat) : Int) from rfl, rgD_len, List.length_append, List.length_cons] at this
        omega
      have ex : x = ((60 - pre.length : Nat) : Int) := by
        have h2 : (rgD 60 60)[pre.length]? = some x := by rw [e]; simp
        have h3 := rgD_get 60 pre.length hlt
        rw [show ((60 : Nat) : Int) = 60 from rfl] at h3
        rw [h3] at h2
        have := Option.some.inj h2
        omega
      refine sat_ok ⟨?_, rfl⟩
      rw [List.length_append, List.length_singleton, chL, show 60 - (pre.length + 1) + 1 = 60 - pre.length by omega]
      show F.tup [F.tup [F.int x, fF (chL (60 - pre.length) pre.length)]] = F.tup [F.tup [F.int _, F.tup (fmFs (fmL (chL (60 - pre.length) pre.length)))]]
      rw [fF_fmL, ex]
    · rw [show ((60 : Int)) = ((60 : Nat) : Int) from rfl, rgD_len] at h
      exact h
  obtain ⟨v, s', e, rfl, rfl⟩ := key
  exact e
/-! three hundred on the root -/
def fb : Bl := (rgI 0 300).map fun x => ((301 : Int) - x, (0 : Int))
theorem fb_len : fb.length = 300 := by unfold fb; rw [List.length_map, rgI_length]
theorem fb_get {i : Nat} (h : i < 300) : fb[i]? = some ((301 : Int) - i, (0 : Int)) := by
  unfold fb rgI
  rw [List.getElem?_map, List.getElem?_map, List.getElem?_range h]
  simp only [Option.map_some]
  congr 2
  omega
theorem fb_vt : VT fb := fun i p h => by
  have hi := (List.getElem?_eq_some_iff.mp h).1
  rw [fb_len] at hi
  rw [fb_get hi] at h
  cases h
  refine ⟨by simp only; omega, by simp only; omega, ?_⟩
  show slI fb 0 < _
  rw [slI_zero]
  simp only
  omega
theorem fb_pa {c : Nat} (h1 : 1 ≤ c) (h2 : c ≤ 300) : paN fb c = 0 := by
  have := paN_succ (fb_get (i := c - 1) (by omega))
  rw [show c - 1 + 1 = c by omega] at this
  rw [this]
  rfl
theorem fb_no {c : Nat} (h1 : 1 ≤ c) (h2 : c ≤ 300) : fm fb c = [] := by
  rw [fm_eq fb_vt (by rw [fb_len]; omega)]
  have : kdB fb c 0 = [] := List.eq_nil_iff_forall_not_mem.mpr fun x hx => by
    obtain ⟨x1, x2, x3⟩ := mem_kd.mp hx
    rw [fb_len] at x2
    rw [fb_pa (by omega) x2] at x3
    omega
  rw [this, List.map_nil, sortFm_nil]
def fbL : List (Int × Fm) := (rgI 2 300).map fun x => (x, Fm.nil)
theorem fb_rev : ((List.range' 1 300).map fun b => (302 : Int) - (b : Nat)) = (rgI 2 300).reverse := by decide +kernel
theorem fb_fm : fm fb 0 = fbL := by
  rw [fm_eq fb_vt (Nat.zero_le _)]
  have e1 : kdB fb 0 0 = List.range' 1 300 := by
    unfold kdB
    rw [fb_len]
    refine List.filter_eq_self.mpr fun c hc => ?_
    rw [List.mem_range'_1] at hc
    rw [fb_pa (by omega) (by omega)]
    rfl
  have e2 : (kdB fb 0 0).map (fun c => ((slI fb c, fmL (fm fb c)) : Int × Fm)) = fbL.reverse := by
    rw [e1]
    unfold fbL
    rw [← List.map_reverse, ← fb_rev, List.map_map]
    refine List.map_congr_left fun c hc => ?_
    rw [List.mem_range'_1] at hc
    have := slI_succ (fb_get (i := c - 1) (by omega))
    rw [show c - 1 + 1 = c by omega] at this
    rw [this, fb_no (by omega) (by omega)]
    simp only [Function.comp_apply]
    congr 1
    omega
  rw [e2]
  refine sortFm_sorted (List.reverse_perm _) ?_
  unfold fbL rgI
  rw [List.map_map, List.pairwise_map]
  refine List.pairwise_lt_range.imp fun {a b} h => ?_
  exact fle_lt (by simp only; omega)
theorem ok_fb : okP 128 (fF fbL) = true := by
  refine okP_le (n := 3) (by omega) (okP_tup (n := 2) ?_ fun x hx => ?_)
  · unfold fbL
    rw [List.length_map, List.length_map, rgI_length]
    omega
  · rw [List.mem_map] at hx
    obtain ⟨y, hy, rfl⟩ := hx
    unfold fbL at hy
    rw [List.mem_map] at hy
    obtain ⟨i, _, rfl⟩ := hy
    refine okP_tup (n := 1) (by simp) fun z hz => ?_
    rcases List.mem_cons.mp hz with rfl | hz
    · simp [okP]
    · rw [List.mem_singleton] at hz
      subst hz
      rfl
theorem ok_two {a b : F} (ha : okP 128 a = true) (hb : okP 128 b = true) : okP 129 (En.e ([a, b] : List F)) = true := okP_lst (n := 128) (by simp) fun x hx => by
  have hx : x ∈ [a, b] := hx
  simp only [List.mem_cons, List.not_mem_nil, or_false] at hx
  rcases hx with rfl | rfl
  · exact ha
  · exact hb
theorem rg2_ok {σ : Type} {i j : Int} {s : σ} (h : 0 ≤ i) (h' : i < 2 ^ 60) (h2 : 0 ≤ j) (h2' : j < 2 ^ 60) : rg2 i j s = .ok (rgI i (j - i).toNat) s := by
  unfold rg2
  rw [if_pos ⟨by unfold smI; rw [inRg_iff]; omega, by unfold smI; rw [inRg_iff]; omega⟩]
  rfl
theorem mulL_ok {α : Type} {a : List α} {k : Nat} (h : a.length * k ≤ 1000000) (hk : k ≤ 1000000) : mulL a (k : Int) = some (List.replicate k a).flatten := by
  unfold mulL
  rw [if_pos ⟨decide_eq_true (by omega), decide_eq_true (by omega), by unfold small; simpa using h⟩, Int.toNat_natCast]
theorem fm_nil : fm [] 0 = [] := by
  rw [fm_eq VT.nil (Nat.zero_le _)]
  exact sortFm_nil
theorem v_tree0 : d_Tree__init_a_d1 = .ok (mkT []) () := by rfl
theorem small_form {bl : Bl} (V : VT bl) (hl : bl.length ≤ 60) : d_Tree_form (mkT bl) = .ok (fF (fm bl 0)) () := v_tform V (by omega) fun c h1 h2 => by
  have := fm_deep bl c
  omega
theorem alike_ok {a b : Bl} (Va : VT a) (Vb : VT b) (ha : a.length ≤ 20) (hb : b.length ≤ 20) : ∃ c, eqA (fF (fm a 0)) (fF (fm b 0)) = some c ∧ (c = true ↔ fm a 0 = fm b 0) ∧ d_alike (mkT a) (mkT b) = .ok c () := by
  obtain ⟨c, h1, h2⟩ := eqA_form (a := fm a 0) (b := fm b 0) (by have := fm_deep a 0; omega) (by have := fm_deep b 0; omega)
  refine ⟨c, h1, h2, ?_⟩
  unfold d_alike
  rw [small_form Va (by omega), small_form Vb (by omega)]
  simp only [bind_ok]
  have e : (En.e (fF (fm a 0)) : F) = fF (fm a 0) := rfl
  have e' : (En.e (fF (fm b 0)) : F) = fF (fm b 0) := rfl
  rw [e, e', h1]
  rfl
theorem flX {σ S R α : Type} (f : S → σ → O σ α) (g : R → α) (v : S) (s : σ) : flB f g (.nx v) s = f v s := rfl
theorem bE {σ α β : Type} {o : O σ β} {k : β → σ → O σ α} {b : β} {s : σ} {r : O σ α} (e : o = .ok b s) (h : k b s = r) : o.bind k = r := by rw [e]; exact h
theorem law_true (s : Sp) (hs : SpOk 0 s) : ∃ s', d_law s = .ok true s' := by
  have key : Sat (d_law s) fun b _ => b = true := by
    unfold d_law
    refine sat_bindE (rg1_ok (by omega) (by omega)) ?_
    refine sat_forNk (fun pre (_ : Unit) s' => SpOk (100 * pre.length) s') (by simpa using hs) ?_ ?_
    · rintro pre x post v s2 e k2
      have hp : pre.length < 6 := by
        have := congrArg List.length e
        rw [rgI_length, List.length_append, List.length_cons] at this
        omega
      refine sat_bind (v_t_drawn k2 (by omega)) ?_
      rintro bl0 s3 ⟨V0, hl0, hS0, k3⟩
      obtain ⟨d, s4, e4, d0, d1, k4⟩ := v_draw (many := 2) k3 (by omega) (by decide) (by decide)
      refine sat_bindE (b := decide (d = 0)) (s := s4) (by rw [e4]; rfl) ?_
      refine sat_bind (Q1 := fun v s' => VT v ∧ v.length ≤ 12 ∧ (∀ p ∈ v, p.1 ≤ 2 ^ 40) ∧ SpOk (100 * pre.length + 38) s') ?_ ?_
      · refine sat_if (fun _ => ?_) (fun _ => ?_)
        · refine sat_bindE (v_dpB V0 (by omega) s4) (sat_ok ⟨dpB_vt V0, ?_, fun p hp => ?_, k4⟩)
          · unfold dpB
            rw [List.length_map]
            exact hl0
          · have := dpB_le V0 p hp
            omega
        · exact sat_ok ⟨V0, hl0, hS0, k4⟩
      rintro bl s5 ⟨V, hl, hS, k5⟩
      refine sat_bind (v_renum V (by omega) k5 (by omega)) ?_
      rintro ot s6 ⟨Vo, lo, fo, k6⟩
      refine sat_bind (v_changed V hl hS k6 (by omega)) ?_
      rintro bt s7 ⟨Vb, lb, k7⟩
      have i1 := v_tinit V (by omega)
      have i2 := v_tinit Vo (by omega)
      have i3 := v_tinit Vb (by omega)
      have f1 := small_form V (by omega)
      have f2 := small_form Vo (by omega)
      rw [fo] at f2
      refine sat_bindE (b := mkT bl) (s := s7) (by rw [i1]; rfl) ?_
      have l1 : d_law_form 16 bl 0 = .ok (fF (fm bl 0)) () := by
        rw [show (0 : Int) = ((0 : Nat) : Int) from rfl, v_lform V (by omega) 16 0 (by omega) (by omega) (by omega), fmG_fm V (by omega) (by omega)]
      have l2 : d_law_form 16 bt 0 = .ok (fF (fm bt 0)) () := by
        rw [show (0 : Int) = ((0 : Nat) : Int) from rfl, v_lform Vb (by omega) 16 0 (by omega) (by omega) (by omega), fmG_fm Vb (by omega) (by omega)]
      refine sat_bindE (b := fF (fm bl 0)) (s := s7) (by rw [l1]; rfl) ?_
      refine sat_bindE (rg1_ok (by omega) (by omega)) ?_
      have okf := ok_fm V (by omega)
      obtain ⟨c1, a1, b1, g1⟩ := alike_ok V Vo (by omega) (by omega)
      obtain ⟨c2, a2, b2, g2⟩ := alike_ok Vo V (by omega) (by omega)
      obtain ⟨c3, a3, b3, g3⟩ := alike_ok V V (by omega) (by omega)
      obtain ⟨c4, a4, b4, g4⟩ := alike_ok V Vb (by omega) (by omega)
      obtain ⟨c5, a5, b5, g5⟩ := alike_ok Vb V (by omega) (by omega)
      have t1 : c1 = true := b1.mpr fo.symm
      have t2 : c2 = true := b2.mpr fo
      have t3 : c3 = true := b3.mpr rfl
      have t45 : c4 = c5 := by
        cases c4 <;> cases c5
        · rfl
        · exact absurd (b4.mpr (b5.mp rfl).symm) (by simp)
        · exact absurd (b5.mpr (b4.mp rfl).symm) (by simp)
        · rfl
      subst t1 t2 t3 t45
      refine sat_forNk (fun _ (_ : Unit) s' => s' = s7) rfl ?_ ?_
      · rintro pre2 x2 post2 v2 s8 _ rfl
        refine sat_bindE (b := false) (s := s8) ?_ ?_
        · rw [f1, i2]
          simp only [up_ok, bind_ok]
          rw [f2]
          simp only [up_ok, bind_ok]
          rw [lstO_ok' (by simp)]
          simp only [bind_ok]
          rw [sameM_refl (ok_two okf okf)]
          rfl
        · rw [if_neg (by simp)]
          exact sat_ok ⟨(), rfl, rfl⟩
      · rintro v2 s8 rfl
        rw [flX]
        refine sat_bindE (b := false) (s := s8) ?_ ?_
        · rw [i2]
          simp only [up_ok, bind_ok]
          rw [g1, g2, g3]
          simp only [up_ok, bind_ok]
          rw [lstO_ok' (by simp)]
          simp only [bind_ok]
          have : mulL ([true] : List Bool) (3 : Int) = some [true, true, true] := mulL_ok (a := [true]) (k := 3) (by decide) (by decide)
          rw [this]
          simp only [ofO_some, bind_ok]
          rw [sameM_refl (show okP 129 (En.e ([true, true, true] : List Bool)) = true from okP_lst (n := 128) (by simp) fun x hx => by
            simp only [List.map_cons, List.map_nil, List.mem_cons, List.not_mem_nil, or_false] at hx
            rcases hx with rfl | rfl | rfl <;> rfl)]
          rfl
        rw [if_neg (by simp)]
        refine sat_bindE (b := false) (s := s8) ?_ ?_
        · rw [i3]
          simp only [up_ok, bind_ok]
          rw [g4, l2]
          simp only [up_ok, bind_ok]
          have e : (En.e (fF (fm bl 0)) : F) = fF (fm bl 0) := rfl
          have e' : (En.e (fF (fm bt 0)) : F) = fF (fm bt 0) := rfl
          rw [e, e', a5]
          simp only [ofO_some, bind_ok]
          have := sameM_bl c4 c4
          rw [show (En.e c4 : F) = F.bl c4 from rfl, this, beq_self_eq_true]
          rfl
        rw [if_neg (by simp)]
        refine sat_bindE (b := false) (s := s8) ?_ ?_
        · rw [i2]
          simp only [up_ok, bind_ok]
          unfold d_Tree__eq
          rw [show (mkT bl).pairs = bl from rfl, show (mkT ot).pairs = ot from rfl, eqO_pairs]
          simp only [ofO_some, up_ok, bind_ok, decide_true, Bool.not_true, Bool.false_eq_true, if_false]
          rw [i3]
          simp only [up_ok, bind_ok]
          rw [show (mkT bt).pairs = bt from rfl, eqO_pairs]
          simp only [ofO_some, up_ok, bind_ok, decide_true, Bool.not_true]
        rw [if_neg (by simp)]
        exact sat_ok ⟨(), rfl, by rw [List.length_append, List.length_singleton]; exact k7.mono (by omega)⟩
    · rintro v s2 k2
      rw [flX]
      refine sat_bindE (b := rgD 60 60) (s := s2) (by
        have := rg3_ok (n := 60) (by omega) s2
        exact this) ?_
      refine sat_bindE (chain_fold s2) ?_
      have hch : fm (cb 60) 0 = chL 0 60 := cb_fm 60 60 0 rfl
      have fc : d_Tree_form (mkT (cb 60)) = .ok (fF (chL 0 60)) () := by
        rw [← hch]
        exact small_form (cb_vt 60) (by rw [cb_len]; omega)
      have ff : d_Tree_form (mkT fb) = .ok (fF fbL) () := by
        rw [← fb_fm]
        refine v_tform fb_vt (by rw [fb_len]; omega) fun c h1 h2 => ?_
        rw [fb_len] at h2
        rw [fb_no h1 h2]
        exact Nat.zero_le _
      refine sat_bindE (b := [fF (chL 0 60), fF fbL]) (s := s2) ?_ ?_
      · refine bE (b := fF (chL 0 60)) (s := s2) (bE (b := mkT (cb 60)) (s := s2) (bE (b := cb 60) (s := s2) (bE (rg2_ok (by omega) (by omega) (by omega) (by omega)) (bE (smL_ok (by rw [rgI_length]; decide)) rfl)) ?_) ?_) (bE (b := fF fbL) (s := s2) (bE (b := mkT fb) (s := s2) (bE (b := fb) (s := s2) (bE (rg1_ok (by omega) (by omega)) (bE (smL_ok (by rw [rgI_length]; decide)) rfl)) ?_) ?_) (lstO_ok' (by simp)))
        · rw [v_tinit (cb_vt 60) (by rw [cb_len]; omega)]; rfl
        · rw [fc]; rfl
        · rw [v_tinit fb_vt (by rw [fb_len]; omega)]; rfl
        · rw [ff]; rfl
      have okc : okP 128 (fF (chL 0 60)) = true := by
        rw [← hch]
        exact ok_fm (cb_vt 60) (by rw [cb_len]; omega)
      refine sat_bindE (b := false) (s := s2) ?_ ?_
      · rw [rg2_ok (by omega) (by omega) (by omega) (by omega)]
        simp only [bind_ok]
        rw [smL_ok (by rw [rgI_length]; decide)]
        simp only [bind_ok]
        have e3 : (En.e (Tu.mk ((rgI 2 ((302 : Int) - 2).toNat).map fun x_390 => (x_390, (Tu.mk ([] : List (Int)))))) : F) = fF fbL := by
          show F.tup (((rgI 2 300).map fun x => (x, (Tu.mk ([] : List Int)))).map En.e) = F.tup (((rgI 2 300).map fun x => (x, Fm.nil)).map itF)
          rw [List.map_map, List.map_map]
          rfl
        rw [e3, lstO_ok' (by simp)]
        simp only [bind_ok]
        rw [sameM_refl (ok_two okc ok_fb)]
        rfl
      rw [if_neg (by simp)]
      have f0 : d_Tree_form (mkT []) = .ok (fF []) () := by
        have := small_form VT.nil (by simp)
        rw [fm_nil] at this
        exact this
      refine sat_bindE (b := true) (s := s2) ?_ ?_
      · rw [v_tree0]
        simp only [up_ok, bind_ok]
        rw [f0]
        simp only [up_ok, bind_ok]
        rw [show (En.e (Tu.mk ([] : List Int)) : F) = fF [] from rfl, sameM_refl (okP_le (n := 1) (by omega) (by rfl))]
        rfl
      rw [if_pos rfl]
      obtain ⟨c, h1, h2, h3⟩ := alike_ok VT.nil VT.nil (by simp) (by simp)
      refine sat_eq (a := c) (s := s2) ?_ (h2.mpr rfl)
      rw [v_tree0]
      simp only [up_ok, bind_ok]
      rw [h3]
      rfl
  obtain ⟨b, s', e, rfl⟩ := key
  exact ⟨s', e⟩
end LB

theorem PySem.Challenge.cw_longbough_k42_forms_of_trees_holds : PySem.Challenge.rw_longbough_k42_forms_of_trees.Holds := by
  exact LBE.main fun ns _ => LB.r_law ns (LB.law_true _ (LB.spOk0 ns))
