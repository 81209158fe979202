import PyProof.Rows.All
import Wide.All
import OpenK.AllK
import Wide.FinOn
import HandS.ForMost
import HandS.ForExc
import HandS.HeadHook2
import HandS.Lambda
import HandS.Style
import HandS.NoneIn
import HandS.Wide
import HandS.Deep
import HandS.TupAny
import HandS.SortInts
import HandS.StrSplit
import HandS.Replace
import HandS.IsInst
import KE.KCallOwn
import KE.KOpsOwn
import HandS.SlotsOwn
import KE.GoesEnum
import KE.GoesZip
import KE.GoesMore
import HandS.Iter
import HandS.SetFor
import HandS.Strs
import HandS.Star
import HandS.Conv
import HandS.Head0
import HandS.Head1
import HandS.Head2
import HandS.HeadEnd
import HandS.HeadHook1
import KE.KStateDown
import PyProof.ListStr
import HandS.RaiseMore
import HandS.More
import KE.KAssignIn
import HandS.DictComp
import HandS.ExcInit
import HandS.Nested
import HandS.TryMany
import HandS.ExcField
import KE.KExcSuper
import HandS.HeadWalk
import PyProof.AutoSeq1
import HandS.SortKw
import HandS.NamedTupSort
import KE.KSortKey
import HandS.Text
import HandS.Codes
import KE.IntTextText
import PyProof.StrLawsChain
import PySem.Challenge.RW_longbough_k59_texts_refused
set_option Elab.async false
set_option linter.all false
set_option maxRecDepth 100000
set_option maxHeartbeats 4000000
set_option autoImplicit false
/-! VA: plain data F, values W (data or a cell of the store), the store, how they stand in the abstract heap. -/
namespace VS
open PySem PySem.Spec PyProof.Rows L2

/-- plain data: a text is the list of its code points; scr: the script as it is handed in -/
inductive F where
  | non | bl (b : Bool) | int (i : Int) | str (s : List Nat)
  | tup (xs : List F) | lst (xs : List F) | dct (kvs : List (F × F)) | dlk (t : Bool) (kvs : List (List (Int ⊕ List Nat) × F)) | ktp (ks : List (Int ⊕ List Nat)) | obj (c : Nat) (fs : List (Nat × F)) | scr (ns : List Int)
inductive W where
  | f (x : F) | loc (n : Nat)
inductive Cell where
  | dead | lstF (xs : List F) | lstW (xs : List W) | dct (kvs : List (F × F)) | dti (kvs : List (List (Int ⊕ List Nat) × F)) | ins (c : Nat) (fs : List (Nat × W))
abbrev Store := List Cell
abbrev Env := List (Option W)
inductive Res (α : Type) where
  | ok (a : α) (st : Store) | exc (c : Nat) (fs : List (Nat × F)) (st : Store) | stuck
def Res.bind {α β : Type} (r : Res α) (k : α → Store → Res β) : Res β := match r with
  | .ok a st => k a st
  | .exc c fs st => .exc c fs st
  | .stuck => .stuck

structure ClsI where
  name : Str
  flds : List Nat
structure Tab where
  cls : List ClsI
  fld : List Str
  /-- the defs that make lambdas -/
  mks : List Str := []
  /-- exception classes: the numbers 500, 501, .. -/
  xcl : List Str := []
def Tab.fn (T : Tab) (i : Nat) : Str := T.fld.getD i ⟨#[]⟩
def Tab.ca (T : Tab) (K : PySem.W.Frag) (c : Nat) : Addr := match T.cls[c]? with
  | some ci => He.ga K ci.name
  | none => match T.xcl[c - 500]? with
    | some x => He.ga K x
    | none => 0
def Tab.okf (T : Tab) (c i : Nat) : Bool := match T.cls[c]? with
  | some ci => ci.flds.contains i && decide (i < T.fld.length)
  | none => false
/-- a def's code object, and its table of code objects -/
def codeAd (K : PySem.W.Frag) (x : Str) : Addr := match K.lookup (He.ga K x) with
  | some ⟨_, _, .func fd, _⟩ => (match fd.code with
    | .ref c => c
    | _ => 0)
  | _ => 0
def tabAd (K : PySem.W.Frag) (x : Str) : Addr := match K.lookup (codeAd K x) with
  | some ⟨_, _, .fields vs, _⟩ => (match vs[11]?.getD Value.none with
    | .ref P => P
    | _ => 0)
  | _ => 0
def Tab.tbs (T : Tab) (K : PySem.W.Frag) : List (Addr × Str) := T.mks.map fun x => (tabAd K x, (x ++ ".<locals>.") ++ "<lambda>")
structure TabOk (K : PySem.W.Frag) (T : Tab) : Prop where
  nodup : T.fld.Nodup
  cls : ∀ c, (T.cls[c]?).isSome = true → Cls K (T.ca K c)
  noat : ∀ c i, T.okf c i = true → NoAttr K (T.ca K c) (T.fn i)

def S (l : List Nat) : Str := ⟨l.toArray⟩
/-- a key of a dict -/
def keyF : F → Option Key
  | .int i => some (.inl i)
  | .str s => some (.inr (S s))
  | _ => none

/-- keys of a locked dict -/
def fkK : Int ⊕ List Nat → Key
  | .inl i => .inl i
  | .inr s => .inr (S s)

mutual
inductive RepF (K : PySem.W.Frag) (T : Tab) (Z : Hp) : V → F → Prop
  | non : RepF K T Z .non .non
  | bl (b : Bool) : RepF K T Z (.bl b) (.bl b)
  | int (i : Int) : RepF K T Z (.int i) (.int i)
  | str (s : List Nat) : RepF K T Z (.str (S s)) (.str s)
  | tup {a : Addr} {vs : List V} {xs : List F} : SqT K Z a vs → RepFs K T Z vs xs → RepF K T Z (.ref a) (.tup xs)
  | lst {a : Addr} {vs : List V} {xs : List F} : Z a = some (.lst vs) → RepFs K T Z vs xs → RepF K T Z (.ref a) (.lst xs)
  | dct {a : Addr} {kvs : List (Key × V)} {kfs : List (F × F)} : Z a = some (.dK kvs) → RepFk K T Z kvs kfs → RepF K T Z (.ref a) (.dct kfs)
  | dlt {a : Addr} {o : Obj} {kvs : List (List Key × V)} {kfs : List (List (Int ⊕ List Nat) × F)} : Z a = some (.frz o (.dT kvs)) → RepFt K T Z kvs kfs → RepF K T Z (.ref a) (.dlk true kfs)
  | dlu {a : Addr} {o : Obj} {kvs : List (Key × V)} {kfs : List (List (Int ⊕ List Nat) × F)} : Z a = some (.frz o (.dK kvs)) → RepFu K T Z kvs kfs → RepF K T Z (.ref a) (.dlk false kfs)
  | ktp {a : Addr} (ks : List (Int ⊕ List Nat)) : Z a = some (.tup (ks.map fun k => kV (fkK k))) → RepF K T Z (.ref a) (.ktp ks)
  | obj {a dx : Addr} {fvs : List (Str × V)} {c : Nat} {fs : List (Nat × F)} : Z a = some (.ins (T.ca K c) dx fvs) → (T.cls[c]?).isSome = true → RepFd K T Z c fvs fs → RepF K T Z (.ref a) (.obj c fs)
  | scr {a : Addr} {ns : List Int} : SqL K Z a (ns.map V.int) → RepF K T Z (.ref a) (.scr ns)
inductive RepFs (K : PySem.W.Frag) (T : Tab) (Z : Hp) : List V → List F → Prop
  | nil : RepFs K T Z [] []
  | cons {v : V} {x : F} {vs : List V} {xs : List F} : RepF K T Z v x → RepFs K T Z vs xs → RepFs K T Z (v :: vs) (x :: xs)
inductive RepFk (K : PySem.W.Frag) (T : Tab) (Z : Hp) : List (Key × V) → List (F × F) → Prop
  | nil : RepFk K T Z [] []
  | cons {k : Key} {v : V} {y x : F} {vs : List (Key × V)} {xs : List (F × F)} : keyF y = some k → RepF K T Z v x → RepFk K T Z vs xs → RepFk K T Z ((k, v) :: vs) ((y, x) :: xs)
inductive RepFt (K : PySem.W.Frag) (T : Tab) (Z : Hp) : List (List Key × V) → List (List (Int ⊕ List Nat) × F) → Prop
  | nil : RepFt K T Z [] []
  | cons {k : List Key} {ns : List (Int ⊕ List Nat)} {v : V} {x : F} {vs : List (List Key × V)} {xs : List (List (Int ⊕ List Nat) × F)} : k = ns.map fkK → RepF K T Z v x → RepFt K T Z vs xs → RepFt K T Z ((k, v) :: vs) ((ns, x) :: xs)
inductive RepFu (K : PySem.W.Frag) (T : Tab) (Z : Hp) : List (Key × V) → List (List (Int ⊕ List Nat) × F) → Prop
  | nil : RepFu K T Z [] []
  | cons {k : Key} {n : Int ⊕ List Nat} {v : V} {x : F} {vs : List (Key × V)} {xs : List (List (Int ⊕ List Nat) × F)} : k = fkK n → RepF K T Z v x → RepFu K T Z vs xs → RepFu K T Z ((k, v) :: vs) (([n], x) :: xs)
inductive RepFd (K : PySem.W.Frag) (T : Tab) (Z : Hp) : Nat → List (Str × V) → List (Nat × F) → Prop
  | nil {c : Nat} : RepFd K T Z c [] []
  | cons {c i : Nat} {v : V} {x : F} {vs : List (Str × V)} {xs : List (Nat × F)} : T.okf c i = true → RepF K T Z v x → RepFd K T Z c vs xs → RepFd K T Z c ((T.fn i, v) :: vs) ((i, x) :: xs)
end

theorem same_sqt {K : PySem.W.Frag} {H H' : Hp} {a : Addr} {xs : List V} (e : Same H H') (h : SqT K H a xs) : SqT K H' a xs := by
  rcases h with (h | ⟨o, h⟩) | h
  · exact .inl (.inl (e _ _ h))
  · exact .inl (.inr ⟨o, e _ _ h⟩)
  · exact .inr h
mutual
theorem RepF.mono {K : PySem.W.Frag} {T : Tab} {Z Z' : Hp} (e : Same Z Z') : ∀ {v : V} {x : F}, RepF K T Z v x → RepF K T Z' v x
  | _, _, .non => .non
  | _, _, .bl b => .bl b
  | _, _, .int i => .int i
  | _, _, .str s => .str s
  | _, _, .tup h r => .tup (same_sqt e h) (RepFs.mono e r)
  | _, _, .lst h r => .lst (e _ _ h) (RepFs.mono e r)
  | _, _, .dct h r => .dct (e _ _ h) (RepFk.mono e r)
  | _, _, .ktp ks h => .ktp ks (e _ _ h)
  | _, _, .dlt h r => .dlt (e _ _ h) (RepFt.mono e r)
  | _, _, .dlu h r => .dlu (e _ _ h) (RepFu.mono e r)
  | _, _, .obj h c r => .obj (e _ _ h) c (RepFd.mono e r)
  | _, _, .scr h => .scr (e.seq h)
theorem RepFs.mono {K : PySem.W.Frag} {T : Tab} {Z Z' : Hp} (e : Same Z Z') : ∀ {vs : List V} {xs : List F}, RepFs K T Z vs xs → RepFs K T Z' vs xs
  | _, _, .nil => .nil
  | _, _, .cons r t => .cons (RepF.mono e r) (RepFs.mono e t)
theorem RepFk.mono {K : PySem.W.Frag} {T : Tab} {Z Z' : Hp} (e : Same Z Z') : ∀ {vs : List (Key × V)} {xs : List (F × F)}, RepFk K T Z vs xs → RepFk K T Z' vs xs
  | _, _, .nil => .nil
  | _, _, .cons k r t => .cons k (RepF.mono e r) (RepFk.mono e t)
theorem RepFt.mono {K : PySem.W.Frag} {T : Tab} {Z Z' : Hp} (e : Same Z Z') : ∀ {vs : List (List Key × V)} {xs : List (List (Int ⊕ List Nat) × F)}, RepFt K T Z vs xs → RepFt K T Z' vs xs
  | _, _, .nil => .nil
  | _, _, .cons k r t => .cons k (RepF.mono e r) (RepFt.mono e t)
theorem RepFu.mono {K : PySem.W.Frag} {T : Tab} {Z Z' : Hp} (e : Same Z Z') : ∀ {vs : List (Key × V)} {xs : List (List (Int ⊕ List Nat) × F)}, RepFu K T Z vs xs → RepFu K T Z' vs xs
  | _, _, .nil => .nil
  | _, _, .cons k r t => .cons k (RepF.mono e r) (RepFu.mono e t)
theorem RepFd.mono {K : PySem.W.Frag} {T : Tab} {Z Z' : Hp} (e : Same Z Z') : ∀ {c : Nat} {vs : List (Str × V)} {xs : List (Nat × F)}, RepFd K T Z c vs xs → RepFd K T Z' c vs xs
  | _, _, _, .nil => .nil
  | _, _, _, .cons k r t => .cons k (RepF.mono e r) (RepFd.mono e t)
end

section
variable {K : PySem.W.Frag} {T : Tab} {Z Z' : Hp}
theorem RepFs.length : ∀ {vs : List V} {xs : List F}, RepFs K T Z vs xs → vs.length = xs.length
  | _, _, .nil => rfl
  | _, _, .cons _ t => by rw [List.length_cons, List.length_cons, RepFs.length t]
theorem RepFs.append : ∀ {vs ws : List V} {xs ys : List F}, RepFs K T Z vs xs → RepFs K T Z ws ys → RepFs K T Z (vs ++ ws) (xs ++ ys)
  | _, _, _, _, .nil, s => s
  | _, _, _, _, .cons r t, s => .cons r (RepFs.append t s)
theorem RepFs.get : ∀ {vs : List V} {xs : List F} {i : Nat} {x : F}, RepFs K T Z vs xs → xs[i]? = some x → ∃ v, vs[i]? = some v ∧ RepF K T Z v x
  | _, _, _, _, .nil, h => by simp at h
  | _, _, 0, _, .cons r _, h => by simp at h; subst h; exact ⟨_, rfl, r⟩
  | _, _, i + 1, x, .cons _ t, h => by
    obtain ⟨v, e, r⟩ := RepFs.get (i := i) (x := x) t (by simpa using h)
    exact ⟨v, by simpa using e, r⟩
theorem RepFs.take : ∀ {vs : List V} {xs : List F} (n : Nat), RepFs K T Z vs xs → RepFs K T Z (vs.take n) (xs.take n)
  | _, _, 0, _ => .nil
  | _, _, _ + 1, .nil => .nil
  | _, _, n + 1, .cons r t => .cons r (RepFs.take n t)
theorem RepFs.drop : ∀ {vs : List V} {xs : List F} (n : Nat), RepFs K T Z vs xs → RepFs K T Z (vs.drop n) (xs.drop n)
  | _, _, 0, r => r
  | _, _, _ + 1, .nil => .nil
  | _, _, n + 1, .cons _ t => RepFs.drop n t
theorem RepFs.set {v : V} {x : F} (r : RepF K T Z v x) : ∀ {vs : List V} {xs : List F} (n : Nat), RepFs K T Z vs xs → RepFs K T Z (vs.set n v) (xs.set n x)
  | _, _, _, .nil => .nil
  | _, _, 0, .cons _ t => .cons r t
  | _, _, n + 1, .cons q t => .cons q (RepFs.set r n t)
theorem RepFs.rep : ∀ {vs : List V} {xs : List F} (n : Nat), RepFs K T Z vs xs → RepFs K T Z (List.replicate n vs).flatten (List.replicate n xs).flatten
  | _, _, 0, _ => .nil
  | _, _, n + 1, r => by
    rw [List.replicate_succ, List.replicate_succ, List.flatten_cons, List.flatten_cons]
    exact r.append (RepFs.rep n r)
theorem RepFs.ints : ∀ {vs : List V} {ns : List Int}, RepFs K T Z vs (ns.map F.int) → vs = ns.map V.int
  | _, [], .nil => rfl
  | _, n :: ns, .cons r t => by
    cases r
    rw [RepFs.ints t]
    rfl
theorem RepFs.ofInts : ∀ (ns : List Int), RepFs K T Z (ns.map V.int) (ns.map F.int)
  | [] => .nil
  | n :: ns => .cons (.int n) (RepFs.ofInts ns)
theorem RepFs.bls : ∀ {vs : List V} {ns : List Bool}, RepFs K T Z vs (ns.map F.bl) → vs = ns.map V.bl
  | _, [], .nil => rfl
  | _, n :: ns, .cons r t => by
    cases r
    rw [RepFs.bls t]
    rfl
theorem RepFs.strs' : ∀ {vs : List V} {ns : List (List Nat)}, RepFs K T Z vs (ns.map F.str) → vs = (ns.map S).map V.str
  | _, [], .nil => rfl
  | _, n :: ns, .cons r t => by
    cases r
    rw [RepFs.strs' t]
    rfl
end

/-! ### values, cells, the store -/
inductive RepW (K : PySem.W.Frag) (T : Tab) (Z : Hp) (ι : List Addr) : V → W → Prop
  | f {v : V} {x : F} : RepF K T Z v x → RepW K T Z ι v (.f x)
  | loc {a : Addr} {n : Nat} : ι[n]? = some a → RepW K T Z ι (.ref a) (.loc n)
inductive RepWs (K : PySem.W.Frag) (T : Tab) (Z : Hp) (ι : List Addr) : List V → List W → Prop
  | nil : RepWs K T Z ι [] []
  | cons {v : V} {x : W} {vs : List V} {xs : List W} : RepW K T Z ι v x → RepWs K T Z ι vs xs → RepWs K T Z ι (v :: vs) (x :: xs)
inductive RepWd (K : PySem.W.Frag) (T : Tab) (Z : Hp) (ι : List Addr) : Nat → List (Str × V) → List (Nat × W) → Prop
  | nil {c : Nat} : RepWd K T Z ι c [] []
  | cons {c i : Nat} {v : V} {x : W} {vs : List (Str × V)} {xs : List (Nat × W)} : T.okf c i = true → RepW K T Z ι v x → RepWd K T Z ι c vs xs → RepWd K T Z ι c ((T.fn i, v) :: vs) ((i, x) :: xs)
/-- what a cell says of the object at a -/
def CellOk (K : PySem.W.Frag) (T : Tab) (Z : Hp) (ι : List Addr) (H : Hp) (a : Addr) : Cell → Prop
  | .dead => True
  | .lstF xs => Z a = none ∧ ∃ vs, H a = some (.lst vs) ∧ RepFs K T Z vs xs
  | .lstW xs => Z a = none ∧ ∃ vs, H a = some (.lst vs) ∧ RepWs K T Z ι vs xs
  | .dct kvs => Z a = none ∧ ∃ kvv, H a = some (.dK kvv) ∧ RepFk K T Z kvv kvs
  | .dti kvs => Z a = none ∧ ∃ kvv, H a = some (.dT kvv) ∧ RepFt K T Z kvv kvs
  | .ins c fs => Z a = none ∧ ∃ dx fvs, H a = some (.ins (T.ca K c) dx fvs) ∧ (T.cls[c]?).isSome = true ∧ RepWd K T Z ι c fvs fs
/-- no table of code objects, no code object -/
def Hard (o : HO) : Prop := (∀ ps, o ≠ .tbl ps) ∧ ∀ f, o ≠ .ext f
/-- the tables of code objects -/
structure TabI (K : PySem.W.Frag) (T : Tab) (Z : Hp) (ι : List Addr) (H : Hp) : Prop where
  zt : ∀ b ps, Z b ≠ some (.tbl ps)
  ct : ∀ a ∈ ι, ∀ o, H a = some o → Hard o
  tb : ∀ p ∈ T.tbs K, Z p.1 = none ∧ LamX.TabS H p.1 p.2
theorem TabI.step {K : PySem.W.Frag} {T : Tab} {Z Z' H H' : Hp} {ι ι' : List Addr} (t : TabI K T Z ι H) (hz : ∀ b ps, Z' b = some (.tbl ps) → Z b = some (.tbl ps)) (hc : ∀ a ∈ ι', ∀ o, H' a = some o → Hard o)
    (hh : ∀ b u, H b = some u → b ∉ ι → H' b = some u) (hn : ∀ b u, H b = some u → b ∉ ι → Z b = none → Z' b = none) : TabI K T Z' ι' H' := by
  refine ⟨fun b ps e => t.zt b ps (hz b ps e), hc, fun p hp => ?_⟩
  obtain ⟨h1, ps, h2, h3, h4⟩ := t.tb p hp
  have nP : p.1 ∉ ι := fun hm => (t.ct _ hm _ h2).1 ps rfl
  refine ⟨hn _ _ h2 nP h1, ps, hh _ _ h2 nP, h3, fun pos cv e => ?_⟩
  obtain ⟨c, e1, e2⟩ := h4 pos cv e
  exact ⟨c, e1, hh _ _ e2 fun hm => (t.ct _ hm _ e2).2 _ rfl⟩
/-- the same objects, other data -/
theorem TabI.sub {K : PySem.W.Frag} {T : Tab} {Z H : Hp} {ι ι' : List Addr} (t : TabI K T Z ι H) (h : ∀ a ∈ ι', a ∈ ι) : TabI K T Z ι' H := ⟨t.zt, fun a ha => t.ct a (h a ha), t.tb⟩
structure SimS (K : PySem.W.Frag) (T : Tab) (Z : Hp) (ι : List Addr) (st : Store) (H : Hp) : Prop where
  sub : Same Z H
  len : ι.length = st.length
  nd : ι.Nodup
  cell : ∀ (n : Nat) (a : Addr) (c : Cell), ι[n]? = some a → st[n]? = some c → CellOk K T Z ι H a c
  /-- every cell's address is known to the heap -/
  there : ∀ a ∈ ι, ∃ o, H a = some o
  tab : TabI K T Z ι H
structure Le (Z : Hp) (ι : List Addr) (Z' : Hp) (ι' : List Addr) : Prop where
  z : Same Z Z'
  i : ∀ (n : Nat) (a : Addr), ι[n]? = some a → ι'[n]? = some a
structure EnvR (K : PySem.W.Frag) (T : Tab) (Z : Hp) (ι : List Addr) (σ : L2.St) (env : Env) : Prop where
  len : σ.length = env.length
  get : ∀ (i : Nat) (w : W), env[i]? = some (some w) → ∃ v, σ[i]? = some (some v) ∧ RepW K T Z ι v w

section
variable {K : PySem.W.Frag} {T : Tab} {Z Z' Z1 Z2 H H' : Hp} {ι ι' ι1 ι2 : List Addr} {st : Store} {σ : L2.St} {env : Env}
theorem Le.refl : Le Z ι Z ι := ⟨Same.refl Z, fun _ _ h => h⟩
theorem Le.trans (a : Le Z ι Z1 ι1) (b : Le Z1 ι1 Z2 ι2) : Le Z ι Z2 ι2 := ⟨a.z.trans b.z, fun n c h => b.i n c (a.i n c h)⟩
theorem RepW.mono (e : Le Z ι Z' ι') {v : V} {w : W} (r : RepW K T Z ι v w) : RepW K T Z' ι' v w := by
  cases r with
  | f r => exact .f (r.mono e.z)
  | loc h => exact .loc (e.i _ _ h)
theorem RepWs.mono (e : Le Z ι Z' ι') : ∀ {vs : List V} {ws : List W}, RepWs K T Z ι vs ws → RepWs K T Z' ι' vs ws
  | _, _, .nil => .nil
  | _, _, .cons r t => .cons (r.mono e) (RepWs.mono e t)
theorem RepWd.mono (e : Le Z ι Z' ι') : ∀ {c : Nat} {vs : List (Str × V)} {ws : List (Nat × W)}, RepWd K T Z ι c vs ws → RepWd K T Z' ι' c vs ws
  | _, _, _, .nil => .nil
  | _, _, _, .cons k r t => .cons k (r.mono e) (RepWd.mono e t)
theorem EnvR.mono (e : Le Z ι Z' ι') (r : EnvR K T Z ι σ env) : EnvR K T Z' ι' σ env :=
  ⟨r.len, fun i w h => let ⟨v, q, p⟩ := r.get i w h; ⟨v, q, p.mono e⟩⟩
theorem EnvR.set {v : V} {w : W} (r : EnvR K T Z ι σ env) (q : RepW K T Z ι v w) (i : Nat) : EnvR K T Z ι (σ.set i (some v)) (env.set i (some w)) := by
  refine ⟨by simp [r.len], fun j u h => ?_⟩
  by_cases hj : i = j
  · subst hj
    by_cases hl : i < env.length
    · rw [List.getElem?_set_self hl] at h
      cases h
      exact ⟨v, List.getElem?_set_self (by rw [r.len]; exact hl), q⟩
    · rw [List.getElem?_eq_none (by simp; omega)] at h
      cases h
  · rw [List.getElem?_set_ne hj] at h
    obtain ⟨v', e, p⟩ := r.get j u h
    exact ⟨v', by rw [List.getElem?_set_ne hj]; exact e, p⟩
theorem RepWs.length : ∀ {vs : List V} {xs : List W}, RepWs K T Z ι vs xs → vs.length = xs.length
  | _, _, .nil => rfl
  | _, _, .cons _ t => by rw [List.length_cons, List.length_cons, RepWs.length t]
theorem RepWs.get : ∀ {vs : List V} {xs : List W} {i : Nat} {x : W}, RepWs K T Z ι vs xs → xs[i]? = some x → ∃ v, vs[i]? = some v ∧ RepW K T Z ι v x
  | _, _, _, _, .nil, h => by simp at h
  | _, _, 0, _, .cons r _, h => by simp at h; subst h; exact ⟨_, rfl, r⟩
  | _, _, i + 1, x, .cons _ t, h => by
    obtain ⟨v, e, r⟩ := RepWs.get (i := i) (x := x) t (by simpa using h)
    exact ⟨v, by simpa using e, r⟩
theorem RepWs.append : ∀ {vs ws : List V} {xs ys : List W}, RepWs K T Z ι vs xs → RepWs K T Z ι ws ys → RepWs K T Z ι (vs ++ ws) (xs ++ ys)
  | _, _, _, _, .nil, s => s
  | _, _, _, _, .cons r t, s => .cons r (RepWs.append t s)
theorem RepWs.set {v : V} {x : W} (r : RepW K T Z ι v x) : ∀ {vs : List V} {xs : List W} (n : Nat), RepWs K T Z ι vs xs → RepWs K T Z ι (vs.set n v) (xs.set n x)
  | _, _, _, .nil => .nil
  | _, _, 0, .cons _ t => .cons r t
  | _, _, n + 1, .cons q t => .cons q (RepWs.set r n t)
theorem RepWs.ofFs : ∀ {vs : List V} {xs : List F}, RepFs K T Z vs xs → RepWs K T Z ι vs (xs.map W.f)
  | _, _, .nil => .nil
  | _, _, .cons r t => .cons (.f r) (RepWs.ofFs t)
/-- all data -/
def allF : List W → Option (List F)
  | [] => some []
  | .f x :: ws => (allF ws).map (x :: ·)
  | .loc _ :: _ => none
theorem allF_map (xs : List F) : allF (xs.map W.f) = some xs := by
  induction xs with
  | nil => rfl
  | cons x xs ih => show (allF (xs.map W.f)).map (x :: ·) = _; rw [ih]; rfl
theorem RepWs.allF : ∀ {vs : List V} {ws : List W} {xs : List F}, RepWs K T Z ι vs ws → allF ws = some xs → RepFs K T Z vs xs
  | _, _, _, .nil, h => by cases h; exact .nil
  | _, _, _, .cons (.f r) t, h => by
    rename_i x _ ws
    have h : (VS.allF ws).map (x :: ·) = some _ := h
    cases q : VS.allF ws with
    | none => rw [q] at h; cases h
    | some ys =>
      rw [q] at h
      cases h
      exact .cons r (RepWs.allF t q)
  | _, _, _, .cons (.loc r) t, h => by cases h

/-- the heap has grown: new data stand where nothing stood -/
structure Grow (Z H Z' H' : Hp) : Prop where
  z : Same Z Z'
  h : Same H H'
  sub : Same Z' H'
  new : ∀ a o, H a = some o → Z' a = Z a
  nt : ∀ b ps, Z' b = some (.tbl ps) → Z b = some (.tbl ps)
theorem Grow.refl (s : Same Z H) : Grow Z H Z H := ⟨Same.refl Z, Same.refl H, s, fun _ _ _ => rfl, fun _ _ e => e⟩
theorem Grow.trans (a : Grow Z H Z1 Z2) (b : Grow Z1 Z2 Z' H') : Grow Z H Z' H' :=
  ⟨a.z.trans b.z, a.h.trans b.h, b.sub, fun c o h => (b.new c o (a.h c o h)).trans (a.new c o h), fun c ps e => a.nt c ps (b.nt c ps e)⟩
theorem same_upd {p : Addr} {o : HO} (s : Same Z H) : Same (upd Z p o) (upd H p o) := fun b u e => by
  by_cases h : b = p
  · subst h
    rw [upd_same] at e
    rw [upd_same]
    exact e
  · rw [upd_ne h] at e
    rw [upd_ne h]
    exact s b u e
theorem same_new {p : Addr} {o : HO} (h : H p = none) : Same H (upd H p o) := fun b u e => by
  rw [upd_ne (ne_of_none e h)]
  exact e
theorem free_sub (s : Same Z H) {p : Addr} (h : H p = none) : Z p = none := s.free h
theorem Grow.laid {p : Addr} {o : HO} (s : Same Z H) (h : H p = none) (ht : ∀ ps, o ≠ .tbl ps := by intro _ h; cases h) : Grow Z H (upd Z p o) (upd H p o) :=
  ⟨same_new (free_sub s h), same_new h, same_upd s, fun a u e => by rw [upd_ne (ne_of_none e h)], fun b ps e => by
    by_cases hb : b = p
    · subst hb
      rw [upd_same] at e
      exact absurd (Option.some.inj e) (ht ps)
    · rw [upd_ne hb] at e
      exact e⟩
theorem Grow.le (g : Grow Z H Z' H') : Le Z ι Z' ι := ⟨g.z, fun _ _ h => h⟩
theorem CellOk.grow (g : Grow Z H Z' H') (l : Le Z ι Z' ι') {a : Addr} {c : Cell} (h : CellOk K T Z ι H a c) : CellOk K T Z' ι' H' a c := by
  cases c with
  | dead => trivial
  | lstF xs => obtain ⟨n, vs, e, r⟩ := h; exact ⟨(g.new _ _ e).trans n, vs, g.h _ _ e, r.mono g.z⟩
  | lstW xs => obtain ⟨n, vs, e, r⟩ := h; exact ⟨(g.new _ _ e).trans n, vs, g.h _ _ e, r.mono l⟩
  | dct xs => obtain ⟨n, vs, e, r⟩ := h; exact ⟨(g.new _ _ e).trans n, vs, g.h _ _ e, r.mono g.z⟩
  | dti xs => obtain ⟨n, vs, e, r⟩ := h; exact ⟨(g.new _ _ e).trans n, vs, g.h _ _ e, r.mono g.z⟩
  | ins c fs => obtain ⟨n, dx, fvs, e, hc, r⟩ := h; exact ⟨(g.new _ _ e).trans n, dx, fvs, g.h _ _ e, hc, r.mono l⟩
theorem SimS.grow (s : SimS K T Z ι st H) (g : Grow Z H Z' H') : SimS K T Z' ι st H' :=
  ⟨g.sub, s.len, s.nd, fun n a c h1 h2 => (s.cell n a c h1 h2).grow g g.le, fun a h => let ⟨o, e⟩ := s.there a h; ⟨o, g.h _ _ e⟩, s.tab.step g.nt (fun a ha o e => by
    obtain ⟨u, eu⟩ := s.there a ha
    have := g.h _ _ eu
    rw [e] at this
    cases this
    exact s.tab.ct a ha _ eu) (fun b u e _ => g.h b u e) fun b u e _ hz => by rw [g.new b u e]; exact hz⟩
theorem get_app {α : Type} {l : List α} {b : α} {n : Nat} {a : α} (h : l[n]? = some a) : (l ++ [b])[n]? = some a := by
  rw [List.getElem?_append_left (List.getElem?_eq_some_iff.mp h).1]
  exact h
theorem get_app_cases {α : Type} {l : List α} {b : α} {n : Nat} {a : α} (h : (l ++ [b])[n]? = some a) : l[n]? = some a ∨ (n = l.length ∧ a = b) := by
  by_cases hl : n < l.length
  · rw [List.getElem?_append_left hl] at h
    exact .inl h
  · rw [List.getElem?_append_right (by omega)] at h
    by_cases hn : n = l.length
    · subst hn
      simp at h
      exact .inr ⟨rfl, h.symm⟩
    · rw [List.getElem?_eq_none (by simp; omega)] at h
      cases h
/-- a new cell at p -/
theorem SimS.alloc {p : Addr} {o : HO} {c : Cell} (s : SimS K T Z ι st H) (hp : H p = none) (hc : CellOk K T Z (ι ++ [p]) (upd H p o) p c) (ho : Hard o := by exact ⟨fun _ => nofun, fun _ => nofun⟩) :
    SimS K T Z (ι ++ [p]) (st ++ [c]) (upd H p o) := by
  have hz : Z p = none := free_sub s.sub hp
  have g : Grow Z H Z (upd H p o) := ⟨Same.refl Z, same_new hp, s.sub.trans (same_new hp), fun _ _ _ => rfl, fun _ _ e => e⟩
  have l : Le Z ι Z (ι ++ [p]) := ⟨Same.refl Z, fun _ _ h => get_app h⟩
  have hni : p ∉ ι := fun hm => by
    obtain ⟨u, e⟩ := s.there p hm
    rw [hp] at e; cases e
  refine ⟨g.sub, by simp [s.len], ?_, fun n a d h1 h2 => ?_, fun a ha => ?_, s.tab.step (fun _ _ e => e) (fun a ha u e => ?_) (fun b u e _ => g.h b u e) fun b u e _ hz => hz⟩
  rotate_right
  · rcases List.mem_append.mp ha with ha | ha
    · obtain ⟨u2, e2⟩ := s.there a ha
      have := g.h _ _ e2
      rw [e] at this
      cases this
      exact s.tab.ct a ha _ e2
    · simp at ha
      subst ha
      rw [upd_same] at e
      cases e
      exact ho
  · rw [List.nodup_append]
    exact ⟨s.nd, by simp, fun a ha b hb => by simp at hb; subst hb; exact fun e => hni (e ▸ ha)⟩
  · rcases get_app_cases h1 with h1 | ⟨rfl, rfl⟩
    · rcases get_app_cases h2 with h2 | ⟨rfl, rfl⟩
      · exact (s.cell n a d h1 h2).grow g l
      · exact absurd (List.getElem?_eq_some_iff.mp h1).1 (by rw [s.len]; omega)
    · rcases get_app_cases h2 with h2 | ⟨_, rfl⟩
      · exact absurd (List.getElem?_eq_some_iff.mp h2).1 (by rw [s.len]; omega)
      · exact hc
  · rcases List.mem_append.mp ha with ha | ha
    · obtain ⟨u, e⟩ := s.there a ha
      exact ⟨u, g.h _ _ e⟩
    · simp at ha
      subst ha
      exact ⟨o, upd_same⟩
theorem Le.alloc {p : Addr} : Le Z ι Z (ι ++ [p]) := ⟨Same.refl Z, fun _ _ h => get_app h⟩
/-- a cell is changed; its object o' -/
theorem SimS.write {n : Nat} {a : Addr} {o : HO} {c : Cell} (s : SimS K T Z ι st H) (hn : ι[n]? = some a) (hz : Z a = none) (hc : CellOk K T Z ι (upd H a o) a c) (ho : Hard o := by exact ⟨fun _ => nofun, fun _ => nofun⟩) : SimS K T Z ι (st.set n c) (upd H a o) := by
  have ha : a ∈ ι := List.mem_of_getElem? hn
  refine ⟨fun b u e => ?_, by simp [s.len], s.nd, fun m b d h1 h2 => ?_, fun b hb => ?_, s.tab.step (fun _ _ e => e) (fun b hb u e => ?_) (fun b u e hb => by rw [upd_ne (fun q => hb (by rw [q]; exact ha))]; exact e) fun b u e _ hz => hz⟩
  rotate_right
  · by_cases hba : b = a
    · subst hba
      rw [upd_same] at e
      cases e
      exact ho
    · rw [upd_ne hba] at e
      exact s.tab.ct b hb u e
  · have : b ≠ a := fun q => by subst q; rw [hz] at e; cases e
    rw [upd_ne this]
    exact s.sub b u e
  · by_cases hm : n = m
    · subst hm
      rw [hn] at h1; cases h1
      have hl : n < st.length := by rw [← s.len]; exact (List.getElem?_eq_some_iff.mp hn).1
      rw [List.getElem?_set_self hl] at h2
      cases h2
      exact hc
    · rw [List.getElem?_set_ne hm] at h2
      have hba : b ≠ a := fun q => by
        subst q
        obtain ⟨l1, e1⟩ := List.getElem?_eq_some_iff.mp hn
        obtain ⟨l2, e2⟩ := List.getElem?_eq_some_iff.mp h1
        exact hm ((List.getElem_inj s.nd).mp (e1.trans e2.symm))
      have q := s.cell m b d h1 h2
      cases d with
      | dead => trivial
      | lstF xs => obtain ⟨n, vs, e, r⟩ := q; exact ⟨n, vs, by rw [upd_ne hba]; exact e, r⟩
      | lstW xs => obtain ⟨n, vs, e, r⟩ := q; exact ⟨n, vs, by rw [upd_ne hba]; exact e, r⟩
      | dct xs => obtain ⟨n, vs, e, r⟩ := q; exact ⟨n, vs, by rw [upd_ne hba]; exact e, r⟩
      | dti xs => obtain ⟨n, vs, e, r⟩ := q; exact ⟨n, vs, by rw [upd_ne hba]; exact e, r⟩
      | ins c fs => obtain ⟨n, dx, fvs, e, hc, r⟩ := q; exact ⟨n, dx, fvs, by rw [upd_ne hba]; exact e, hc, r⟩
  · by_cases hba : b = a
    · subst hba
      exact ⟨o, upd_same⟩
    · obtain ⟨u, e⟩ := s.there b hb
      exact ⟨u, by rw [upd_ne hba]; exact e⟩
/-- a cell becomes data -/
theorem SimS.freeze {n : Nat} {a : Addr} {o : HO} (s : SimS K T Z ι st H) (hn : ι[n]? = some a) (hz : Z a = none) (ho : H a = some o) : SimS K T (upd Z a o) ι (st.set n .dead) H := by
  have hs : Same Z (upd Z a o) := same_new hz
  have ha : a ∈ ι := List.mem_of_getElem? hn
  refine ⟨fun b u e => ?_, by simp [s.len], s.nd, fun m b d h1 h2 => ?_, s.there, s.tab.step (fun b ps e => ?_) s.tab.ct (fun _ _ e _ => e) fun b u e hb hz => by rw [upd_ne (fun q => hb (by rw [q]; exact ha))]; exact hz⟩
  rotate_right
  · by_cases hba : b = a
    · subst hba
      rw [upd_same] at e
      cases e
      exact absurd rfl ((s.tab.ct b ha _ ho).1 ps)
    · rw [upd_ne hba] at e
      exact e
  · by_cases hb : b = a
    · subst hb; rw [upd_same] at e; cases e; exact ho
    · rw [upd_ne hb] at e; exact s.sub b u e
  · by_cases hm : n = m
    · subst hm
      have hl : n < st.length := by rw [← s.len]; exact (List.getElem?_eq_some_iff.mp hn).1
      rw [List.getElem?_set_self hl] at h2
      cases h2
      trivial
    · rw [List.getElem?_set_ne hm] at h2
      have hba : b ≠ a := fun q => by
        subst q
        obtain ⟨l1, e1⟩ := List.getElem?_eq_some_iff.mp hn
        obtain ⟨l2, e2⟩ := List.getElem?_eq_some_iff.mp h1
        exact hm ((List.getElem_inj s.nd).mp (e1.trans e2.symm))
      have l : Le Z ι (upd Z a o) ι := ⟨hs, fun _ _ h => h⟩
      have q := s.cell m b d h1 h2
      cases d with
      | dead => trivial
      | lstF xs => obtain ⟨n, vs, e, r⟩ := q; exact ⟨by rw [upd_ne hba]; exact n, vs, e, r.mono hs⟩
      | lstW xs => obtain ⟨n, vs, e, r⟩ := q; exact ⟨by rw [upd_ne hba]; exact n, vs, e, r.mono l⟩
      | dct xs => obtain ⟨n, vs, e, r⟩ := q; exact ⟨by rw [upd_ne hba]; exact n, vs, e, r.mono hs⟩
      | dti xs => obtain ⟨n, vs, e, r⟩ := q; exact ⟨by rw [upd_ne hba]; exact n, vs, e, r.mono hs⟩
      | ins c fs => obtain ⟨n, dx, fvs, e, hc, r⟩ := q; exact ⟨by rw [upd_ne hba]; exact n, dx, fvs, e, hc, r.mono l⟩
/-! ### the store cut back -/
def W.below (b : Nat) : W → Bool
  | .f _ => true
  | .loc n => decide (n < b)
def Cell.below (b : Nat) : Cell → Bool
  | .lstW xs => xs.all (W.below b)
  | .ins _ fs => fs.all fun p => p.2.below b
  | _ => true
def clean (b : Nat) (st : Store) : Bool := st.all (Cell.below b)
theorem RepW.cut {b : Nat} {v : V} {w : W} (r : RepW K T Z ι v w) (h : w.below b = true) : RepW K T Z (ι.take b) v w := by
  cases r with
  | f r => exact .f r
  | loc e =>
    rename_i n
    have hb : n < b := of_decide_eq_true h
    exact .loc (by rw [List.getElem?_take_of_lt hb]; exact e)
theorem RepWs.cut {b : Nat} : ∀ {vs : List V} {ws : List W}, RepWs K T Z ι vs ws → ws.all (W.below b) = true → RepWs K T Z (ι.take b) vs ws
  | _, _, .nil, _ => .nil
  | _, _, .cons r t, h => by
    rw [List.all_cons, Bool.and_eq_true] at h
    exact .cons (r.cut h.1) (RepWs.cut t h.2)
theorem RepWd.cut {b : Nat} : ∀ {c : Nat} {vs : List (Str × V)} {ws : List (Nat × W)}, RepWd K T Z ι c vs ws → (ws.all fun p => p.2.below b) = true → RepWd K T Z (ι.take b) c vs ws
  | _, _, _, .nil, _ => .nil
  | _, _, _, .cons k r t, h => by
    rw [List.all_cons, Bool.and_eq_true] at h
    exact .cons k (r.cut h.1) (RepWd.cut t h.2)
theorem take_get {α : Type} {l : List α} {b n : Nat} {a : α} (h : (l.take b)[n]? = some a) : l[n]? = some a ∧ n < b := by
  by_cases hb : n < b
  · rw [List.getElem?_take_of_lt hb] at h
    exact ⟨h, hb⟩
  · rw [List.getElem?_eq_none (by simp; omega)] at h
    cases h
theorem SimS.cut {b : Nat} (s : SimS K T Z ι st H) (h : clean b (st.take b) = true) : SimS K T Z (ι.take b) (st.take b) H := by
  refine ⟨s.sub, by simp [s.len], s.nd.sublist (List.take_sublist b ι), fun n a c h1 h2 => ?_, fun a ha => s.there a (List.mem_of_mem_take ha), s.tab.sub fun a ha => List.mem_of_mem_take ha⟩
  obtain ⟨h1', hb⟩ := take_get h1
  obtain ⟨h2', _⟩ := take_get h2
  have q := s.cell n a c h1' h2'
  have hc : c.below b = true := List.all_eq_true.mp h c (List.mem_of_getElem? h2)
  cases c with
  | dead => trivial
  | lstF xs => exact q
  | dct xs => exact q
  | dti xs => exact q
  | lstW xs => obtain ⟨n, vs, e, r⟩ := q; exact ⟨n, vs, e, r.cut hc⟩
  | ins c fs => obtain ⟨n, dx, fvs, e, hk, r⟩ := q; exact ⟨n, dx, fvs, e, hk, r.cut hc⟩
theorem Le.cut {b : Nat} (l : Le Z ι Z' ι') (h : ι.length ≤ b) : Le Z ι Z' (ι'.take b) := by
  refine ⟨l.z, fun n a e => ?_⟩
  have hn : n < ι.length := (List.getElem?_eq_some_iff.mp e).1
  rw [List.getElem?_take_of_lt (by omega)]
  exact l.i n a e
end
end VS

set_option Elab.async false
set_option linter.all false
set_option maxRecDepth 100000
set_option maxHeartbeats 4000000
set_option autoImplicit false
/-! VB: the judgements over plain data; names, constants, tests, statements. -/
namespace VS
open PySem PySem.Spec PyProof.Rows L2

/-- an exception's own dict at d -/
def XRep (K : PySem.W.Frag) (T : Tab) (Z H : Hp) (d : Addr) (fs : List (Nat × F)) : Prop :=
  ∃ fvs : List (Str × V), H d = some (.xd fvs) ∧ ∀ i x, (i, x) ∈ fs → ∃ v, fvs.lookup (T.fn i) = some v ∧ RepF K T Z v x
/-- .. or none, where it has no fields -/
def XRepO (K : PySem.W.Frag) (T : Tab) (Z H : Hp) (d : Option Addr) (fs : List (Nat × F)) : Prop := match d with
  | some d => XRep K T Z H d fs
  | none => fs = []
section
variable (K : PySem.W.Frag) (T : Tab) (E : XK)
def PX (Z : Hp) (ι : List Addr) (c : Nat) (fs : List (Nat × F)) (st : Store) : Prop :=
  ∀ H' Z' ι' d, Le Z ι Z' ι' → SimS K T Z' ι' st H' → XRepO K T Z' H' d fs → E (.ref (T.ca K c)) d H'
def Post {α : Type} (Z : Hp) (ι : List Addr) (r : Res α) (k : α → Store → Hp → Hp → List Addr → Prop) : Prop := match r with
  | .ok a st => ∀ H' Z' ι', Le Z ι Z' ι' → SimS K T Z' ι' st H' → k a st H' Z' ι'
  | .exc c fs st => PX K T E Z ι c fs st
  | .stuck => False
abbrev TEv := Env → Store → Res W
abbrev TTv := Env → Store → Res Bool
abbrev TAv := Env → Store → Res (List W)
def RdE (t : TEv) : TE := fun σ H Q => ∃ Z ι env st, SimS K T Z ι st H ∧ EnvR K T Z ι σ env ∧ Post K T E Z ι (t env st) fun w _ H' Z' ι' => ∀ v, RepW K T Z' ι' v w → Q v H'
def RdT (t : TTv) : TT := fun σ H Q => ∃ Z ι env st, SimS K T Z ι st H ∧ EnvR K T Z ι σ env ∧ Post K T E Z ι (t env st) fun b _ H' _ _ => Q b H'
def RdA (t : TAv) : TA := fun σ H Q => ∃ Z ι env st, SimS K T Z ι st H ∧ EnvR K T Z ι σ env ∧ Post K T E Z ι (t env st) fun ws _ H' Z' ι' => ∀ vs, RepWs K T Z' ι' vs ws → Q vs H'
inductive SR where
  | nx (env : Env) (st : Store) | rt (w : W) (st : Store) | bk (env : Env) (st : Store) | ct (env : Env) (st : Store) | exc (c : Nat) (fs : List (Nat × F)) (st : Store) | stuck
abbrev TSv := Env → Store → SR
def PostS (Z : Hp) (ι : List Addr) (r : SR) (D : Ends) : Prop := match r with
  | .nx env st => ∀ σ' H' Z' ι', Le Z ι Z' ι' → SimS K T Z' ι' st H' → EnvR K T Z' ι' σ' env → D.nx σ' H'
  | .rt w st => ∀ v H' Z' ι', Le Z ι Z' ι' → SimS K T Z' ι' st H' → RepW K T Z' ι' v w → D.rt v H'
  | .bk env st => ∀ σ' H' Z' ι', Le Z ι Z' ι' → SimS K T Z' ι' st H' → EnvR K T Z' ι' σ' env → D.bk σ' H'
  | .ct env st => ∀ σ' H' Z' ι', Le Z ι Z' ι' → SimS K T Z' ι' st H' → EnvR K T Z' ι' σ' env → D.ct σ' H'
  | .exc c fs st => PX K T E Z ι c fs st
  | .stuck => False
def RdS (t : TSv) : TS := fun D σ H => ∃ Z ι env st, SimS K T Z ι st H ∧ EnvR K T Z ι σ env ∧ PostS K T E Z ι (t env st) D
end
/-- a statement goes on with a value -/
def Res.thenS {α : Type} (r : Res α) (k : α → Store → SR) : SR := match r with
  | .ok a st => k a st
  | .exc c fs st => .exc c fs st
  | .stuck => .stuck

section
variable {K : PySem.W.Frag} {T : Tab} {E : XK} {Z Z' : Hp} {ι ι' : List Addr} {α β : Type}
theorem PX.le {c : Nat} {fs : List (Nat × F)} {st : Store} (l : Le Z ι Z' ι') (h : PX K T E Z ι c fs st) : PX K T E Z' ι' c fs st :=
  fun H' Z1 ι1 d l1 s x => h H' Z1 ι1 d (l.trans l1) s x
theorem Post.le {r : Res α} {k : α → Store → Hp → Hp → List Addr → Prop} (l : Le Z ι Z' ι') (h : Post K T E Z ι r k) : Post K T E Z' ι' r k := by
  cases r with
  | ok a st => exact fun H' Z1 ι1 l1 s => h H' Z1 ι1 (l.trans l1) s
  | exc c fs st => exact PX.le l h
  | stuck => exact h
theorem Post.bind {r : Res α} {f : α → Store → Res β} {k : β → Store → Hp → Hp → List Addr → Prop} (h : Post K T E Z ι (r.bind f) k) : Post K T E Z ι r (fun a st1 _ Z1 ι1 => Post K T E Z1 ι1 (f a st1) k) := by
  cases r with
  | ok a st => exact fun H' Z1 ι1 l1 s => Post.le l1 h
  | exc c fs st => exact h
  | stuck => exact h
theorem Post.imp {r : Res α} {k k' : α → Store → Hp → Hp → List Addr → Prop} (h : Post K T E Z ι r k) (hk : ∀ a st H' Z' ι', Le Z ι Z' ι' → SimS K T Z' ι' st H' → k a st H' Z' ι' → k' a st H' Z' ι') : Post K T E Z ι r k' := by
  cases r with
  | ok a st => exact fun H' Z1 ι1 l1 s => hk a st H' Z1 ι1 l1 s (h H' Z1 ι1 l1 s)
  | exc c fs st => exact h
  | stuck => exact h
theorem PostS.le {r : SR} {D : Ends} (l : Le Z ι Z' ι') (h : PostS K T E Z ι r D) : PostS K T E Z' ι' r D := by
  cases r with
  | nx env st => exact fun σ H' Z1 ι1 l1 s e => h σ H' Z1 ι1 (l.trans l1) s e
  | rt w st => exact fun v H' Z1 ι1 l1 s e => h v H' Z1 ι1 (l.trans l1) s e
  | bk env st => exact fun σ H' Z1 ι1 l1 s e => h σ H' Z1 ι1 (l.trans l1) s e
  | ct env st => exact fun σ H' Z1 ι1 l1 s e => h σ H' Z1 ι1 (l.trans l1) s e
  | exc c fs st => exact PX.le l h
  | stuck => exact h
theorem PostS.thenS {r : Res α} {f : α → Store → SR} {D : Ends} (h : PostS K T E Z ι (r.thenS f) D) : Post K T E Z ι r (fun a st1 _ Z1 ι1 => PostS K T E Z1 ι1 (f a st1) D) := by
  cases r with
  | ok a st => exact fun H' Z1 ι1 l1 s => PostS.le l1 h
  | exc c fs st => exact h
  | stuck => exact h
end

/-! ### weaker readings -/
theorem pe_weak {X : Cx} {e : Expr} {t t' : TE} (h : PE X e t) (w : ∀ σ H Q, t' σ H Q → t σ H Q) : PE X e t' := ⟨fun pins s σ H Q I q => h.run pins s σ H Q I (w σ H Q q)⟩
theorem pt_weak {X : Cx} {e : Expr} {t t' : TT} (h : PT X e t) (w : ∀ σ H Q, t' σ H Q → t σ H Q) : PT X e t' := ⟨fun pins s σ H Q I q => h.run pins s σ H Q I (w σ H Q q)⟩
theorem pw_weak {X : Cx} {e : Expr} {t t' : TT} (h : PW X e t) (w : ∀ σ H Q, t' σ H Q → t σ H Q) : PW X e t' := ⟨fun wh pins s σ H Q I q => h.run wh pins s σ H Q I (w σ H Q q)⟩
theorem pa_weak {X : Cx} {e : List Expr} {t t' : TA} (h : PA X e t) (w : ∀ σ H Q, t' σ H Q → t σ H Q) : PA X e t' := ⟨fun p pins s σ H Q I q => h.run p pins s σ H Q I (w σ H Q q)⟩
theorem ps_weak {X : Cx} {e : Stmt} {t t' : TS} (h : PS X e t) (w : ∀ D σ H, t' D σ H → t D σ H) : PS X e t' := ⟨fun pins s σ H Q I q => h.run pins s σ H Q I (w Q σ H q)⟩
theorem pss_weak {X : Cx} {e : List Stmt} {t t' : TS} (h : PSs X e t) (w : ∀ D σ H, t' D σ H → t D σ H) : PSs X e t' := ⟨fun pins s σ H Q I q => h.run pins s σ H Q I (w Q σ H q)⟩
theorem pi_weak {X : Cx} {tg e : Expr} {t t' : TI} (h : PI X tg e t) (w : ∀ σ H Q, t' σ H Q → t σ H Q) : PI X tg e t' := ⟨fun pins s σ H Q I q => h.run pins s σ H Q I (w σ H Q q)⟩
theorem pg_weak {X : Cx} {e : Expr} {t t' : TG} (h : PG X e t) (w : ∀ v σ H Q, t' v σ H Q → t v σ H Q) : PG X e t' := ⟨fun pins s σ H v u Q I r q => h.run pins s σ H v u Q I r (w v σ H Q q)⟩

/-! ### the judgements -/
abbrev VE (X : Cx) (T : Tab) (E : XK) (e : Expr) (t : TEv) : Prop := PE X e (RdE X.K T E t)
abbrev VT (X : Cx) (T : Tab) (E : XK) (e : Expr) (t : TTv) : Prop := PT X e (RdT X.K T E t)
abbrev VW (X : Cx) (T : Tab) (E : XK) (e : Expr) (t : TTv) : Prop := PW X e (RdT X.K T E t)
abbrev VA (X : Cx) (T : Tab) (E : XK) (e : List Expr) (t : TAv) : Prop := PA X e (RdA X.K T E t)
abbrev VS (X : Cx) (T : Tab) (E : XK) (e : Stmt) (t : TSv) : Prop := PS X e (RdS X.K T E t)
abbrev VB (X : Cx) (T : Tab) (E : XK) (e : List Stmt) (t : TSv) : Prop := PSs X e (RdS X.K T E t)

section
variable {X : Cx} {T : Tab} {E : XK} {a b c e : Expr} {ta tb tc te : TEv} {pos : Pos}
/-! ### names and constants -/
def eVar (i : Nat) : TEv := fun env st => match env[i]? with
  | some (some w) => .ok w st
  | _ => .stuck
def eC (x : F) : TEv := fun _ st => .ok (.f x) st
theorem ve_var {i : Nat} {x : Str} (hN : X.N[i]? = some x) (hv : Vis X.env.scope x) (hd : (x == ("__debug__" : Str)) = false := by decide) (hcd : (x == ("__classdict__" : Str)) = false := by decide) : VE X T E (.Name x pos) (eVar i) := by
  refine pe_weak (pe_var hN hv hd hcd) fun σ H Q h => ?_
  obtain ⟨Z, ι, env, st, s, r, p⟩ := h
  unfold eVar at p
  cases q : env[i]? with
  | none => rw [q] at p; exact p.elim
  | some o =>
    cases o with
    | none => rw [q] at p; exact p.elim
    | some w =>
      rw [q] at p
      obtain ⟨v, e, rv⟩ := r.get i w q
      exact ⟨v, e, p H Z ι Le.refl s v rv⟩
theorem rd_c {K : PySem.W.Frag} {x : F} {v : V} (hr : ∀ Z, RepF K T Z v x) {σ : L2.St} {H : Hp} {Q : VK} (h : RdE K T E (eC x) σ H Q) : tC v σ H Q := by
  obtain ⟨Z, ι, env, st, s, r, p⟩ := h
  exact p H Z ι Le.refl s v (.f (hr Z))
theorem ve_int {i : Int} {j : Nat} : VE X T E (.Constant (.int i) j pos) (eC (.int i)) := pe_weak pe_int fun _ _ _ h => rd_c (fun Z => .int i) h
theorem ve_bl {i : Bool} {j : Nat} : VE X T E (.Constant (.bool i) j pos) (eC (.bl i)) := pe_weak pe_bl fun _ _ _ h => rd_c (fun Z => .bl i) h
theorem ve_non {j : Nat} : VE X T E (.Constant .none j pos) (eC .non) := pe_weak pe_non fun _ _ _ h => rd_c (fun Z => .non) h
theorem ve_str {x : Str} {s : List Nat} {j : Nat} (hx : x = S s) : VE X T E (.Constant (.str x) j pos) (eC (.str s)) := by
  subst hx
  exact pe_weak pe_str fun _ _ _ h => rd_c (fun Z => .str s) h
/-- a module's constant -/
theorem ve_glob {x : Str} {v : V} {y : F} {u : Value} (hg : Gl X x) (hm : X.mg x = some u) (r : RelV v u) (hr : ∀ Z, RepF X.K T Z v y) (hd : (x == ("__debug__" : Str)) = false := by decide) : VE X T E (.Name x pos) (eC y) :=
  pe_weak (pe_glob hg hm r hd) fun _ _ _ h => rd_c hr h

/-! ### two values -/
/-- data out of the store: a cell's list or dict is looked at -/
def lookC : Option Cell → Option F
  | some (.lstF xs) => some (.lst xs)
  | some (.dct kvs) => some (.dct kvs)
  | _ => none
def look (st : Store) : W → Option F
  | .f x => some x
  | .loc n => lookC st[n]?
/-- data as it is to be seen in H -/
inductive View (K : PySem.W.Frag) (T : Tab) (Z H : Hp) : V → F → Prop
  | f {v : V} {x : F} : RepF K T Z v x → View K T Z H v x
  | lst {a : Addr} {vs : List V} {xs : List F} : H a = some (.lst vs) → RepFs K T Z vs xs → View K T Z H (.ref a) (.lst xs)
  | dct {a : Addr} {kvs : List (Key × V)} {kfs : List (F × F)} : H a = some (.dK kvs) → RepFk K T Z kvs kfs → View K T Z H (.ref a) (.dct kfs)
theorem RepW.view {K : PySem.W.Frag} {Z H : Hp} {ι : List Addr} {st : Store} {v : V} {w : W} {x : F} (s : SimS K T Z ι st H) (r : RepW K T Z ι v w) (h : look st w = some x) : View K T Z H v x := by
  cases r with
  | f r => cases h; exact .f r
  | loc e =>
    rename_i a n
    have h : lookC st[n]? = some x := h
    cases q : st[n]? with
    | none => rw [q] at h; cases h
    | some c =>
      rw [q] at h
      have k := s.cell n a c e q
      cases c with
      | dead => cases h
      | lstF xs => cases h; obtain ⟨_, vs, e1, r1⟩ := k; exact .lst e1 r1
      | lstW xs => cases h
      | dct xs => cases h; obtain ⟨_, vs, e1, r1⟩ := k; exact .dct e1 r1
      | dti xs => cases h
      | ins c fs => cases h
/-- a reading that hands on data: nothing old is touched -/
def Give (K : PySem.W.Frag) (T : Tab) (Z H : Hp) (z : F) (Q : VK) : Prop := ∀ v H' Z', Grow Z H Z' H' → RepF K T Z' v z → Q v H'
theorem Give.here {K : PySem.W.Frag} {Z H : Hp} {z : F} {Q : VK} (g : Give K T Z H z Q) (s : Same Z H) {v : V} (r : RepF K T Z v z) : Q v H := g v H Z (Grow.refl s) r
theorem Give.new {K : PySem.W.Frag} {Z H : Hp} {z : F} {Q : VK} (g : Give K T Z H z Q) (s : Same Z H) {p : Addr} {o : HO} (hp : H p = none) (r : RepF K T (upd Z p o) (.ref p) z) (ht : ∀ ps, o ≠ .tbl ps := by intro _ h; cases h) : Q (.ref p) (upd H p o) := g _ _ _ (Grow.laid s hp ht) r
/-- an operation on two values does g on data -/
def Op2 (X : Cx) (T : Tab) (r : R2) (g : F → F → Option F) : Prop := ∀ Z H x y fx fy z Q, Same Z H → View X.K T Z H x fx → View X.K T Z H y fy → g fx fy = some z → Give X.K T Z H z Q → r x y H Q
def Op1 (X : Cx) (T : Tab) (r : V → Hp → VK → Prop) (g : F → Option F) : Prop := ∀ Z H x fx z Q, Same Z H → View X.K T Z H x fx → g fx = some z → Give X.K T Z H z Q → r x H Q
def ofOpt (o : Option F) (st : Store) : Res W := match o with
  | some z => .ok (.f z) st
  | none => .stuck
def lk1 (g : F → Option F) (w : W) (st : Store) : Res W := ofOpt ((look st w).bind g) st
def lk2 (g : F → F → Option F) (w u : W) (st : Store) : Res W := ofOpt ((look st w).bind fun x => (look st u).bind fun y => g x y) st
def eOp1 (g : F → Option F) (ta : TEv) : TEv := fun env st => (ta env st).bind fun w st1 => lk1 g w st1
def eOp2 (g : F → F → Option F) (ta tb : TEv) : TEv := fun env st => (ta env st).bind fun w st1 => (tb env st1).bind fun u st2 => lk2 g w u st2
theorem lk1_ok {K : PySem.W.Frag} {Z H : Hp} {ι : List Addr} {g : F → Option F} {w : W} {st : Store} {Q : VK} (s : SimS K T Z ι st H) (h : Post K T E Z ι (lk1 g w st) fun w _ H' Z' ι' => ∀ v, RepW K T Z' ι' v w → Q v H') :
    ∃ x z, look st w = some x ∧ g x = some z ∧ Give K T Z H z Q := by
  unfold lk1 at h
  cases q : look st w with
  | none => rw [q] at h; exact h.elim
  | some x =>
    rw [q] at h
    cases q1 : g x with
    | none => simp only [Option.bind_some, q1] at h; exact h.elim
    | some z =>
      simp only [Option.bind_some, q1] at h
      exact ⟨x, z, rfl, q1, fun v H' Z' gr r => h H' Z' ι gr.le (s.grow gr) v (.f r)⟩
theorem lk2_ok {K : PySem.W.Frag} {Z H : Hp} {ι : List Addr} {g : F → F → Option F} {w u : W} {st : Store} {Q : VK} (s : SimS K T Z ι st H) (h : Post K T E Z ι (lk2 g w u st) fun w _ H' Z' ι' => ∀ v, RepW K T Z' ι' v w → Q v H') :
    ∃ x y z, look st w = some x ∧ look st u = some y ∧ g x y = some z ∧ Give K T Z H z Q := by
  unfold lk2 at h
  cases q : look st w with
  | none => rw [q] at h; exact h.elim
  | some x =>
    rw [q] at h
    cases q0 : look st u with
    | none => rw [q0] at h; exact h.elim
    | some y =>
      rw [q0] at h
      cases q1 : g x y with
      | none => simp only [Option.bind_some, q1] at h; exact h.elim
      | some z =>
        simp only [Option.bind_some, q1] at h
        exact ⟨x, y, z, rfl, rfl, q1, fun v H' Z' gr r => h H' Z' ι gr.le (s.grow gr) v (.f r)⟩
theorem rd_op2 {r : R2} {g : F → F → Option F} (ho : Op2 X T r g) {σ : L2.St} {H : Hp} {Q : VK} (h : RdE X.K T E (eOp2 g ta tb) σ H Q) : tOp r (RdE X.K T E ta) (RdE X.K T E tb) σ H Q := by
  obtain ⟨Z, ι, env, st, s, re, p⟩ := h
  refine ⟨Z, ι, env, st, s, re, (Post.bind p).imp fun w st1 H1 Z1 ι1 l1 s1 p1 v rv => ?_⟩
  refine ⟨Z1, ι1, env, st1, s1, re.mono l1, (Post.bind p1).imp fun u st2 H2 Z2 ι2 l2 s2 p2 v2 rv2 => ?_⟩
  obtain ⟨x, y, z, e1, e2, e3, g⟩ := lk2_ok s2 p2
  exact ho Z2 H2 v v2 x y z Q s2.sub ((rv.mono l2).view s2 e1) (rv2.view s2 e2) e3 g
theorem rd_op1 {r : V → Hp → VK → Prop} {g : F → Option F} (ho : Op1 X T r g) {σ : L2.St} {H : Hp} {Q : VK} (h : RdE X.K T E (eOp1 g ta) σ H Q) : tUn r (RdE X.K T E ta) σ H Q := by
  obtain ⟨Z, ι, env, st, s, re, p⟩ := h
  refine ⟨Z, ι, env, st, s, re, (Post.bind p).imp fun w st1 H1 Z1 ι1 l1 s1 p1 v rv => ?_⟩
  obtain ⟨x, z, e1, e3, g⟩ := lk1_ok s1 p1
  exact ho Z1 H1 v x z Q s1.sub (rv.view s1 e1) e3 g
theorem ve_op {op : Operator} {r : R2} {g : F → F → Option F} (hr : OpR X (binaryOp op) r) (ho : Op2 X T r g) (ha : VE X T E a ta) (hb : VE X T E b tb) : VE X T E (.BinOp a op b pos) (eOp2 g ta tb) :=
  pe_weak (pe_op hr ha hb) fun _ _ _ h => rd_op2 ho h
theorem ve_un {op : UnaryOp} {r : V → Hp → VK → Prop} {g : F → Option F} (hr : UnR X (unaryOp op) r) (ho : Op1 X T r g) (ha : VE X T E a ta) : VE X T E (.UnaryOp op a pos) (eOp1 g ta) :=
  pe_weak (pe_un hr ha) fun _ _ _ h => rd_op1 ho h
theorem ve_cmp {op : CmpOp} {r : R2} {g : F → F → Option F} (hr : OpR X (compareOp op) r) (ho : Op2 X T r g) (ha : VE X T E a ta) (hb : VE X T E b tb) (hm : behindInMarks op b = false) : VE X T E (.Compare a [op] [b] pos) (eOp2 g ta tb) :=
  pe_weak (pe_cmpR hr ha hb hm) fun _ _ _ h => rd_op2 ho h

/-! ### tests -/
def toB : W → Option Bool
  | .f (.bl b) => some b
  | _ => none
def asB (w : W) (st : Store) : Res Bool := match toB w with
  | some b => .ok b st
  | none => .stuck
/-- a value that is a bool, as a test -/
def tVal (t : TEv) : TTv := fun env st => (t env st).bind fun w st1 => asB w st1
theorem toB_some {w : W} {b : Bool} (h : toB w = some b) : w = .f (.bl b) := by
  cases w with
  | loc n => cases h
  | f x => cases x <;> first | (cases h; rfl) | cases h
theorem rd_tval {K : PySem.W.Frag} {σ : L2.St} {H : Hp} {Q : Bool → Hp → Prop} (h : RdT K T E (tVal te) σ H Q) : RdE K T E te σ H (fun x H1 => ∃ c, x = .bl c ∧ Q c H1) := by
  obtain ⟨Z, ι, env, st, s, re, p⟩ := h
  refine ⟨Z, ι, env, st, s, re, (Post.bind p).imp fun w st1 H1 Z1 ι1 l1 s1 p1 v rv => ?_⟩
  unfold asB at p1
  cases q : toB w with
  | none => rw [q] at p1; exact p1.elim
  | some b =>
    rw [q] at p1
    cases toB_some q
    cases rv with
    | f rv => cases rv; exact ⟨b, rfl, p1 H1 Z1 ι1 Le.refl s1⟩
/-- any expression whose value is a bool -/
theorem vt_val (h : VE X T E e te) (he : ∀ whole, isTrue e X.env whole = (do let v ← whole; standAt e.pos; holding [v] (truthy v)) := by intro _; rfl) : VT X T E e (tVal te) :=
  pt_weak (pt_val h he) fun _ _ _ q => rd_tval q
theorem vt_cmp {op : CmpOp} {r : R2} {g : F → F → Option F} (hr : OpR X (compareOp op) r) (ho : Op2 X T r g) (ha : VE X T E a ta) (hb : VE X T E b tb) (hm : behindInMarks op b = false) : VT X T E (.Compare a [op] [b] pos) (tVal (eOp2 g ta tb)) :=
  pt_weak (pt_cmpR hr ha hb hm) fun σ H Q h => by
    obtain ⟨Z, ι, env, st, s, re, p⟩ := rd_tval h
    exact rd_op2 ho ⟨Z, ι, env, st, s, re, p⟩
variable {wa wb wc : TTv}
def tAndV (p q : TTv) : TTv := fun env st => (p env st).bind fun b st1 => if b = true then q env st1 else .ok false st1
def tOrV (p q : TTv) : TTv := fun env st => (p env st).bind fun b st1 => if b = true then .ok true st1 else q env st1
def tNotV (p : TTv) : TTv := fun env st => (p env st).bind fun b st1 => .ok (!b) st1
theorem rd_and {K : PySem.W.Frag} {σ : L2.St} {H : Hp} {Q : Bool → Hp → Prop} (h : RdT K T E (tAndV wa wb) σ H Q) : tAnd (RdT K T E wa) (RdT K T E wb) σ H Q := by
  obtain ⟨Z, ι, env, st, s, re, p⟩ := h
  refine ⟨Z, ι, env, st, s, re, (Post.bind p).imp fun b st1 H1 Z1 ι1 l1 s1 p1 => ?_⟩
  cases b with
  | true => exact ⟨Z1, ι1, env, st1, s1, re.mono l1, p1⟩
  | false => exact p1 H1 Z1 ι1 Le.refl s1
theorem rd_or {K : PySem.W.Frag} {σ : L2.St} {H : Hp} {Q : Bool → Hp → Prop} (h : RdT K T E (tOrV wa wb) σ H Q) : tOr (RdT K T E wa) (RdT K T E wb) σ H Q := by
  obtain ⟨Z, ι, env, st, s, re, p⟩ := h
  refine ⟨Z, ι, env, st, s, re, (Post.bind p).imp fun b st1 H1 Z1 ι1 l1 s1 p1 => ?_⟩
  cases b with
  | false => exact ⟨Z1, ι1, env, st1, s1, re.mono l1, p1⟩
  | true => exact p1 H1 Z1 ι1 Le.refl s1
variable {rest : List Expr}
theorem vw_and1 (ha : VT X T E a wa) : VW X T E (.BoolOp .And [a] pos) wa := pw_and1 ha
theorem vw_or1 (ha : VT X T E a wa) : VW X T E (.BoolOp .Or [a] pos) wa := pw_or1 ha
theorem vw_and (ha : VT X T E a wa) (hb : VW X T E (.BoolOp .And (b :: rest) pos) wb) : VW X T E (.BoolOp .And (a :: b :: rest) pos) (tAndV wa wb) := pw_weak (pw_and ha hb) fun _ _ _ h => rd_and h
theorem vw_or (ha : VT X T E a wa) (hb : VW X T E (.BoolOp .Or (b :: rest) pos) wb) : VW X T E (.BoolOp .Or (a :: b :: rest) pos) (tOrV wa wb) := pw_weak (pw_or ha hb) fun _ _ _ h => rd_or h
theorem VW.vt (h : VW X T E a wa) : VT X T E a wa := PW.pt h
theorem vt_not (ha : VT X T E a wa) : VT X T E (.UnaryOp .Not a pos) (tNotV wa) := pt_weak (pt_not ha) fun σ H Q h => by
  obtain ⟨Z, ι, env, st, s, re, p⟩ := h
  exact ⟨Z, ι, env, st, s, re, (Post.bind p).imp fun b st1 H1 Z1 ι1 l1 s1 p1 => p1 H1 Z1 ι1 Le.refl s1⟩
/-- .. as values -/
def eAnd (p q : TEv) : TEv := fun env st => (p env st).bind fun w st1 => (asB w st1).bind fun b st2 => if b = true then q env st2 else .ok (.f (.bl false)) st2
def eNot (p : TEv) : TEv := fun env st => (p env st).bind fun w st1 => (asB w st1).bind fun b st2 => .ok (.f (.bl (!b))) st2
theorem asB_ok {K : PySem.W.Frag} {Z : Hp} {ι : List Addr} {w : W} {v : V} {st : Store} {β : Type} {f : Bool → Store → Res β} {k : β → Store → Hp → Hp → List Addr → Prop} (rv : RepW K T Z ι v w) (h : Post K T E Z ι ((asB w st).bind f) k) : ∃ b, w = .f (.bl b) ∧ v = .bl b ∧ Post K T E Z ι (f b st) k := by
  unfold asB at h
  cases q : toB w with
  | none => rw [q] at h; exact h.elim
  | some b =>
    rw [q] at h
    cases toB_some q
    cases rv with
    | f rv => cases rv; exact ⟨b, rfl, rfl, h⟩
theorem ve_one {op : BoolOp} (h : VE X T E a ta) : VE X T E (.BoolOp op [a] pos) ta := pe_one h
theorem ve_and (ha : VE X T E a ta) (hb : VE X T E (.BoolOp .And (b :: rest) pos) tb) : VE X T E (.BoolOp .And (a :: b :: rest) pos) (eAnd ta tb) := pe_weak (pe_and ha hb) fun σ H Q h => by
  obtain ⟨Z, ι, env, st, s, re, p⟩ := h
  refine ⟨Z, ι, env, st, s, re, (Post.bind p).imp fun w st1 H1 Z1 ι1 l1 s1 p1 v rv => ?_⟩
  obtain ⟨b, rfl, rfl, p2⟩ := asB_ok rv p1
  refine ⟨b, rfl, ?_⟩
  cases b with
  | true => exact ⟨Z1, ι1, env, st1, s1, re.mono l1, p2⟩
  | false => exact p2 H1 Z1 ι1 Le.refl s1 _ (.f (.bl false))
theorem ve_not (ha : VE X T E a ta) : VE X T E (.UnaryOp .Not a pos) (eNot ta) := pe_weak (pe_not ha) fun σ H Q h => by
  obtain ⟨Z, ι, env, st, s, re, p⟩ := h
  refine ⟨Z, ι, env, st, s, re, (Post.bind p).imp fun w st1 H1 Z1 ι1 l1 s1 p1 v rv => ?_⟩
  obtain ⟨b, rfl, rfl, p2⟩ := asB_ok rv p1
  exact ⟨b, rfl, p2 H1 Z1 ι1 Le.refl s1 _ (.f (.bl (!b)))⟩
def eIf (p : TTv) (ta tb : TEv) : TEv := fun env st => (p env st).bind fun b st1 => if b = true then ta env st1 else tb env st1
theorem ve_if (hc : VT X T E c wa) (ha : VE X T E a ta) (hb : VE X T E b tb) : VE X T E (.IfExp c a b pos) (eIf wa ta tb) := pe_weak (pe_ifExp hc ha hb) fun σ H Q h => by
  obtain ⟨Z, ι, env, st, s, re, p⟩ := h
  refine ⟨Z, ι, env, st, s, re, (Post.bind p).imp fun b st1 H1 Z1 ι1 l1 s1 p1 => ?_⟩
  cases b with
  | true => exact ⟨Z1, ι1, env, st1, s1, re.mono l1, p1⟩
  | false => exact ⟨Z1, ι1, env, st1, s1, re.mono l1, p1⟩
/-- a op1 b op2 c -/
def eChain (g g' : F → F → Option F) (ta tb tc : TEv) : TEv := fun env st => (ta env st).bind fun w st1 => (tb env st1).bind fun u st2 => (lk2 g w u st2).bind fun z st3 => (asB z st3).bind fun k st4 => if k = true then (tc env st4).bind fun y st5 => lk2 g' u y st5 else .ok (.f (.bl false)) st4
theorem rd_chain {r r' : R2} {g g' : F → F → Option F} (ho : Op2 X T r g) (ho' : Op2 X T r' g') {σ : L2.St} {H : Hp} {Q : VK} (h : RdE X.K T E (eChain g g' ta tb tc) σ H Q) : tChain r r' (RdE X.K T E ta) (RdE X.K T E tb) (RdE X.K T E tc) σ H Q := by
  obtain ⟨Z, ι, env, st, s, re, p⟩ := h
  refine ⟨Z, ι, env, st, s, re, (Post.bind p).imp fun w st1 H1 Z1 ι1 l1 s1 p1 v rv => ?_⟩
  refine ⟨Z1, ι1, env, st1, s1, re.mono l1, (Post.bind p1).imp fun u st2 H2 Z2 ι2 l2 s2 p2 v2 rv2 => ?_⟩
  have p3 := Post.bind p2
  unfold lk2 at p3
  cases q : look st2 w with
  | none => rw [q] at p3; exact p3.elim
  | some x =>
    rw [q] at p3
    cases q0 : look st2 u with
    | none => rw [q0] at p3; exact p3.elim
    | some y =>
      rw [q0] at p3
      cases q1 : g x y with
      | none => simp only [Option.bind_some, q1] at p3; exact p3.elim
      | some z =>
        simp only [Option.bind_some, q1] at p3
        refine ho Z2 H2 v v2 x y z _ s2.sub ((rv.mono l2).view s2 q) (rv2.view s2 q0) q1 fun v3 H3 Z3 gr rz => ?_
        have p4 := p3 H3 Z3 ι2 gr.le (s2.grow gr)
        obtain ⟨k, e1, e2, p5⟩ := asB_ok (RepW.f rz) p4
        refine ⟨k, e2, ?_⟩
        cases k with
        | false => exact p5 H3 Z3 ι2 Le.refl (s2.grow gr) _ (.f (.bl false))
        | true =>
          have s3 := s2.grow gr
          refine ⟨Z3, ι2, env, st2, s3, (re.mono l1).mono (l2.trans gr.le), (Post.bind p5).imp fun y5 st5 H5 Z5 ι5 l5 s5 p6 v5 rv5 => ?_⟩
          obtain ⟨x', y', z', e1', e2', e3', g'⟩ := lk2_ok s5 p6
          exact ho' Z5 H5 v2 v5 x' y' z' Q s5.sub (((rv2.mono gr.le).mono l5).view s5 e1') (rv5.view s5 e2') e3' g'
theorem ve_chain {op op' : CmpOp} {r r' : R2} {g g' : F → F → Option F} (hr : OpR X (compareOp op) r) (ho : Op2 X T r g) (hr' : OpR X (compareOp op') r') (ho' : Op2 X T r' g') (ha : VE X T E a ta) (hb : VE X T E b tb) (hc : VE X T E c tc) (hm : lastMarks [op, op'] [b, c] = false := by rfl) :
    VE X T E (.Compare a [op, op'] [b, c] pos) (eChain g g' ta tb tc) := pe_weak (pe_chain hr hr' ha hb hc hm) fun _ _ _ h => rd_chain ho ho' h
/-! ### arguments -/
def aNil : TAv := fun _ st => .ok [] st
def aCons (t : TEv) (r : TAv) : TAv := fun env st => (t env st).bind fun w st1 => (r env st1).bind fun ws st2 => .ok (w :: ws) st2
variable {es : List Expr} {tr : TAv}
theorem va_nil : VA X T E [] aNil := pa_weak pa_nil fun σ H Q h => by
  obtain ⟨Z, ι, env, st, s, re, p⟩ := h
  exact p H Z ι Le.refl s _ .nil
theorem va_cons (ha : VE X T E e te) (hr : VA X T E es tr) (hs : starEach (e :: es) X.env = (false, eval e X.env) :: starEach es X.env := by rfl) : VA X T E (e :: es) (aCons te tr) := pa_weak (pa_cons ha hr hs) fun σ H Q h => by
  obtain ⟨Z, ι, env, st, s, re, p⟩ := h
  refine ⟨Z, ι, env, st, s, re, (Post.bind p).imp fun w st1 H1 Z1 ι1 l1 s1 p1 v rv => ?_⟩
  refine ⟨Z1, ι1, env, st1, s1, re.mono l1, (Post.bind p1).imp fun ws st2 H2 Z2 ι2 l2 s2 p2 vs rvs => ?_⟩
  exact p2 H2 Z2 ι2 Le.refl s2 _ (.cons (rv.mono l2) rvs)
end
end VS

set_option Elab.async false
set_option linter.all false
set_option maxRecDepth 100000
set_option maxHeartbeats 4000000
set_option autoImplicit false
/-! VC: statements, targets, loops, defs. -/
namespace VS
open PySem PySem.Spec PyProof.Rows L2

section
variable {X : Cx} {T : Tab} {E : XK} {a b c e : Expr} {ta tb tc te : TEv} {wa : TTv} {pos : Pos} {s s1 s2 : Stmt} {ss : List Stmt} {u u1 u2 : TSv}
/-! ### blocks -/
def bNil : TSv := fun env st => .nx env st
def bCons (t r : TSv) : TSv := fun env st => match t env st with
  | .nx env1 st1 => r env1 st1
  | x => x
theorem vb_nil : VB X T E [] bNil := pss_weak pss_nil fun D σ H h => by
  obtain ⟨Z, ι, env, st, s, re, p⟩ := h
  exact p σ H Z ι Le.refl s re
theorem vb_cons (h1 : VS X T E s u) (h2 : VB X T E ss u1) : VB X T E (s :: ss) (bCons u u1) := pss_weak (pss_cons h1 h2) fun D σ H h => by
  obtain ⟨Z, ι, env, st, s, re, p⟩ := h
  refine ⟨Z, ι, env, st, s, re, ?_⟩
  unfold bCons at p
  cases q : u env st with
  | nx env1 st1 =>
    rw [q] at p
    exact fun σ' H' Z' ι' l s' re' => ⟨Z', ι', env1, st1, s', re', p.le l⟩
  | rt w st1 => rw [q] at p; exact p
  | bk w st1 => rw [q] at p; exact p
  | ct w st1 => rw [q] at p; exact p
  | exc c fs st1 => rw [q] at p; exact p
  | stuck => rw [q] at p; exact p
theorem vb_one (h1 : VS X T E s u) : VB X T E [s] u := pss_one h1
/-! ### small statements -/
def sExpr (t : TEv) : TSv := fun env st => (t env st).thenS fun _ st1 => .nx env st1
theorem vs_expr (he : VE X T E e te) (hs : swapsWith e none pos.line X.env = pure false := by rfl) : VS X T E (.Expr e pos) (sExpr te) := ps_weak (ps_expr he hs) fun D σ H h => by
  obtain ⟨Z, ι, env, st, s, re, p⟩ := h
  exact ⟨Z, ι, env, st, s, re, (PostS.thenS p).imp fun w st1 H1 Z1 ι1 l1 s1 p1 v rv => p1 σ H1 Z1 ι1 Le.refl s1 (re.mono l1)⟩
def sRet (t : TEv) : TSv := fun env st => (t env st).thenS fun w st1 => .rt w st1
theorem vs_ret (he : VE X T E e te) : VS X T E (.Return (some e) pos) (sRet te) := ps_weak (ps_ret he) fun D σ H h => by
  obtain ⟨Z, ι, env, st, s, re, p⟩ := h
  exact ⟨Z, ι, env, st, s, re, (PostS.thenS p).imp fun w st1 H1 Z1 ι1 l1 s1 p1 v rv => p1 v H1 Z1 ι1 Le.refl s1 rv⟩
def sIf (w : TTv) (t r : TSv) : TSv := fun env st => (w env st).thenS fun b st1 => if b = true then t env st1 else r env st1
theorem vs_if {sa sb : List Stmt} (hc : VT X T E c wa) (ha : VB X T E sa u1) (hb : VB X T E sb u2) : VS X T E (.If c sa sb pos) (sIf wa u1 u2) := ps_weak (ps_if hc ha hb) fun D σ H h => by
  obtain ⟨Z, ι, env, st, s, re, p⟩ := h
  refine ⟨Z, ι, env, st, s, re, (PostS.thenS p).imp fun b st1 H1 Z1 ι1 l1 s1 p1 => ?_⟩
  cases b with
  | true => exact ⟨Z1, ι1, env, st1, s1, re.mono l1, p1⟩
  | false => exact ⟨Z1, ι1, env, st1, s1, re.mono l1, p1⟩
def sSet (i : Nat) (t : TEv) : TSv := fun env st => (t env st).thenS fun w st1 => .nx (env.set i (some w)) st1
theorem vs_set {i : Nat} {x : Str} {pos' : Pos} (hN : X.N.Nodup) (hi : X.N[i]? = some x) (hx : Loc X.env.scope x) (he : VE X T E e te) (hs : swapsWith e (some (.Name x pos')) pos.line X.env = pure false := by rfl) (hf : X.fn x = true ∨ X.env.scope.names.lookup x = some .local := by first | exact .inl rfl | exact .inr rfl | assumption) :
    VS X T E (.Assign [.Name x pos'] e pos) (sSet i te) := ps_weak (ps_set hN hi hx he hs hf) fun D σ H h => by
  obtain ⟨Z, ι, env, st, s, re, p⟩ := h
  exact ⟨Z, ι, env, st, s, re, (PostS.thenS p).imp fun w st1 H1 Z1 ι1 l1 s1 p1 v rv => p1 _ H1 Z1 ι1 Le.refl s1 ((re.mono l1).set rv i)⟩
/-! ### targets -/
abbrev TGv := W → Env → Option Env
abbrev TGsv := List F → Env → Option Env
def RdG (K : PySem.W.Frag) (T : Tab) (g : TGv) : TG := fun v σ H Q => ∃ Z ι env st w env', SimS K T Z ι st H ∧ EnvR K T Z ι σ env ∧ RepW K T Z ι v w ∧ g w env = some env' ∧ ∀ σ', EnvR K T Z ι σ' env' → Q σ' H
def RdGs (K : PySem.W.Frag) (T : Tab) (g : TGsv) : TGs := fun vs σ H Q => ∃ Z ι env st xs env', SimS K T Z ι st H ∧ EnvR K T Z ι σ env ∧ RepFs K T Z vs xs ∧ g xs env = some env' ∧ ∀ σ', EnvR K T Z ι σ' env' → Q σ' H
abbrev VG (X : Cx) (T : Tab) (e : Expr) (g : TGv) : Prop := PG X e (RdG X.K T g)
abbrev VGs (X : Cx) (T : Tab) (es : List Expr) (g : TGsv) : Prop := PGs X es (RdGs X.K T g)
def gNm (i : Nat) : TGv := fun w env => some (env.set i (some w))
def gsNil : TGsv := fun xs env => match xs with
  | [] => some env
  | _ => none
def gsCons (g : TGv) (gs : TGsv) : TGsv := fun xs env => match xs with
  | x :: r => (g (.f x) env).bind fun env1 => gs r env1
  | _ => none
def gTp (gs : TGsv) : TGv := fun w env => match w with
  | .f (.tup xs) => gs xs env
  | _ => none
/-- a list, unpacked -/
def gLs (gs : TGsv) : TGv := fun w env => match w with
  | .f (.lst xs) => gs xs env
  | _ => none
theorem vg_name {i : Nat} {x : Str} (hN : X.N.Nodup) (hi : X.N[i]? = some x) (hx : Loc X.env.scope x) (hf : X.fn x = true ∨ X.env.scope.names.lookup x = some .local := by first | exact .inl rfl | exact .inr rfl | assumption) : VG X T (.Name x pos) (gNm i) := pg_weak (pg_name hN hi hx hf) fun v σ H Q h => by
  obtain ⟨Z, ι, env, st, w, env', s, re, rv, e, k⟩ := h
  cases e
  exact k _ (re.set rv i)
theorem pgs_weak {es : List Expr} {t t' : TGs} (h : PGs X es t) (w : ∀ v σ H Q, t' v σ H Q → t v σ H Q) : PGs X es t' := ⟨fun pins s σ H v u Q I r q => h.run pins s σ H v u Q I r (w v σ H Q q)⟩
theorem vgs_nil : VGs X T [] gsNil := pgs_weak pgs_nil fun vs σ H Q h => by
  obtain ⟨Z, ι, env, st, xs, env', s, re, rv, e, k⟩ := h
  cases rv with
  | nil => cases e; exact ⟨rfl, k _ re⟩
  | cons _ _ => cases e
theorem vgs_cons {es : List Expr} {g : TGv} {gs : TGsv} (h1 : VG X T e g) (h2 : VGs X T es gs)
    (hs : (assignEach (e :: es) X.env).map (·.2) = assign e X.env :: (assignEach es X.env).map (·.2) := by rfl) : VGs X T (e :: es) (gsCons g gs) := pgs_weak (pgs_cons h1 h2 hs) fun vs σ H Q h => by
  obtain ⟨Z, ι, env, st, xs, env', s, re, rv, e, k⟩ := h
  cases rv with
  | nil => cases e
  | cons r rr =>
    rename_i v x vs xs
    have e : (g (.f x) env).bind (fun env1 => gs xs env1) = some env' := e
    cases q : g (.f x) env with
    | none => rw [q] at e; cases e
    | some env1 =>
      rw [q] at e
      exact ⟨_, _, rfl, Z, ι, env, st, _, env1, s, re, .f r, q, fun σ' re' => ⟨Z, ι, env1, st, xs, env', s, re', rr, e, k⟩⟩
theorem vg_tup {es : List Expr} {k : Nat} {gs : TGsv} {n : Nat} (hc : X.calm = true) (h : VGs X T es gs) (hl : ∀ xs env env', gs xs env = some env' → xs.length = n)
    (hn : (assignEach es X.env).length = n := by rfl) (hst : (assignEach es X.env).findIdx? (·.1) = none := by rfl) : VG X T (.Tuple es k pos) (gTp gs) := pg_weak (pg_tup hc h hn hst) fun v σ H Q h => by
  obtain ⟨Z, ι, env, st, w, env', s, re, rv, e, k⟩ := h
  cases rv with
  | loc _ => cases e
  | f r =>
    cases r with
    | tup ht rs => exact ⟨_, _, rfl, same_sqt s.sub ht, by rw [rs.length]; exact hl _ _ _ e, Z, ι, env, st, _, env', s, re, rs, e, k⟩
    | _ => cases e
theorem gsNil_len {xs : List F} {env env' : Env} (h : gsNil xs env = some env') : xs.length = 0 := by
  cases xs with
  | nil => rfl
  | cons _ _ => cases h
theorem gsCons_len {g : TGv} {gs : TGsv} {n : Nat} (hl : ∀ xs env env', gs xs env = some env' → xs.length = n) : ∀ xs env env', gsCons g gs xs env = some env' → xs.length = n + 1 := by
  intro xs env env' h
  cases xs with
  | nil => cases h
  | cons x xs =>
    have h : (g (.f x) env).bind (fun env1 => gs xs env1) = some env' := h
    cases q : g (.f x) env with
    | none => rw [q] at h; cases h
    | some env1 =>
      rw [q] at h
      rw [List.length_cons, hl xs env1 env' h]
def sAsg (t : TEv) (g : TGv) : TSv := fun env st => (t env st).thenS fun w st1 => match g w env with
  | some env1 => .nx env1 st1
  | none => .stuck
theorem vs_asg {tg : Expr} {g : TGv} (he : VE X T E e te) (hg : VG X T tg g) (hs : swapsWithSole [tg] e pos.line X.env = pure false := by rfl) (hw : swappedStores [tg] e X.env = pure none := by rfl)
    (h1 : (assignEach [tg] X.env).map (·.2) = [assign tg X.env] := by rfl) : VS X T E (.Assign [tg] e pos) (sAsg te g) := ps_weak (ps_asg he hg hs hw h1) fun D σ H h => by
  obtain ⟨Z, ι, env, st, s, re, p⟩ := h
  refine ⟨Z, ι, env, st, s, re, (PostS.thenS p).imp fun w st1 H1 Z1 ι1 l1 s1 p1 v rv => ?_⟩
  cases q : g w env with
  | none => rw [q] at p1; exact p1.elim
  | some env1 =>
    rw [q] at p1
    exact ⟨Z1, ι1, env, st1, w, env1, s1, re.mono l1, rv, q, fun σ' re' => p1 σ' H1 Z1 ι1 Le.refl s1 re'⟩
/-- a, b = x, y -/
def sPar2 (i j : Nat) (t : TAv) : TSv := fun env st => (t env st).thenS fun ws st1 => match ws with
  | [w1, w2] => .nx ((env.set i (some w1)).set j (some w2)) st1
  | _ => .stuck
theorem vs_par2 {i j : Nat} {x y : Str} {tr : TAv} {px py pt : Pos} {kt k2 : Nat} {pt2 : Pos} (hc : X.calm = true) (hN : X.N.Nodup) (hi : X.N[i]? = some x) (hj : X.N[j]? = some y) (hij : i ≠ j)
    (hx : X.env.scope.names.lookup x = some .local) (hy : X.env.scope.names.lookup y = some .local) (ha : VA X T E [a, b] tr)
    (hw : swappedStores [.Tuple [.Name x px, .Name y py] kt pt] (.Tuple [a, b] k2 pt2) X.env = pure (some [x, y]))
    (hs : swapsWithSole [.Tuple [.Name x px, .Name y py] kt pt] (.Tuple [a, b] k2 pt2) pos.line X.env = pure false := by rfl) :
    VS X T E (.Assign [.Tuple [.Name x px, .Name y py] kt pt] (.Tuple [a, b] k2 pt2) pos) (sPar2 i j tr) := ps_weak (ps_par hc hN hi hj hij hx hy ha hw hs) fun D σ H h => by
  obtain ⟨Z, ι, env, st, s, re, p⟩ := h
  refine ⟨Z, ι, env, st, s, re, (PostS.thenS p).imp fun ws st1 H1 Z1 ι1 l1 s1 p1 vs rvs => ?_⟩
  cases rvs with
  | nil => exact p1.elim
  | cons r1 t1 =>
    cases t1 with
    | nil => exact p1.elim
    | cons r2 t2 =>
      cases t2 with
      | cons _ _ => exact p1.elim
      | nil => exact ⟨_, _, rfl, p1 _ H1 Z1 ι1 Le.refl s1 (((re.mono l1).set r1 i).set r2 j)⟩
/-! ### while -/
/-! ### for -/
def Walks (K : PySem.W.Frag) (T : Tab) (Z : Hp) (ι : List Addr) (J : It) (ws : List W) : Prop := ∀ (i : Nat) Z' ι' H' st', Le Z ι Z' ι' → SimS K T Z' ι' st' H' →
  (∀ w, ws[i]? = some w → J.go i H' ∧ ∀ x H2, J.yld i H' x H2 → ∃ Z2, Grow Z' H' Z2 H2 ∧ RepW K T Z2 ι' x w) ∧ (ws[i]? = none → J.stop i H')
abbrev TIv := Env → Store → Res (List W)
def RdI (K : PySem.W.Frag) (T : Tab) (E : XK) (t : TIv) : TI := fun σ H R => ∃ Z ι env st, SimS K T Z ι st H ∧ EnvR K T Z ι σ env ∧ Post K T E Z ι (t env st) fun ws _ H' Z' ι' => ∀ J, Walks K T Z' ι' J ws → R J H'
abbrev VI (X : Cx) (T : Tab) (E : XK) (tg e : Expr) (t : TIv) : Prop := PI X tg e (RdI X.K T E t)
def forL (g : TGv) (t : TSv) : List W → TSv
  | [], env, st => .nx env st
  | w :: ws, env, st => match g w env with
    | none => .stuck
    | some env1 => match t env1 st with
      | .nx env2 st2 => forL g t ws env2 st2
      | .ct env2 st2 => forL g t ws env2 st2
      | .bk env2 st2 => .nx env2 st2
      | r => r
def sFor (ti : TIv) (g : TGv) (t : TSv) : TSv := fun env st => (ti env st).thenS fun ws st1 => forL g t ws env st1
theorem vs_for {tg iter : Expr} {body : List Stmt} {ti : TIv} {g : TGv} (hp : PassesOwn (model X.prog X.w) X.A X.env X.xe) (hc : X.calm = true) (hi : VI X T E tg iter ti) (hg : VG X T tg g) (hb : VB X T E body u)
    (hs : ∀ x, foldedSetIterable iter X.env x = pure x := by intro _; rfl) : VS X T E (.For tg iter body [] pos) (sFor ti g u) := ps_weak (ps_for hp hc hi hg hb hs) fun D σ H h => by
  obtain ⟨Z, ι, env, st, s, re, p⟩ := h
  refine ⟨Z, ι, env, st, s, re, (PostS.thenS p).imp fun ws st1 H1 Z1 ι1 l1 s1 p1 J wk => ?_⟩
  refine ⟨fun i m σ H => ∃ Z ι env st, Le Z1 ι1 Z ι ∧ SimS X.K T Z ι st H ∧ EnvR X.K T Z ι σ env ∧ m = ws.length - i ∧ PostS X.K T E Z ι (forL g u (ws.drop i) env st) D,
    ⟨ws.length, Z1, ι1, env, st1, Le.refl, s1, re.mono l1, by simp, p1⟩, fun i m σ H h => ?_⟩
  obtain ⟨Z2, ι2, env2, st2, l2, s2, re2, hm, p2⟩ := h
  have wki := wk i Z2 ι2 H st2 l2 s2
  by_cases hlt : i < ws.length
  · have e : ws[i]? = some ws[i] := by simp [hlt]
    have ed : ws.drop i = ws[i] :: ws.drop (i + 1) := (List.drop_eq_getElem_cons hlt)
    rw [ed] at p2
    obtain ⟨go, yl⟩ := wki.1 _ e
    refine .inr ⟨go, fun σ' H' => ∃ Z ι env st, Le Z1 ι1 Z ι ∧ SimS X.K T Z ι st H' ∧ EnvR X.K T Z ι σ' env ∧ PostS X.K T E Z ι (forL g u (ws.drop (i + 1)) env st) D,
      fun σ' H' ⟨Z, ι, env, st, l, s, r, p⟩ => ⟨ws.length - (i + 1), by omega, Z, ι, env, st, l, s, r, rfl, p⟩, fun x H' y => ?_⟩
    obtain ⟨Z3, gr, rx⟩ := yl x H' y
    have p2 : PostS X.K T E Z2 ι2 (match g ws[i] env2 with
      | none => .stuck
      | some env1 => match u env1 st2 with
        | .nx env2 st2 => forL g u (ws.drop (i + 1)) env2 st2
        | .ct env2 st2 => forL g u (ws.drop (i + 1)) env2 st2
        | .bk env2 st2 => .nx env2 st2
        | r => r) D := p2
    cases q : g ws[i] env2 with
    | none => rw [q] at p2; exact p2.elim
    | some env3 =>
      rw [q] at p2
      refine ⟨Z3, ι2, env2, st2, _, env3, s2.grow gr, re2.mono gr.le, rx, q, fun σ4 re4 => ?_⟩
      refine ⟨Z3, ι2, env3, st2, s2.grow gr, re4, ?_⟩
      cases q2 : u env3 st2 with
      | nx env5 st5 => simp only [q2] at p2; exact fun σ' H' Z' ι' l s' re' => ⟨Z', ι', env5, st5, (l2.trans gr.le).trans l, s', re', p2.le (gr.le.trans l)⟩
      | ct env5 st5 => simp only [q2] at p2; exact fun σ' H' Z' ι' l s' re' => ⟨Z', ι', env5, st5, (l2.trans gr.le).trans l, s', re', p2.le (gr.le.trans l)⟩
      | bk env5 st5 => simp only [q2] at p2; exact p2.le gr.le
      | rt w st5 => simp only [q2] at p2; exact p2.le gr.le
      | exc c fs st5 => simp only [q2] at p2; exact p2.le gr.le
      | stuck => simp only [q2] at p2; exact p2
  · have ed : ws.drop i = [] := by simp; omega
    rw [ed] at p2
    exact .inl ⟨wki.2 (by simp; omega), p2 σ H Z2 ι2 Le.refl s2 re2⟩
/-! ### a def -/
abbrev FnM := List W → Store → Res W
def spV (K : PySem.W.Frag) (T : Tab) (n : Nat) (m : FnM) : Sp := fun vs H Q E => ∃ Z ι ws st, SimS K T Z ι st H ∧ RepWs K T Z ι vs ws ∧ ws.length = n ∧ Post K T E Z ι (m ws st) fun w _ H' Z' ι' => ∀ v, RepW K T Z' ι' v w → Q v H'
/-- what a call leaves of the store: its own cells are dropped, a list that it hands back stands last -/
def retC (b n : Nat) (st : Store) : Option Cell → Res W
  | some c => if c.below b = true then .ok (.loc b) (st.take b ++ [c]) else .ok (.loc n) st
  | none => .ok (.loc n) st
def retW (b : Nat) (w : W) (st : Store) : Res W := match clean b (st.take b) with
  | false => .ok w st
  | true => match w with
    | .f x => .ok (.f x) (st.take b)
    | .loc n => if n < b then .ok (.loc n) (st.take b) else retC b n st st[n]?
def runFn (n : Nat) (t : TSv) : FnM := fun ws st => match t (ws.map some ++ List.replicate (n - ws.length) none) st with
  | .rt w st1 => retW st.length w st1
  | .nx _ st1 => retW st.length (.f .non) st1
  | .exc c fs st1 => .exc c fs st1
  | _ => .stuck
/-- one cell kept behind a cut -/
theorem SimS.cutTo {K : PySem.W.Frag} {Z H : Hp} {ι : List Addr} {st : Store} {b n : Nat} {a : Addr} {c : Cell} (s : SimS K T Z ι st H) (hb : b ≤ st.length) (h : clean b (st.take b) = true) (hn : b ≤ n) (hi : ι[n]? = some a) (hc : st[n]? = some c) (hl : c.below b = true) :
    SimS K T Z (ι.take b ++ [a]) (st.take b ++ [c]) H := by
  have s0 := s.cut h
  have l : Le Z (ι.take b) Z (ι.take b ++ [a]) := ⟨Same.refl Z, fun _ _ h => get_app h⟩
  have g : Grow Z H Z H := Grow.refl s.sub
  have hlen : (ι.take b).length = b := by rw [List.length_take, s.len]; omega
  have na : a ∉ ι.take b := fun hm => by
    obtain ⟨m, hm1, e⟩ := List.getElem_of_mem hm
    rw [List.getElem_take] at e
    obtain ⟨l2, e2⟩ := List.getElem?_eq_some_iff.mp hi
    have := (List.getElem_inj s.nd).mp (e.trans e2.symm)
    omega
  refine ⟨s.sub, by simp [s.len], ?_, fun m a' d h1 h2 => ?_, fun a' ha => ?_, s.tab.sub fun b hb => by
    rcases List.mem_append.mp hb with hb | hb
    · exact List.mem_of_mem_take hb
    · simp at hb; subst hb; exact List.mem_of_getElem? hi⟩
  · rw [List.nodup_append]
    exact ⟨s0.nd, by simp, fun x hx y hy => by simp at hy; subst hy; exact fun e => na (e ▸ hx)⟩
  · rcases get_app_cases h1 with h1 | ⟨rfl, rfl⟩
    · rcases get_app_cases h2 with h2 | ⟨rfl, rfl⟩
      · exact (s0.cell m a' d h1 h2).grow g l
      · exact absurd (List.getElem?_eq_some_iff.mp h1).1 (by rw [s0.len]; omega)
    · rcases get_app_cases h2 with h2 | ⟨_, rfl⟩
      · exact absurd (List.getElem?_eq_some_iff.mp h2).1 (by rw [s0.len]; omega)
      · have q := s.cell n a' d hi hc
        cases d with
        | dead => trivial
        | lstF xs => exact q
        | dct xs => exact q
        | dti xs => exact q
        | lstW xs => obtain ⟨n, vs, e, r⟩ := q; exact ⟨n, vs, e, (r.cut hl).mono l⟩
        | ins c fs => obtain ⟨n, dx, fvs, e, hk, r⟩ := q; exact ⟨n, dx, fvs, e, hk, (r.cut hl).mono l⟩
  · rcases List.mem_append.mp ha with ha | ha
    · exact s0.there a' ha
    · simp at ha
      subst ha
      exact s.there _ (List.mem_of_getElem? hi)
theorem retW_ok {K : PySem.W.Frag} {Z Z' H' : Hp} {ι ι' : List Addr} {st' : Store} {w : W} {v : V} {Q : VK} {b : Nat} (hb : ι.length = b) (l : Le Z ι Z' ι') (s : SimS K T Z' ι' st' H') (r : RepW K T Z' ι' v w)
    (h : Post K T E Z ι (retW b w st') fun w _ H' Z' ι' => ∀ v, RepW K T Z' ι' v w → Q v H') : Q v H' := by
  have hle : b ≤ st'.length := by
    rw [← s.len]
    by_cases h0 : b = 0
    · omega
    · have : ι[b - 1]? = some ι[b - 1] := by simp
      have := (List.getElem?_eq_some_iff.mp (l.i _ _ this)).1
      omega
  have lc : Le Z ι Z' (ι'.take b) := l.cut (by omega)
  have hlen : (ι'.take b).length = b := by rw [List.length_take, s.len]; omega
  unfold retW at h
  cases q : clean b (st'.take b) with
  | false => rw [q] at h; exact h H' Z' ι' l s v r
  | true =>
    rw [q] at h
    cases r with
    | f r => exact h H' Z' _ lc (s.cut q) v (.f r)
    | loc e =>
      rename_i a n
      have h : Post K T E Z ι (if n < b then Res.ok (W.loc n) (st'.take b) else retC b n st' st'[n]?) _ := h
      by_cases hn : n < b
      · rw [if_pos hn] at h
        exact h H' Z' _ lc (s.cut q) _ (.loc (by rw [List.getElem?_take_of_lt hn]; exact e))
      · rw [if_neg hn] at h
        cases qc : st'[n]? with
        | none => rw [qc] at h; exact h H' Z' ι' l s _ (.loc e)
        | some c =>
          rw [qc] at h
          unfold retC at h
          by_cases hx : c.below b = true
          · simp only [hx, if_true] at h
            exact h H' Z' (ι'.take b ++ [a]) (lc.trans ⟨Same.refl _, fun _ _ h => get_app h⟩) (s.cutTo hle q (by omega) e qc hx) _ (.loc (by rw [List.getElem?_append_right (by omega), hlen]; simp))
          · simp only [hx] at h
            exact h H' Z' ι' l s _ (.loc e)
theorem env_start {K : PySem.W.Frag} {Z : Hp} {ι : List Addr} {N : List Str} {vs : List V} {ws : List W} (r : RepWs K T Z ι vs ws) : EnvR K T Z ι (L2.start N vs) (ws.map some ++ List.replicate (N.length - ws.length) none) := by
  refine ⟨by unfold L2.start; simp [r.length], fun i w h => ?_⟩
  by_cases hi : i < ws.length
  · rw [List.getElem?_append_left (by simp; exact hi), List.getElem?_map] at h
    have hw : ws[i]? = some w := by
      cases q : ws[i]? with
      | none => rw [q] at h; cases h
      | some u => rw [q] at h; simp at h; rw [h]
    obtain ⟨v, e, rv⟩ := r.get hw
    refine ⟨v, ?_, rv⟩
    unfold L2.start
    rw [List.getElem?_append_left (by simp; rw [r.length]; exact hi), List.getElem?_map, e]
    rfl
  · rw [List.getElem?_append_right (by simp; omega)] at h
    have := List.mem_of_getElem? h
    rw [List.mem_replicate] at this
    cases this.2
theorem rd_fn {K : PySem.W.Frag} {N : List Str} {n : Nat} {vs : List V} {H : Hp} {Q : VK} {t : TSv} (h : spV K T n (runFn N.length t) vs H Q E) : RdS K T E t { nx := fun _ H' => Q .non H', rt := Q } (L2.start N vs) H := by
  obtain ⟨Z, ι, ws, st, s, r, hl, p⟩ := h
  refine ⟨Z, ι, _, st, s, env_start (N := N) r, ?_⟩
  unfold runFn at p
  cases q : t (ws.map some ++ List.replicate (N.length - ws.length) none) st with
  | nx env1 st1 => simp only [q] at p; exact fun σ' H' Z' ι' l s' _ => retW_ok s.len l s' (.f .non) p
  | rt w st1 => simp only [q] at p; exact fun v H' Z' ι' l s' rv => retW_ok s.len l s' rv p
  | bk env1 st1 => simp only [q] at p; exact p.elim
  | ct env1 st1 => simp only [q] at p; exact p.elim
  | exc c fs st1 => simp only [q] at p; exact p
  | stuck => simp only [q] at p; exact p.elim
end
end VS

set_option Elab.async false
set_option linter.all false
set_option maxRecDepth 100000
set_option maxHeartbeats 4000000
set_option autoImplicit false
/-! VD: defs and their calls, objects, cells that become data. -/
namespace VS
open PySem PySem.Spec PyProof.Rows L2

/-- a def by its body: np parameters, n names -/
def fnM (np n : Nat) (t : TSv) : FnM := fun ws st => if ws.length = np then runFn n t ws st else .stuck
def spM (K : PySem.W.Frag) (T : Tab) (m : FnM) : Sp := fun vs H Q E => ∃ Z ι ws st, SimS K T Z ι st H ∧ RepWs K T Z ι vs ws ∧ Post K T E Z ι (m ws st) fun w _ H' Z' ι' => ∀ v, RepW K T Z' ι' v w → Q v H'
/-- the def at f, called with positional arguments, does m -/
structure Fn (P : Program) (w : World) (K : PySem.W.Frag) (mg : Str → Option Value) (base : Heap) (T : Tab) (CX : CXT) (k : Nat) (f : Addr) (m : FnM) : Prop where
  ex : ∃ (fd : FuncData) (ps : List Str) (ds : List Value) (dvs : List V) (dfs : List F) (m0 : FnM), FnOk P w K mg base CX k f fd ps (spM K T m0) ∧ Binds K fd ps ds ∧ Vals dvs ds ∧ (∀ Z, RepFs K T Z dvs dfs) ∧ m = fun ws st => m0 (ws ++ dfs.map W.f) st
  kp : PySem.W.keepIn K (.ref f) = true
section
variable {P : Program} {w : World} {K : PySem.W.Frag} {mg : Str → Option Value} {base : Heap} {T : Tab} {x qual : Str} {params : Arguments} {body : List Stmt} {scope : Scope} {dvs : List V} {kws : List (Str × V)} {f : Addr} {fd : FuncData} {N ps : List Str} {k : Nat} {t : TSv}
theorem spM_len {np n : Nat} {vs : List V} {H : Hp} {Q : VK} {E : XK} (h : spM K T (fnM np n t) vs H Q E) : vs.length = np := by
  obtain ⟨Z, ι, ws, st, s, r, p⟩ := h
  unfold fnM at p
  by_cases hl : ws.length = np
  · rw [r.length, hl]
  · rw [if_neg hl] at p
    exact p.elim
theorem fn_v0 (F : FunD K x qual params body scope dvs kws f fd) (S : FnScope N ps scope)
    (hb : ∀ (cdv : Value) (A : Around) (outer : List PySem.Env) (s : Shared) (H : Hp) (E E' : XK), Room k (A.deeper (envOfC qual scope s.heap.objs.size f cdv)) → VB (cxOf CX0 P w K mg base N qual scope f cdv A outer s H E).nox T E' body t) :
    FnOk P w K mg base CX0 (k + 1) f fd ps (spM K T (fnM ps.length N.length t)) := by
  refine F.ok S (fun vs H Q E h => spM_len h) (fun cdv A outer s H vs Q E hr h => ⟨_, (hb cdv A outer s H E E hr).nox, ?_⟩)
  refine rd_fn (n := ps.length) ?_
  have hl := spM_len h
  obtain ⟨Z, ι, ws, st, s, r, p⟩ := h
  have hw : ws.length = ps.length := by rw [← r.length]; exact hl
  unfold fnM at p
  rw [if_pos hw] at p
  exact ⟨Z, ι, ws, st, s, r, hw, p⟩
theorem Fn.mono {CX : CXT} {j : Nat} {m : FnM} (F : Fn P w K mg base T CX j f m) (h : j ≤ k) : Fn P w K mg base T CX k f m := by
  obtain ⟨fd, ps, ds, dvs, dfs, m0, F0, b, v, r, e⟩ := F.ex
  exact ⟨⟨fd, ps, ds, dvs, dfs, m0, F0.mono h, b, v, r, e⟩, F.kp⟩
theorem Fn.plain {CX : CXT} {m : FnM} (F : FnOk P w K mg base CX k f fd ps (spM K T m)) (b : Binds K fd ps []) (kp : PySem.W.keepIn K (.ref f) = true) : Fn P w K mg base T CX k f m :=
  ⟨⟨fd, ps, [], [], [], m, F, b, .nil, fun _ => .nil, by simp⟩, kp⟩
theorem RepWs.map_f {Z : Hp} {ι : List Addr} {vs : List V} {xs : List F} (h : RepFs K T Z vs xs) : RepWs K T Z ι vs (xs.map W.f) := RepWs.ofFs h
end

section
variable {X : Cx} {T : Tab} {E : XK} {CX : CXT} {k : Nat} {f C : Addr} {m : FnM} {x mn : Str} {p pos apos pos' : Pos} {e o value : Expr} {es : List Expr} {te to tv : TEv} {tr : TAv}
/-! ### calls -/
def eCall (m : FnM) (t : TAv) : TEv := fun env st => (t env st).bind fun ws st1 => m ws st1
theorem ve_call (F : Fn X.prog X.w X.K X.mg X.base T CX k f m) (hr : Room k X.A) (hg : Gl X x) (hm : X.mg x = some (.ref f)) (hx : Passes CX X E)
    (ha : VA X T E (e :: es) tr) (hdb : (x == ("__debug__" : Str)) = false := by decide) (he : starEach (e :: es) X.env = (false, eval e X.env) :: starEach es X.env := by rfl) (hpl : (backTo pos (starEach es X.env)).any (·.1) = false := by rfl) :
    VE X T E (.Call (.Name x p) (e :: es) [] pos) (eCall m tr) := by
  obtain ⟨fd, ps, ds, dvs, dfs, m0, F0, b, v, r, rfl⟩ := F.ex
  refine pe_weak (pe_call F0 hr hg hm F.kp b v hx ha hdb he hpl) fun σ H Q h => ?_
  obtain ⟨Z, ι, env, st, s, re, p⟩ := h
  exact ⟨Z, ι, env, st, s, re, (Post.bind p).imp fun ws st1 H1 Z1 ι1 l1 s1 p1 vs rvs => ⟨Z1, ι1, _, st1, s1, rvs.append (RepWs.map_f (r Z1)), p1⟩⟩
/-! ### objects -/
def Tab.noF (T : Tab) (c : Nat) (m : Str) : Bool := match T.cls[c]? with
  | some ci => ci.flds.all fun i => decide (T.fn i ≠ m)
  | none => false
/-- of which class an object is -/
def clsW (st : Store) : W → Option Nat
  | .f (.obj c _) => some c
  | .loc n => match st[n]? with
    | some (.ins c _) => some c
    | _ => none
  | _ => none
theorem fd_look {K : PySem.W.Frag} (hT : TabOk K T) {Z : Hp} {c i : Nat} {x : F} (hi : T.okf c i = true) : ∀ {fvs : List (Str × V)} {fs : List (Nat × F)}, RepFd K T Z c fvs fs → fs.lookup i = some x → ∃ v, fvs.lookup (T.fn i) = some v ∧ RepF K T Z v x
  | _, _, .nil, h => by cases h
  | _, _, .cons (i := j) (v := v) (x := y) (xs := xs) (vs := vs) hj r t, h => by
    by_cases hij : i = j
    · subst hij
      simp only [List.lookup, beq_self_eq_true] at h
      cases h
      exact ⟨v, by simp [List.lookup], r⟩
    · have e1 : (i == j) = false := beq_eq_false_iff_ne.mpr hij
      simp only [List.lookup, e1] at h
      obtain ⟨v', e, r'⟩ := fd_look hT hi t h
      refine ⟨v', ?_, r'⟩
      have e2 : (T.fn i == T.fn j) = false := by
        refine beq_eq_false_iff_ne.mpr fun q => hij ?_
        have li : i < T.fld.length := by
          unfold Tab.okf at hi
          split at hi
          · rw [Bool.and_eq_true] at hi; exact of_decide_eq_true hi.2
          · cases hi
        have lj : j < T.fld.length := by
          unfold Tab.okf at hj
          split at hj
          · rw [Bool.and_eq_true] at hj; exact of_decide_eq_true hj.2
          · cases hj
        unfold Tab.fn at q
        rw [List.getD_eq_getElem?_getD, List.getD_eq_getElem?_getD, List.getElem?_eq_getElem li, List.getElem?_eq_getElem lj] at q
        exact (List.getElem_inj hT.nodup).mp q
      simp only [List.lookup, e2]
      exact e
theorem wd_look {K : PySem.W.Frag} (hT : TabOk K T) {Z : Hp} {ι : List Addr} {c i : Nat} {x : W} (hi : T.okf c i = true) : ∀ {fvs : List (Str × V)} {fs : List (Nat × W)}, RepWd K T Z ι c fvs fs → fs.lookup i = some x → ∃ v, fvs.lookup (T.fn i) = some v ∧ RepW K T Z ι v x
  | _, _, .nil, h => by cases h
  | _, _, .cons (i := j) (v := v) (x := y) (xs := xs) (vs := vs) hj r t, h => by
    by_cases hij : i = j
    · subst hij
      simp only [List.lookup, beq_self_eq_true] at h
      cases h
      exact ⟨v, by simp [List.lookup], r⟩
    · have e1 : (i == j) = false := beq_eq_false_iff_ne.mpr hij
      simp only [List.lookup, e1] at h
      obtain ⟨v', e, r'⟩ := wd_look hT hi t h
      refine ⟨v', ?_, r'⟩
      have e2 : (T.fn i == T.fn j) = false := by
        refine beq_eq_false_iff_ne.mpr fun q => hij ?_
        have li : i < T.fld.length := by
          unfold Tab.okf at hi
          split at hi
          · rw [Bool.and_eq_true] at hi; exact of_decide_eq_true hi.2
          · cases hi
        have lj : j < T.fld.length := by
          unfold Tab.okf at hj
          split at hj
          · rw [Bool.and_eq_true] at hj; exact of_decide_eq_true hj.2
          · cases hj
        unfold Tab.fn at q
        rw [List.getD_eq_getElem?_getD, List.getD_eq_getElem?_getD, List.getElem?_eq_getElem li, List.getElem?_eq_getElem lj] at q
        exact (List.getElem_inj hT.nodup).mp q
      simp only [List.lookup, e2]
      exact e
theorem fd_okf {K : PySem.W.Frag} {Z : Hp} {c i : Nat} {x : F} : ∀ {fvs : List (Str × V)} {fs : List (Nat × F)}, RepFd K T Z c fvs fs → fs.lookup i = some x → T.okf c i = true
  | _, _, .nil, h => by cases h
  | _, _, .cons (i := j) (xs := xs) hj r t, h => by
    by_cases hij : i = j
    · subst hij; exact hj
    · have e1 : (i == j) = false := beq_eq_false_iff_ne.mpr hij
      simp only [List.lookup, e1] at h
      exact fd_okf t h
theorem wd_okf {K : PySem.W.Frag} {Z : Hp} {ι : List Addr} {c i : Nat} {x : W} : ∀ {fvs : List (Str × V)} {fs : List (Nat × W)}, RepWd K T Z ι c fvs fs → fs.lookup i = some x → T.okf c i = true
  | _, _, .nil, h => by cases h
  | _, _, .cons (i := j) (xs := xs) hj r t, h => by
    by_cases hij : i = j
    · subst hij; exact hj
    · have e1 : (i == j) = false := beq_eq_false_iff_ne.mpr hij
      simp only [List.lookup, e1] at h
      exact wd_okf t h
theorem noF_ne {c i : Nat} {m : Str} (h : T.noF c m = true) (hi : T.okf c i = true) : T.fn i ≠ m := by
  unfold Tab.noF at h
  unfold Tab.okf at hi
  cases q : T.cls[c]? with
  | none => rw [q] at h; cases h
  | some ci =>
    simp only [q] at h hi
    rw [Bool.and_eq_true] at hi
    exact of_decide_eq_true (List.all_eq_true.mp h i (by simpa using hi.1))
theorem fd_no {K : PySem.W.Frag} {Z : Hp} {c : Nat} {m : Str} (h : T.noF c m = true) : ∀ {fvs : List (Str × V)} {fs : List (Nat × F)}, RepFd K T Z c fvs fs → fvs.lookup m = none
  | _, _, .nil => rfl
  | _, _, .cons (i := j) hj r t => by
    have e2 : (m == T.fn j) = false := beq_eq_false_iff_ne.mpr (Ne.symm (noF_ne h hj))
    simp only [List.lookup, e2]
    exact fd_no h t
theorem wd_no {K : PySem.W.Frag} {Z : Hp} {ι : List Addr} {c : Nat} {m : Str} (h : T.noF c m = true) : ∀ {fvs : List (Str × V)} {fs : List (Nat × W)}, RepWd K T Z ι c fvs fs → fvs.lookup m = none
  | _, _, .nil => rfl
  | _, _, .cons (i := j) hj r t => by
    have e2 : (m == T.fn j) = false := beq_eq_false_iff_ne.mpr (Ne.symm (noF_ne h hj))
    simp only [List.lookup, e2]
    exact wd_no h t
/-- an object as it stands in the heap -/
theorem obj_at {K : PySem.W.Frag} {Z H : Hp} {ι : List Addr} {st : Store} {v : V} {w : W} {c : Nat} (s : SimS K T Z ι st H) (r : RepW K T Z ι v w) (h : clsW st w = some c) :
    ∃ a dx fvs, v = .ref a ∧ H a = some (.ins (T.ca K c) dx fvs) ∧ (T.cls[c]?).isSome = true ∧ ∀ m, T.noF c m = true → fvs.lookup m = none := by
  cases r with
  | f r =>
    cases r with
    | obj e hc rd => cases h; exact ⟨_, _, _, rfl, s.sub _ _ e, hc, fun m hm => fd_no hm rd⟩
    | _ => cases h
  | loc e =>
    rename_i a n
    have h : (match st[n]? with
      | some (.ins c _) => some c
      | _ => none) = some c := h
    cases q : st[n]? with
    | none => rw [q] at h; cases h
    | some cl =>
      have k := s.cell n a cl e q
      cases cl with
      | ins c' fs =>
        rw [q] at h; cases h
        obtain ⟨_, dx, fvs, e1, hc, rd⟩ := k
        exact ⟨a, dx, fvs, rfl, e1, hc, fun m hm => wd_no hm rd⟩
      | dead => rw [q] at h; cases h
      | lstF xs => rw [q] at h; cases h
      | lstW xs => rw [q] at h; cases h
      | dct xs => rw [q] at h; cases h
      | dti xs => rw [q] at h; cases h
def attrW (st : Store) (i : Nat) : W → Option W
  | .f (.obj _ fs) => (fs.lookup i).map W.f
  | .loc n => match st[n]? with
    | some (.ins _ fs) => fs.lookup i
    | _ => none
  | _ => none
def ofW (o : Option W) (st : Store) : Res W := match o with
  | some w => .ok w st
  | none => .stuck
def eAttr (i : Nat) (t : TEv) : TEv := fun env st => (t env st).bind fun w st1 => ofW (attrW st1 i w) st1
theorem ve_attr {i : Nat} {fn : Str} (hT : TabOk X.K T) (he : VE X T E e te) (hf : T.fn i = fn) (hb : attributeBase e fn X.env (eval e X.env) = eval e X.env := by rfl) : VE X T E (.Attribute e fn pos) (eAttr i te) := by
  subst hf
  refine pe_weak (pe_fld he hb) fun σ H Q h => ?_
  obtain ⟨Z, ι, env, st, s, re, p⟩ := h
  refine ⟨Z, ι, env, st, s, re, (Post.bind p).imp fun w st1 H1 Z1 ι1 l1 s1 p1 v rv => ?_⟩
  cases q : attrW st1 i w with
  | none => rw [q] at p1; exact p1.elim
  | some u =>
    rw [q] at p1
    have fin : ∀ v', RepW X.K T Z1 ι1 v' u → Q v' H1 := fun v' r' => p1 H1 Z1 ι1 Le.refl s1 v' r'
    cases rv with
    | f r =>
      cases r with
      | obj e hc rd =>
        rename_i a dx fvs c fs
        have q : (fs.lookup i).map W.f = some u := q
        cases q2 : fs.lookup i with
        | none => rw [q2] at q; cases q
        | some y =>
          rw [q2] at q; cases q
          have hi := fd_okf rd q2
          obtain ⟨v', e', r'⟩ := fd_look hT hi rd q2
          exact ⟨a, _, dx, fvs, v', rfl, s1.sub _ _ e, hT.cls c hc, hT.noat c i hi, e', fin _ (.f r')⟩
      | _ => cases q
    | loc e =>
      rename_i a n
      have q : (match st1[n]? with
        | some (.ins _ fs) => fs.lookup i
        | _ => none) = some u := q
      cases q2 : st1[n]? with
      | none => rw [q2] at q; cases q
      | some cl =>
        have k := s1.cell n a cl e q2
        cases cl with
        | ins c fs =>
          rw [q2] at q
          obtain ⟨_, dx, fvs, e1, hc, rd⟩ := k
          have hi := wd_okf rd q
          obtain ⟨v', e', r'⟩ := wd_look hT hi rd q
          exact ⟨a, _, dx, fvs, v', rfl, e1, hT.cls c hc, hT.noat c i hi, e', fin _ r'⟩
        | dead => rw [q2] at q; cases q
        | lstF xs => rw [q2] at q; cases q
        | lstW xs => rw [q2] at q; cases q
        | dct xs => rw [q2] at q; cases q
        | dti xs => rw [q2] at q; cases q
/-- o.m(..), o of the class c -/
def eMeth (c : Nat) (m : FnM) (to : TEv) (t : TAv) : TEv := fun env st => (to env st).bind fun w st1 => if clsW st1 w = some c then (t env st1).bind fun ws st2 => m (w :: ws) st2 else .stuck
theorem rd_meth {c : Nat} (hn : T.noF c mn = true) {dvs : List V} {dfs : List F} (r : ∀ Z, RepFs X.K T Z dvs dfs) {σ : L2.St} {H : Hp} {Q : VK} (h : RdE X.K T E (eMeth c (fun ws st => m (ws ++ dfs.map W.f) st) to tr) σ H Q) :
    tMeth (T.ca X.K c) mn (spM X.K T m) dvs E (RdE X.K T E to) (RdA X.K T E tr) σ H Q := by
  obtain ⟨Z, ι, env, st, s, re, p⟩ := h
  refine ⟨Z, ι, env, st, s, re, (Post.bind p).imp fun w st1 H1 Z1 ι1 l1 s1 p1 v rv => ?_⟩
  by_cases hc : clsW st1 w = some c
  · rw [if_pos hc] at p1
    obtain ⟨a, dx, fvs, rfl, e1, hcl, no⟩ := obj_at s1 rv hc
    exact ⟨a, dx, fvs, rfl, e1, no mn hn, Z1, ι1, env, st1, s1, re.mono l1, (Post.bind p1).imp fun ws st2 H2 Z2 ι2 l2 s2 p2 vs rvs => ⟨Z2, ι2, _, st2, s2, .cons (rv.mono l2) (rvs.append (RepWs.map_f (r Z2))), p2⟩⟩
  · rw [if_neg hc] at p1
    exact p1.elim
theorem ve_meth {pl : Sem Bool} {c : Nat} (hT : TabOk X.K T) (hc : (T.cls[c]?).isSome = true) (hn : T.noF c mn = true) (ho : VE X T E o to) (hm : Meth X.K (T.ca X.K c) mn f) (F : Fn X.prog X.w X.K X.mg X.base T CX k f m) (hr : Room k X.A) (hx : Passes CX X E) (ha : VA X T E (e :: es) tr)
    (hst : starEach (e :: es) X.env = (false, eval e X.env) :: starEach es X.env := by rfl) (hpl : (backTo pos (starEach es X.env)).any (·.1) = false := by rfl)
    (ht : eval (.Call (.Attribute o mn apos) (e :: es) [] pos) X.env = (do
      let ov ← eval o X.env
      standAt apos.atName
      let (f, first) ← holding [ov] (getMethod ov mn pl)
      callWith pos f first (backTo pos (starEach (e :: es) X.env)) (backToKw pos (keywordEach [] X.env))) := by rfl) :
    VE X T E (.Call (.Attribute o mn apos) (e :: es) [] pos) (eMeth c m to tr) := by
  obtain ⟨fd, ps, ds, dvs, dfs, m0, F0, b, v, r, rfl⟩ := F.ex
  exact pe_weak (pe_meth (pl := pl) ho (hT.cls c hc) hm F0 hr b v hx ha hst hpl ht) fun σ H Q h => rd_meth hn r h
theorem ve_meth0 {pl : Sem Bool} {c : Nat} (hT : TabOk X.K T) (hc : (T.cls[c]?).isSome = true) (hn : T.noF c mn = true) (ho : VE X T E o to) (hm : Meth X.K (T.ca X.K c) mn f) (F : Fn X.prog X.w X.K X.mg X.base T CX k f m) (hr : Room k X.A) (hx : Passes CX X E)
    (ht : eval (.Call (.Attribute o mn apos) [] [] pos) X.env = (do
      let ov ← eval o X.env
      standAt apos.atName
      let (f, first) ← holding [ov] (getMethod ov mn pl)
      callWith pos f first (backTo pos (starEach [] X.env)) (backToKw pos (keywordEach [] X.env))) := by rfl) :
    VE X T E (.Call (.Attribute o mn apos) [] [] pos) (eMeth c m to aNil) := by
  obtain ⟨fd, ps, ds, dvs, dfs, m0, F0, b, v, r, rfl⟩ := F.ex
  refine pe_weak (pe_meth0 (pl := pl) ho (hT.cls c hc) hm F0 hr b v hx ht) fun σ H Q h => ?_
  obtain ⟨Z, ι, env, st, s, re, p⟩ := rd_meth hn r h
  refine ⟨Z, ι, env, st, s, re, p.imp fun w st1 H1 Z1 ι1 l1 s1 p1 v rv => ?_⟩
  obtain ⟨a, dx, fs, e1, e2, e3, Z2, ι2, env2, st2, s2, re2, p2⟩ := p1 v rv
  exact ⟨a, dx, fs, e1, e2, e3, p2 H1 Z2 ι2 Le.refl s2 _ .nil⟩
/-- self.f = v -/
def putA (i : Nat) (w : W) : List (Nat × W) → List (Nat × W)
  | [] => [(i, w)]
  | (j, u) :: r => if j = i then (i, w) :: r else (j, u) :: putA i w r
def setA (T : Tab) (i : Nat) (w : W) (st : Store) : W → Option Store
  | .loc n => match st[n]? with
    | some (.ins c fs) => if T.okf c i = true ∧ fs.length < 1000 then some (st.set n (.ins c (putA i w fs))) else none
    | _ => none
  | _ => none
def sAttr (T : Tab) (i : Nat) (to tv : TEv) : TSv := fun env st => (tv env st).thenS fun w st1 => (to env st1).thenS fun o st2 => match setA T i w st2 o with
  | some st3 => .nx env st3
  | none => .stuck
theorem okf_lt {c i : Nat} (hi : T.okf c i = true) : i < T.fld.length := by
  unfold Tab.okf at hi
  split at hi
  · rw [Bool.and_eq_true] at hi; exact of_decide_eq_true hi.2
  · cases hi
theorem fn_inj {K : PySem.W.Frag} (hT : TabOk K T) {c i j : Nat} (hi : T.okf c i = true) (hj : T.okf c j = true) (q : T.fn i = T.fn j) : i = j := by
  unfold Tab.fn at q
  rw [List.getD_eq_getElem?_getD, List.getD_eq_getElem?_getD, List.getElem?_eq_getElem (okf_lt hi), List.getElem?_eq_getElem (okf_lt hj)] at q
  exact (List.getElem_inj hT.nodup).mp q
theorem wd_put {K : PySem.W.Frag} (hT : TabOk K T) {Z : Hp} {ι : List Addr} {c i : Nat} {v : V} {w : W} (hi : T.okf c i = true) (rv : RepW K T Z ι v w) : ∀ {fvs : List (Str × V)} {fs : List (Nat × W)}, RepWd K T Z ι c fvs fs → RepWd K T Z ι c (putF (T.fn i) v fvs) (putA i w fs)
  | _, _, .nil => .cons hi rv .nil
  | _, _, .cons (i := j) (v := u) (x := y) (xs := xs) (vs := vs) hj r t => by
    show RepWd K T Z ι c (if T.fn j = T.fn i then _ else _) (if j = i then _ else _)
    by_cases hij : j = i
    · subst hij
      rw [if_pos rfl, if_pos rfl]
      exact .cons hi rv t
    · rw [if_neg hij, if_neg fun q => hij (fn_inj hT hj hi q)]
      exact .cons hj r (wd_put hT hi rv t)
theorem wd_len {K : PySem.W.Frag} {Z : Hp} {ι : List Addr} {c : Nat} : ∀ {fvs : List (Str × V)} {fs : List (Nat × W)}, RepWd K T Z ι c fvs fs → fvs.length = fs.length
  | _, _, .nil => rfl
  | _, _, .cons _ _ t => by rw [List.length_cons, List.length_cons, wd_len t]
theorem setA_ok {K : PySem.W.Frag} (hT : TabOk K T) {Z H : Hp} {ι : List Addr} {st st' : Store} {i : Nat} {v y : V} {w o : W} (s : SimS K T Z ι st H) (ro : RepW K T Z ι v o) (ry : RepW K T Z ι y w) (h : setA T i w st o = some st') :
    ∃ a C dx fs, v = .ref a ∧ H a = some (.ins C dx fs) ∧ Cls K C ∧ NoAttr K C (T.fn i) ∧ fs.length < 1000 ∧ SimS K T Z ι st' (upd H a (.ins C dx (putF (T.fn i) y fs))) := by
  cases ro with
  | f r => cases h
  | loc e =>
    rename_i a n
    have h : (match st[n]? with
      | some (.ins c fs) => if T.okf c i = true ∧ fs.length < 1000 then some (st.set n (.ins c (putA i w fs))) else none
      | _ => none) = some st' := h
    cases q : st[n]? with
    | none => rw [q] at h; cases h
    | some cl =>
      have k := s.cell n a cl e q
      cases cl with
      | ins c fs =>
        rw [q] at h
        obtain ⟨hz, dx, fvs, e1, hc, rd⟩ := k
        by_cases hk : T.okf c i = true ∧ fs.length < 1000
        · have h : (if T.okf c i = true ∧ fs.length < 1000 then some (st.set n (.ins c (putA i w fs))) else none) = some st' := h
          rw [if_pos hk] at h
          cases h
          exact ⟨a, _, dx, fvs, rfl, e1, hT.cls c hc, hT.noat c i hk.1, by rw [wd_len rd]; exact hk.2, s.write e hz ⟨hz, dx, _, upd_same, hc, wd_put hT hk.1 ry rd⟩⟩
        · have h : (if T.okf c i = true ∧ fs.length < 1000 then some (st.set n (.ins c (putA i w fs))) else none) = some st' := h
          rw [if_neg hk] at h
          cases h
      | dead => rw [q] at h; cases h
      | lstF xs => rw [q] at h; cases h
      | lstW xs => rw [q] at h; cases h
      | dct xs => rw [q] at h; cases h
      | dti xs => rw [q] at h; cases h
theorem vs_attr {i : Nat} {fn : Str} (hT : TabOk X.K T) (hf : T.fn i = fn) (ho : VE X T E o to) (hv : VE X T E value tv) (hs : swapsWith value (some (.Attribute o fn pos')) pos.line X.env = pure false := by rfl) : VS X T E (.Assign [.Attribute o fn pos'] value pos) (sAttr T i to tv) := by
  subst hf
  refine ps_weak (ps_fld ho hv hs) fun D σ H h => ?_
  obtain ⟨Z, ι, env, st, s, re, p⟩ := h
  refine ⟨Z, ι, env, st, s, re, (PostS.thenS p).imp fun w st1 H1 Z1 ι1 l1 s1 p1 y ry => ?_⟩
  refine ⟨Z1, ι1, env, st1, s1, re.mono l1, (PostS.thenS p1).imp fun o st2 H2 Z2 ι2 l2 s2 p2 v rv => ?_⟩
  cases q : setA T i w st2 o with
  | none => simp only [q] at p2; exact p2.elim
  | some st3 =>
    simp only [q] at p2
    obtain ⟨a, C, dx, fs, e1, e2, e3, e4, e5, s3⟩ := setA_ok hT s2 rv (ry.mono l2) q
    exact ⟨a, C, dx, fs, e1, e2, e3, e4, e5, p2 σ _ Z2 ι2 Le.refl s3 ((re.mono l1).mono l2)⟩
end
end VS

set_option Elab.async false
set_option linter.all false
set_option maxRecDepth 100000
set_option maxHeartbeats 4000000
set_option autoImplicit false
/-! VF: displays, cells that become data, lists that change. -/
namespace VS
open PySem PySem.Spec PyProof.Rows L2

/-! ### cells become data -/
/-- a value as data; only cells from b on are opened -/
def deepF (b : Nat) (st : Store) : Nat → W → Option F
  | _, .f x => some x
  | 0, .loc _ => none
  | n + 1, .loc k => if b ≤ k then (match st[k]? with
    | some (.lstF xs) => some (.lst xs)
    | some (.dct kvs) => some (.dct kvs)
    | some (.lstW ws) => (ws.mapM (deepF b st n)).map F.lst
    | some (.ins c fs) => (fs.mapM fun p => (deepF b st n p.2).map fun x => (p.1, x)).map (F.obj c)
    | _ => none) else none
theorem RepWs.take {K : PySem.W.Frag} {T : Tab} {Z : Hp} {ι : List Addr} : ∀ {vs : List V} {xs : List W} (n : Nat), RepWs K T Z ι vs xs → RepWs K T Z ι (vs.take n) (xs.take n)
  | _, _, 0, _ => .nil
  | _, _, _ + 1, .nil => .nil
  | _, _, n + 1, .cons r t => .cons r (RepWs.take n t)
theorem RepWs.drop {K : PySem.W.Frag} {T : Tab} {Z : Hp} {ι : List Addr} : ∀ {vs : List V} {xs : List W} (n : Nat), RepWs K T Z ι vs xs → RepWs K T Z ι (vs.drop n) (xs.drop n)
  | _, _, 0, r => r
  | _, _, _ + 1, .nil => .nil
  | _, _, n + 1, .cons _ t => RepWs.drop n t
def frz (b : Nat) (w : W) (st : Store) : Res W := match deepF b st 3 w with
  | some x => if clean b (st.take b) = true then .ok (.f x) (st.take b) else .stuck
  | none => .stuck
/-- the value of t as data; the cells that t has made are dropped -/
def eFrz (t : TEv) : TEv := fun env st => (t env st).bind fun w st1 => frz st.length w st1

section
variable {K : PySem.W.Frag} {T : Tab} {Z H : Hp} {ι : List Addr} {st : Store}
/-- the frozen heap with the cells from b on in it -/
def zAll (Z H : Hp) (ι : List Addr) (b : Nat) : Hp := fun a => if a ∈ ι.drop b then H a else Z a
theorem zAll_same (s : SimS K T Z ι st H) (b : Nat) : Same Z (zAll Z H ι b) := fun a o e => by
  unfold zAll
  by_cases h : a ∈ ι.drop b
  · rw [if_pos h]; exact s.sub a o e
  · rw [if_neg h]; exact e
theorem mapM_some {α β : Type} {f : α → Option β} : ∀ {l : List α} {m : List β}, l.mapM f = some m → l.length = m.length ∧ ∀ (i : Nat) x y, l[i]? = some x → m[i]? = some y → f x = some y
  | [], m, h => by
    simp [List.mapM_nil] at h
    subst h
    exact ⟨rfl, fun i x y h => by simp at h⟩
  | x :: l, m, h => by
    rw [List.mapM_cons] at h
    cases q : f x with
    | none => rw [q] at h; cases h
    | some y =>
      rw [q] at h
      cases q2 : l.mapM f with
      | none => simp [q2] at h
      | some m' =>
        simp [q2] at h
        subst h
        obtain ⟨h1, h2⟩ := mapM_some q2
        refine ⟨by simp [h1], fun i x' y' e1 e2 => ?_⟩
        cases i with
        | zero => simp at e1 e2; subst e1 e2; exact q
        | succ i => exact h2 i x' y' (by simpa using e1) (by simpa using e2)
theorem RepFs.of_get : ∀ {vs : List V} {xs : List F}, vs.length = xs.length → (∀ (i : Nat) v x, vs[i]? = some v → xs[i]? = some x → RepF K T Z v x) → RepFs K T Z vs xs
  | [], [], _, _ => .nil
  | [], _ :: _, h, _ => by simp at h
  | _ :: _, [], h, _ => by simp at h
  | v :: vs, x :: xs, h, k => .cons (k 0 v x rfl rfl) (RepFs.of_get (by simpa using h) fun i v' x' e1 e2 => k (i + 1) v' x' (by simpa using e1) (by simpa using e2))
theorem deep_fd {b : Nat} {n : Nat} (ih : ∀ {v : V} {w : W} {x : F}, RepW K T Z ι v w → deepF b st n w = some x → RepF K T (zAll Z H ι b) v x) : ∀ {c : Nat} {fvs : List (Str × V)} {fs : List (Nat × W)} {xs : List (Nat × F)}, RepWd K T Z ι c fvs fs →
    (fs.mapM fun p => (deepF b st n p.2).map fun x => (p.1, x)) = some xs → RepFd K T (zAll Z H ι b) c fvs xs
  | _, _, _, _, .nil, h => by
    simp [List.mapM_nil] at h
    subst h
    exact .nil
  | _, _, _, _, .cons (i := i) (x := w) (xs := fs) hi r t, h => by
    rw [List.mapM_cons] at h
    cases q : deepF b st n w with
    | none => simp [q] at h
    | some y =>
      cases q2 : (fs.mapM fun p => (deepF b st n p.2).map fun x => (p.1, x)) with
      | none => simp [q2] at h
      | some m' =>
        simp [q, q2] at h
        subst h
        exact .cons hi (ih r q) (deep_fd ih t q2)
theorem deepF_ok (s : SimS K T Z ι st H) (b : Nat) : ∀ (n : Nat) {v : V} {w : W} {x : F}, RepW K T Z ι v w → deepF b st n w = some x → RepF K T (zAll Z H ι b) v x := by
  have hs := zAll_same s b
  have at_ : ∀ {k : Nat} {a : Addr}, b ≤ k → ι[k]? = some a → zAll Z H ι b a = H a := fun {k a} hb e => by
    unfold zAll
    rw [if_pos]
    refine List.mem_of_getElem? (i := k - b) ?_
    rw [List.getElem?_drop, show b + (k - b) = k by omega]
    exact e
  intro n
  induction n with
  | zero =>
    intro v w x r h
    cases r with
    | f r => cases h; exact r.mono hs
    | loc e => cases h
  | succ n ih =>
    intro v w x r h
    cases r with
    | f r => cases h; exact r.mono hs
    | loc e =>
      rename_i a k
      unfold deepF at h
      by_cases hb : b ≤ k
      · rw [if_pos hb] at h
        have ha := at_ hb e
        cases q : st[k]? with
        | none => rw [q] at h; cases h
        | some cl =>
          have kk := s.cell k a cl e q
          cases cl with
          | dead => rw [q] at h; cases h
          | lstF xs => rw [q] at h; cases h; obtain ⟨_, vs, e1, r1⟩ := kk; exact .lst (ha.trans e1) (r1.mono hs)
          | dct xs => rw [q] at h; cases h; obtain ⟨_, vs, e1, r1⟩ := kk; exact .dct (ha.trans e1) (r1.mono hs)
          | dti xs => rw [q] at h; cases h
          | lstW ws =>
            rw [q] at h
            obtain ⟨_, vs, e1, r1⟩ := kk
            have h : (ws.mapM (deepF b st n)).map F.lst = some x := h
            cases q2 : ws.mapM (deepF b st n) with
            | none => rw [q2] at h; cases h
            | some xs =>
              rw [q2] at h; cases h
              obtain ⟨hl, hk⟩ := mapM_some q2
              refine .lst (ha.trans e1) (RepFs.of_get (by rw [r1.length, hl]) fun i v' x' e2 e3 => ?_)
              have hlt : i < ws.length := by rw [hl]; exact (List.getElem?_eq_some_iff.mp e3).1
              have e4 : ws[i]? = some ws[i] := by simp [hlt]
              obtain ⟨v2, e5, r5⟩ := r1.get e4
              rw [e2] at e5; cases e5
              exact ih r5 (hk i _ _ e4 e3)
          | ins c fs =>
            rw [q] at h
            obtain ⟨_, dx, fvs, e1, hc, r1⟩ := kk
            have h : (fs.mapM fun p => (deepF b st n p.2).map fun x => (p.1, x)).map (F.obj c) = some x := h
            cases q2 : (fs.mapM fun p => (deepF b st n p.2).map fun x => (p.1, x)) with
            | none => rw [q2] at h; cases h
            | some xs =>
              rw [q2] at h; cases h
              exact .obj (ha.trans e1) hc (deep_fd ih r1 q2)
      · rw [if_neg hb] at h; cases h
theorem SimS.zall (s : SimS K T Z ι st H) {b : Nat} (h : clean b (st.take b) = true) : SimS K T (zAll Z H ι b) (ι.take b) (st.take b) H := by
  have hs := zAll_same s b
  have s0 := s.cut h
  have l : Le Z (ι.take b) (zAll Z H ι b) (ι.take b) := ⟨hs, fun _ _ h => h⟩
  have hz : ∀ a, a ∈ ι.take b → zAll Z H ι b a = Z a := fun a ha => by
    unfold zAll
    rw [if_neg]
    intro hd
    have nd := s.nd
    rw [← List.take_append_drop b ι, List.nodup_append] at nd
    exact nd.2.2 a ha a hd rfl
  refine ⟨fun a o e => ?_, s0.len, s0.nd, fun n a c h1 h2 => ?_, s0.there, s.tab.step (fun a ps e => ?_) s0.tab.ct (fun _ _ e _ => e) fun a u e hn h0 => by
    unfold zAll
    rw [if_neg fun hd => hn (List.mem_of_mem_drop hd)]
    exact h0⟩
  rotate_right
  · unfold zAll at e
    by_cases hd : a ∈ ι.drop b
    · rw [if_pos hd] at e
      exact absurd rfl ((s.tab.ct a (List.mem_of_mem_drop hd) _ e).1 ps)
    · rw [if_neg hd] at e
      exact e
  · unfold zAll at e
    by_cases hd : a ∈ ι.drop b
    · rw [if_pos hd] at e; exact e
    · rw [if_neg hd] at e; exact s.sub a o e
  · have k := s0.cell n a c h1 h2
    have hza := hz a (List.mem_of_getElem? h1)
    cases c with
    | dead => trivial
    | lstF xs => obtain ⟨n, vs, e, r⟩ := k; exact ⟨hza.trans n, vs, e, r.mono hs⟩
    | lstW xs => obtain ⟨n, vs, e, r⟩ := k; exact ⟨hza.trans n, vs, e, r.mono l⟩
    | dct xs => obtain ⟨n, vs, e, r⟩ := k; exact ⟨hza.trans n, vs, e, r.mono hs⟩
    | dti xs => obtain ⟨n, vs, e, r⟩ := k; exact ⟨hza.trans n, vs, e, r.mono hs⟩
    | ins c fs => obtain ⟨n, dx, fvs, e, hk, r⟩ := k; exact ⟨hza.trans n, dx, fvs, e, hk, r.mono l⟩
theorem frz_ok {E : XK} {Z0 : Hp} {ι0 : List Addr} {b : Nat} {w : W} {v : V} {Q : VK} (hb : ι0.length = b) (l : Le Z0 ι0 Z ι) (s : SimS K T Z ι st H) (r : RepW K T Z ι v w)
    (h : Post K T E Z0 ι0 (frz b w st) fun w _ H' Z' ι' => ∀ v, RepW K T Z' ι' v w → Q v H') : Q v H := by
  unfold frz at h
  cases q : deepF b st 3 w with
  | none => rw [q] at h; exact h.elim
  | some x =>
    rw [q] at h
    by_cases hc : clean b (st.take b) = true
    · have h : Post K T E Z0 ι0 (if clean b (st.take b) = true then Res.ok (W.f x) (st.take b) else Res.stuck) _ := h
      rw [if_pos hc] at h
      have lc := l.cut (b := b) (by omega)
      exact h H (zAll Z H ι b) (ι.take b) (lc.trans ⟨zAll_same s b, fun _ _ h => h⟩) (s.zall hc) v (.f (deepF_ok s b 3 r q))
    · have h : Post K T E Z0 ι0 (if clean b (st.take b) = true then Res.ok (W.f x) (st.take b) else Res.stuck) _ := h
      rw [if_neg hc] at h
      exact h.elim
end

section
variable {X : Cx} {T : Tab} {E : XK} {e o i value : Expr} {es : List Expr} {te to ti tv : TEv} {tr : TAv} {pos pos' apos : Pos}
theorem rd_frz {K : PySem.W.Frag} {σ : L2.St} {H : Hp} {Q : VK} (h : RdE K T E (eFrz te) σ H Q) : RdE K T E te σ H Q := by
  obtain ⟨Z, ι, env, st, s, re, p⟩ := h
  refine ⟨Z, ι, env, st, s, re, ?_⟩
  unfold eFrz at p
  cases q : te env st with
  | ok w st1 => rw [q] at p; exact fun H' Z' ι' l s' v rv => frz_ok (Z0 := Z) (ι0 := ι) s.len l s' rv p
  | exc c fs st1 => rw [q] at p; exact p
  | stuck => rw [q] at p; exact p
theorem ve_frz (h : VE X T E e te) : VE X T E e (eFrz te) := pe_weak h fun _ _ _ q => rd_frz q

/-! ### displays -/
/-- all data, and not too many -/
def small (n : Nat) : Bool := decide (n ≤ 1000000)
theorem small_line {n : Nat} (h : small n = true) : n ≤ sizeLine := Nat.le_trans (of_decide_eq_true h) (by decide)
def eTup (t : TAv) : TEv := fun env st => (t env st).bind fun ws st1 => match allF ws with
  | some xs => if small xs.length = true then .ok (.f (.tup xs)) st1 else .stuck
  | none => .stuck
theorem ve_tup {x1 : Nat} (h : VA X T E es tr) : VE X T E (.Tuple es x1 pos) (eTup tr) := pe_weak (pe_tup h) fun σ H Q h => by
  obtain ⟨Z, ι, env, st, s, re, p⟩ := h
  refine ⟨Z, ι, env, st, s, re, (Post.bind p).imp fun ws st1 H1 Z1 ι1 l1 s1 p1 vs rvs => ?_⟩
  cases q : allF ws with
  | none => simp only [q] at p1; exact p1.elim
  | some xs =>
    simp only [q] at p1
    by_cases hs : small xs.length = true
    · rw [if_pos hs] at p1
      have rs := rvs.allF q
      refine ⟨small_line (by rw [rs.length]; exact hs), fun a ha => ?_⟩
      have g := Grow.laid (o := .tup vs) s1.sub ha
      exact p1 _ _ _ g.le (s1.grow g) _ (.f (.tup (SqT.of upd_same) (rs.mono g.z)))
    · rw [if_neg hs] at p1; exact p1.elim
/-- a list as data -/
def eLst (t : TAv) : TEv := fun env st => (t env st).bind fun ws st1 => match allF ws with
  | some xs => if small xs.length = true then .ok (.f (.lst xs)) st1 else .stuck
  | none => .stuck
theorem ve_lst (h : VA X T E es tr) : VE X T E (.List es pos) (eLst tr) := pe_weak (pe_lst h) fun σ H Q h => by
  obtain ⟨Z, ι, env, st, s, re, p⟩ := h
  refine ⟨Z, ι, env, st, s, re, (Post.bind p).imp fun ws st1 H1 Z1 ι1 l1 s1 p1 vs rvs => ?_⟩
  cases q : allF ws with
  | none => simp only [q] at p1; exact p1.elim
  | some xs =>
    simp only [q] at p1
    by_cases hs : small xs.length = true
    · rw [if_pos hs] at p1
      have rs := rvs.allF q
      refine ⟨small_line (by rw [rs.length]; exact hs), fun a ha => ?_⟩
      have g := Grow.laid (o := .lst vs) s1.sub ha
      exact p1 _ _ _ g.le (s1.grow g) _ (.f (.lst upd_same (rs.mono g.z)))
    · rw [if_neg hs] at p1; exact p1.elim
/-- a list as a cell -/
def cellOf (ws : List W) : Cell := match allF ws with
  | some xs => .lstF xs
  | none => .lstW ws
def eLstM (t : TAv) : TEv := fun env st => (t env st).bind fun ws st1 => if small ws.length = true then .ok (.loc st1.length) (st1 ++ [cellOf ws]) else .stuck
theorem last_get {α : Type} (l : List α) (a : α) : (l ++ [a])[l.length]? = some a := by simp
theorem ve_lstM (h : VA X T E es tr) : VE X T E (.List es pos) (eLstM tr) := pe_weak (pe_lst h) fun σ H Q h => by
  obtain ⟨Z, ι, env, st, s, re, p⟩ := h
  refine ⟨Z, ι, env, st, s, re, (Post.bind p).imp fun ws st1 H1 Z1 ι1 l1 s1 p1 vs rvs => ?_⟩
  by_cases hs : small ws.length = true
  · rw [if_pos hs] at p1
    refine ⟨small_line (by rw [rvs.length]; exact hs), fun a ha => ?_⟩
    have hz := free_sub s1.sub ha
    have s2 := s1.alloc (c := cellOf ws) (o := .lst vs) ha (by
      unfold cellOf
      cases q : allF ws with
      | none => exact ⟨hz, vs, upd_same, rvs.mono Le.alloc⟩
      | some xs => exact ⟨hz, vs, upd_same, rvs.allF q⟩)
    exact p1 _ _ _ Le.alloc s2 _ (.loc (by rw [← s1.len]; exact last_get _ _))
  · rw [if_neg hs] at p1; exact p1.elim

/-! ### methods of built-in types that change a cell -/
/-- what is handed back, the new cell -/
abbrev CellOp := Cell → List W → Option (W × Cell)
def isCell (d : Bool) : Option Cell → Bool
  | some (.lstF _) => !d
  | some (.lstW _) => !d
  | some (.dct _) => d
  | _ => false
def doCell (g : CellOp) (n : Nat) (ws : List W) (st : Store) : Res W := match st[n]? with
  | some c => (match g c ws with
    | some (w, c') => .ok w (st.set n c')
    | none => .stuck)
  | none => .stuck
/-- o.m(..), o a list's (d: a dict's) cell -/
def eMut (d : Bool) (g : CellOp) (to : TEv) (t : TAv) : TEv := fun env st => (to env st).bind fun o st1 => match o with
  | .loc n => if isCell d st1[n]? = true then (t env st1).bind fun ws st2 => doCell g n ws st2 else .stuck
  | _ => .stuck
/-- what a method's rule r does to a cell -/
def MutOk (X : Cx) (T : Tab) (r : V → List V → Hp → VK → Prop) (g : CellOp) : Prop :=
  ∀ (Z H : Hp) (ι : List Addr) (a : Addr) (c c' : Cell) (ws : List W) (w : W) (vs : List V) (Q : VK), Same Z H → CellOk X.K T Z ι H a c → RepWs X.K T Z ι vs ws → g c ws = some (w, c') →
    (∀ v o, RepW X.K T Z ι v w → CellOk X.K T Z ι (upd H a o) a c' → Z a = none → Hard o → Q v (upd H a o)) → r (.ref a) vs H Q
theorem tyV_cell {K : PySem.W.Frag} {Z H : Hp} {ι : List Addr} {a : Addr} {c : Cell} {d : Bool} (k : CellOk K T Z ι H a c) (h : isCell d (some c) = true) : tyV K (if d = true then "dict" else "list") (.ref a) H := by
  cases c with
  | dead => cases h
  | ins c fs => cases h
  | lstF xs => cases d with
    | true => cases h
    | false => obtain ⟨_, vs, e, _⟩ := k; exact .inl ⟨rfl, vs, SqL.of e⟩
  | lstW xs => cases d with
    | true => cases h
    | false => obtain ⟨_, vs, e, _⟩ := k; exact .inl ⟨rfl, vs, SqL.of e⟩
  | dti xs => cases h
  | dct xs => cases d with
    | false => cases h
    | true => obtain ⟨_, vs, e, _⟩ := k; exact .inr (.inr (.inl ⟨rfl, .inl ⟨vs, e⟩⟩))
theorem rd_mut {d : Bool} {r : V → List V → Hp → VK → Prop} {g : CellOp} (hm : MutOk X T r g) {σ : L2.St} {H : Hp} {Q : VK} (h : RdE X.K T E (eMut d g to tr) σ H Q) : tBM X.K (if d = true then "dict" else "list") r (RdE X.K T E to) (RdA X.K T E tr) σ H Q := by
  obtain ⟨Z, ι, env, st, s, re, p⟩ := h
  refine ⟨Z, ι, env, st, s, re, (Post.bind p).imp fun w st1 H1 Z1 ι1 l1 s1 p1 v rv => ?_⟩
  cases rv with
  | f rv => exact p1.elim
  | loc e =>
    rename_i a n
    have p1 : Post X.K T E Z1 ι1 (if isCell d st1[n]? = true then (tr env st1).bind fun ws st2 => doCell g n ws st2 else .stuck) _ := p1
    by_cases hc : isCell d st1[n]? = true
    · rw [if_pos hc] at p1
      cases q : st1[n]? with
      | none => rw [q] at hc; cases hc
      | some c =>
        rw [q] at hc
        refine ⟨tyV_cell (s1.cell n a c e q) hc, Z1, ι1, env, st1, s1, re.mono l1, (Post.bind p1).imp fun ws st2 H2 Z2 ι2 l2 s2 p2 vs rvs => ?_⟩
        have e2 := l2.i _ _ e
        unfold doCell at p2
        cases q2 : st2[n]? with
        | none => simp only [q2] at p2; exact p2.elim
        | some c2 =>
          simp only [q2] at p2
          cases q3 : g c2 ws with
          | none => simp only [q3] at p2; exact p2.elim
          | some wc =>
            obtain ⟨w, c'⟩ := wc
            simp only [q3] at p2
            exact hm Z2 H2 ι2 a c2 c' ws w vs Q s2.sub (s2.cell n a c2 e2 q2) rvs q3 fun v o rv ok hz hd => p2 _ Z2 ι2 Le.refl (s2.write e2 hz ok hd) v rv
    · rw [if_neg hc] at p1; exact p1.elim
variable {name : Str} {id : String} {cpos : Pos}
/-- o.m(e, ..) on a list's cell -/
theorem ve_mutL {r : V → List V → Hp → VK → Prop} {g : CellOp} (slot : Slot "list" name id) (hty : typeOf (.builtin id) = pure (.type "method_descriptor")) (hr : MtR X id r) (hm : MutOk X T r g) (ho : VE X T E o to) (ha : VA X T E (e :: es) tr)
    (hbase : attributeBase o name X.env (eval o X.env) = eval o X.env := by rfl)
    (hfew : ((backTo cpos (starEach (e :: es) X.env)).all (fun x => !x.1) && (backToKw cpos (keywordEach [] X.env)).all (fun x => x.1.isSome)
      && decide ((e :: es).length + ([] : List Keyword).length + (if ([] : List Keyword).isEmpty then 0 else 1) < 30)) = true := by rfl)
    (hline : (apos.endLine == cpos.line) = true := by rfl) (hs : starEach (e :: es) X.env = (false, eval e X.env) :: starEach es X.env := by rfl) (hplain : (backTo cpos (starEach es X.env)).any (·.1) = false := by rfl) :
    VE X T E (.Call (.Attribute o name apos) (e :: es) [] cpos) (eMut false g to tr) :=
  pe_weak (pe_bm PySem.F.plainAttrs_list slot hty hr ho ha hbase hfew hline hs hplain) fun _ _ _ h => rd_mut (d := false) hm h
/-! the operations -/
def cAppend : CellOp := fun c ws => match c, ws with
  | .lstF xs, [.f x] => if small (xs.length + 1) = true then some (.f .non, .lstF (xs ++ [x])) else none
  | .lstF xs, [.loc n] => if small (xs.length + 1) = true then some (.f .non, .lstW (xs.map W.f ++ [.loc n])) else none
  | .lstW xs, [w] => if small (xs.length + 1) = true then some (.f .non, .lstW (xs ++ [w])) else none
  | _, _ => none
theorem ifSome {α : Type} {p : Prop} [Decidable p] {a b : α} (h : (if p then some a else none) = some b) : p ∧ a = b := by
  by_cases hp : p
  · rw [if_pos hp] at h; exact ⟨hp, Option.some.inj h⟩
  · rw [if_neg hp] at h; cases h
theorem small_app {n : Nat} (h : small (n + 1) = true) : n < sizeLine := Nat.lt_of_lt_of_le (Nat.lt_succ_self n) (small_line h)
theorem mut_append : MutOk X T rAppend cAppend := by
  intro Z H ι a c c' ws w vs Q s k r h q
  cases c with
  | lstF xs =>
    obtain ⟨hz, us, e, ru⟩ := k
    cases r with
    | nil => cases h
    | cons r1 r2 =>
      cases r2 with
      | cons _ _ => cases r1 <;> cases h
      | nil =>
        cases r1 with
        | f r1 =>
          obtain ⟨hs, h⟩ := ifSome h
          cases h
          exact ⟨a, us, _, rfl, rfl, e, by rw [ru.length]; exact small_app hs, q _ _ (.f .non) ⟨hz, _, upd_same, ru.append (.cons r1 .nil)⟩ hz ⟨fun _ => nofun, fun _ => nofun⟩⟩
        | loc r1 =>
          obtain ⟨hs, h⟩ := ifSome h
          cases h
          exact ⟨a, us, _, rfl, rfl, e, by rw [ru.length]; exact small_app hs, q _ _ (.f .non) ⟨hz, _, upd_same, (RepWs.ofFs ru).append (.cons (.loc r1) .nil)⟩ hz ⟨fun _ => nofun, fun _ => nofun⟩⟩
  | lstW xs =>
    obtain ⟨hz, us, e, ru⟩ := k
    cases r with
    | nil => cases h
    | cons r1 r2 =>
      cases r2 with
      | cons _ _ => cases h
      | nil =>
        obtain ⟨hs, h⟩ := ifSome h
        cases h
        exact ⟨a, us, _, rfl, rfl, e, by rw [ru.length]; exact small_app hs, q _ _ (.f .non) ⟨hz, _, upd_same, ru.append (.cons r1 .nil)⟩ hz ⟨fun _ => nofun, fun _ => nofun⟩⟩
  | dead => cases h
  | dct _ => cases h
  | dti _ => cases h
  | ins _ _ => cases h
theorem ve_append (ho : VE X T E o to) (he : VE X T E e te) (hbase : attributeBase o "append" X.env (eval o X.env) = eval o X.env := by rfl)
    (hline : (apos.endLine == cpos.line) = true := by rfl) (hs : starEach [e] X.env = [(false, eval e X.env)] := by rfl) :
    VE X T E (.Call (.Attribute o "append" apos) [e] [] cpos) (eMut false cAppend to (aCons te aNil)) :=
  ve_mutL PySem.F.slot_list_append PySem.F.type_list_append mt_append mut_append ho (va_cons he va_nil hs) hbase (by rw [hs]; rfl) hline hs rfl
end
end VS

set_option Elab.async false
set_option linter.all false
set_option maxRecDepth 100000
set_option maxHeartbeats 4000000
set_option autoImplicit false
/-! VG: operations on plain data. -/
namespace VS
open PySem PySem.Spec PyProof.Rows L2
section
variable {K : PySem.W.Frag} {T : Tab} {Z H : Hp} {x : V}
theorem View.int {i : Int} (h : View K T Z H x (.int i)) : x = .int i := by cases h with | f r => cases r; rfl
theorem View.bl {i : Bool} (h : View K T Z H x (.bl i)) : x = .bl i := by cases h with | f r => cases r; rfl
theorem View.str {i : List Nat} (h : View K T Z H x (.str i)) : x = .str (S i) := by cases h with | f r => cases r; rfl
theorem View.non (h : View K T Z H x .non) : x = .non := by cases h with | f r => cases r; rfl
theorem View.lst' {xs : List F} (h : View K T Z H x (.lst xs)) (s : Same Z H) : ∃ a vs, x = .ref a ∧ H a = some (.lst vs) ∧ RepFs K T Z vs xs := by
  cases h with
  | f r => cases r with | lst e rs => exact ⟨_, _, rfl, s _ _ e, rs⟩
  | lst e rs => exact ⟨_, _, rfl, e, rs⟩
theorem View.tup' {xs : List F} (h : View K T Z H x (.tup xs)) : ∃ a vs, x = .ref a ∧ SqT K Z a vs ∧ RepFs K T Z vs xs := by
  cases h with | f r => cases r with | tup e rs => exact ⟨_, _, rfl, e, rs⟩
theorem View.dct' {xs : List (F × F)} (h : View K T Z H x (.dct xs)) (s : Same Z H) : ∃ a vs, x = .ref a ∧ H a = some (.dK vs) ∧ RepFk K T Z vs xs := by
  cases h with
  | f r => cases r with | dct e rs => exact ⟨_, _, rfl, s _ _ e, rs⟩
  | dct e rs => exact ⟨_, _, rfl, e, rs⟩
theorem S_len (l : List Nat) : (S l).length = l.length := by show l.toArray.size = _; simp
theorem S_app (a b : List Nat) : S a ++ S b = S (a ++ b) := by
  show Str.mk (a.toArray ++ b.toArray) = Str.mk (a ++ b).toArray
  simp
theorem S_inj {a b : List Nat} : S a = S b ↔ a = b := ⟨fun h => by
  have : a.toArray = b.toArray := congrArg Str.cps h
  simpa using this, fun h => by rw [h]⟩
theorem S_list (l : List Nat) : (S l).cps.toList = l := by show l.toArray.toList = l; simp
end

section
variable {X : Cx} {T : Tab}
/-! ### arithmetic -/
def addF : F → F → Option F
  | .int i, .int j => some (.int (i + j))
  | .str a, .str b => if small (a.length + b.length) = true then some (.str (a ++ b)) else none
  | .lst xs, .lst ys => if small (xs.length + ys.length) = true then some (.lst (xs ++ ys)) else none
  | .tup xs, .tup ys => if small (xs.length + ys.length) = true then some (.tup (xs ++ ys)) else none
  | _, _ => none
def rAddF (K : PySem.W.Frag) : R2 := fun x y H Q => (rI0 (fun i j => .int (i + j)) x y H Q ∨ ∃ i j, x = .str i ∧ y = .str j ∧ i.length + j.length ≤ sizeLine ∧ Q (.str (i ++ j)) H) ∨ (rCat x y H Q ∨ rCatA K x y H Q)
theorem or_add : OpR X (binaryOp .Add) (rAddF X.K) := OpR.or (OpR.or op_add op_add_str) (OpR.or op_cat op_catA)
theorem o2_add : Op2 X T (rAddF X.K) addF := by
  intro Z H x y fx fy z Q s vx vy h g
  cases fx with
  | int i => cases fy with
    | int j => cases h; cases vx.int; cases vy.int; exact .inl (.inl ⟨i, j, rfl, rfl, g.here s (.int _)⟩)
    | _ => cases h
  | str a => cases fy with
    | str b =>
      obtain ⟨hs, h⟩ := ifSome h
      cases h; cases vx.str; cases vy.str
      exact .inl (.inr ⟨_, _, rfl, rfl, by rw [S_len, S_len]; exact small_line hs, by rw [S_app]; exact g.here s (.str _)⟩)
    | _ => cases h
  | lst xs => cases fy with
    | lst ys =>
      obtain ⟨hs, h⟩ := ifSome h
      cases h
      obtain ⟨a, vs, rfl, e1, r1⟩ := vx.lst' s
      obtain ⟨b, us, rfl, e2, r2⟩ := vy.lst' s
      refine .inr (.inl ⟨a, b, vs, us, rfl, rfl, e1, e2, by rw [r1.length, r2.length]; exact small_line hs, fun p hp => g.new s hp ?_⟩)
      have gr := Grow.laid (o := .lst (vs ++ us)) s hp
      exact .lst upd_same ((r1.append r2).mono gr.z)
    | _ => cases h
  | tup xs => cases fy with
    | tup ys =>
      obtain ⟨hs, h⟩ := ifSome h
      cases h
      obtain ⟨a, vs, rfl, e1, r1⟩ := vx.tup'
      obtain ⟨b, us, rfl, e2, r2⟩ := vy.tup'
      refine .inr (.inr ⟨a, b, vs, us, rfl, rfl, same_sqt s e1, same_sqt s e2, by rw [r1.length, r2.length]; exact small_line hs, fun h0 => ?_, fun h0 h1 => ?_, fun h0 h1 p hp => ?_⟩)
      · subst h0
        cases r1
        exact g.here s (.tup e2 r2)
      · subst h1
        cases r2
        rw [List.append_nil] at g
        exact g.here s (.tup e1 r1)
      · have gr := Grow.laid (o := .tup (vs ++ us)) s hp
        exact g.new s hp (.tup (SqT.of upd_same) ((r1.append r2).mono gr.z))
    | _ => cases h
  | _ => cases h
def subF : F → F → Option F
  | .int i, .int j => some (.int (i - j))
  | _, _ => none
theorem o2_sub : Op2 X T (rI0 fun i j => .int (i - j)) subF := by
  intro Z H x y fx fy z Q s vx vy h g
  cases fx with
  | int i => cases fy with
    | int j => cases h; cases vx.int; cases vy.int; exact ⟨i, j, rfl, rfl, g.here s (.int _)⟩
    | _ => cases h
  | _ => cases h
/-- bits -/
def bitsI (i : Int) : Nat := i.natAbs.log2
def repS (n : Int) (s : List Nat) : List Nat := (List.replicate n.toNat s).flatten
def mulF : F → F → Option F
  | .int i, .int j => if (decide (-(2 ^ 64) < i) && decide (i < 2 ^ 64)) = true ∨ (decide (-(2 ^ 64) < j) && decide (j < 2 ^ 64)) = true ∨ bitsI i + bitsI j < 1000000 then some (.int (i * j)) else none
  | .str a, .int n => if decide (-1000000 ≤ n) = true ∧ decide (n ≤ 1000000) = true ∧ small (a.length * n.toNat) = true then some (.str (repS n a)) else none
  | .lst xs, .int n => if decide (-1000000 ≤ n) = true ∧ decide (n ≤ 1000000) = true ∧ small (xs.length * n.toNat) = true then some (.lst (List.replicate n.toNat xs).flatten) else none
  | _, _ => none
theorem foldl_app (l : List Nat) : ∀ (n : Nat) (acc : Array Nat), (List.replicate n l.toArray).foldl (· ++ ·) acc = acc ++ ((List.replicate n l).flatten).toArray
  | 0, acc => by simp
  | n + 1, acc => by
    rw [List.replicate_succ, List.foldl_cons, foldl_app l n, List.replicate_succ, List.flatten_cons]
    simp
theorem op_mul_str : OpR X (binaryOp .Mult) (fun x y H Q => ∃ (a : List Nat) (n : Int), x = .str (S a) ∧ y = .int n ∧ -1000000 ≤ n ∧ n ≤ 1000000 ∧ small (a.length * n.toNat) = true ∧ Q (.str (S (repS n a))) H) := by
  intro pins s σ H x y v u Q I rx ry h
  obtain ⟨a, n, rfl, rfl, h1, h2, hs, q⟩ := h
  obtain ⟨t, rfl⟩ := rx
  obtain ⟨t', rfl⟩ := ry
  have hl : (S a).length = a.length := S_len a
  have hz : a.length * n.toNat ≤ 1000000 := of_decide_eq_true hs
  have e0 : ∀ {z : Str}, z = S (repS n a) → ∀ (tk : Tok) (k : Nat), EP X pins σ Q (.str z tk) { s with toks := k } := fun {z} e tk k => ⟨.str z, H, I.tok _, ⟨tk, rfl⟩, by rw [e]; exact q⟩
  refine PySem.P.mul_str (by rw [decide_eq_false (by omega), decide_eq_false (by omega)]; rfl) (fun hn h01 => ?_) (fun hn h01 => ?_) ?_
  · intro hgt
    have hn0 : (0 : Int) < n := by omega
    have : (2 ^ 63 - 1 : Int) < ((S a).length : Int) * n := by
      have := Int.lt_mul_of_ediv_lt hn0 hgt
      exact this
    have e1 : ((S a).length : Int) * n = ((a.length * n.toNat : Nat) : Int) := by
      rw [hl, Int.natCast_mul, Int.toNat_of_nonneg (by omega)]
    rw [e1] at this
    omega
  · show Builtin.Str.tooLong ((S a).length * n.toNat) = false
    rw [hl]
    unfold Builtin.Str.tooLong
    exact decide_eq_false (by have : (1000000 : Nat) ≤ sizeLine := by decide
                              omega)
  · by_cases hn : n < 1
    · rw [if_pos hn]
      refine ⟨by decide, e0 ?_ _ _⟩
      have : n.toNat = 0 := by omega
      unfold repS
      rw [this]
      rfl
    · rw [if_neg hn]
      by_cases h01 : (n == 1 || (S a).length == 0) = true
      · rw [if_pos h01]
        have e1 : S a = S (repS n a) := by
          rw [Bool.or_eq_true] at h01
          unfold repS
          rcases h01 with h | h
          · have : n = 1 := by simpa using h
            subst this
            simp
          · have : a.length = 0 := by rw [← hl]; simpa using h
            have : a = [] := List.length_eq_zero_iff.mp this
            subst this
            simp
        exact e0 e1 t s.toks
      · rw [if_neg h01]
        refine ⟨?_, e0 ?_ _ _⟩
        · show (Str.mk _).cps.size ≤ sizeLine
          rw [show (S a).cps = a.toArray from rfl, foldl_app]
          have : ((List.replicate n.toNat a).flatten).length = n.toNat * a.length := by simp
          simp only [Array.empty_append, List.size_toArray, this]
          rw [Nat.mul_comm]
          have : (1000000 : Nat) ≤ sizeLine := by decide
          omega
        · unfold S repS
          rw [show (Str.mk a.toArray).cps = a.toArray from rfl, foldl_app]
          simp
def rMulF : R2 := fun x y H Q => (rI CMul (fun i j => .int (i * j)) x y H Q ∨ rI CMulW (fun i j => .int (i * j)) x y H Q) ∨ ((∃ (a : List Nat) (n : Int), x = .str (S a) ∧ y = .int n ∧ -1000000 ≤ n ∧ n ≤ 1000000 ∧ small (a.length * n.toNat) = true ∧ Q (.str (S (repS n a))) H) ∨ rRep x y H Q)
theorem or_mul : OpR X (binaryOp .Mult) rMulF := OpR.or (OpR.or op_mul op_mulW) (OpR.or op_mul_str op_rep)
theorem o2_mul : Op2 X T rMulF mulF := by
  intro Z H x y fx fy z Q s vx vy h g
  cases fx with
  | int i => cases fy with
    | int j =>
      obtain ⟨hc, h⟩ := ifSome h
      cases h; cases vx.int; cases vy.int
      rcases hc with hc | hc | hc
      · rw [Bool.and_eq_true] at hc
        exact .inl (.inl ⟨i, j, rfl, rfl, .inl ⟨of_decide_eq_true hc.1, of_decide_eq_true hc.2⟩, g.here s (.int _)⟩)
      · rw [Bool.and_eq_true] at hc
        exact .inl (.inl ⟨i, j, rfl, rfl, .inr ⟨of_decide_eq_true hc.1, of_decide_eq_true hc.2⟩, g.here s (.int _)⟩)
      · exact .inl (.inr ⟨i, j, rfl, rfl, hc, g.here s (.int _)⟩)
    | _ => cases h
  | str a => cases fy with
    | int n =>
      obtain ⟨hc, h⟩ := ifSome h
      cases h; cases vx.str; cases vy.int
      exact .inr (.inl ⟨a, n, rfl, rfl, of_decide_eq_true hc.1, of_decide_eq_true hc.2.1, hc.2.2, g.here s (.str _)⟩)
    | _ => cases h
  | lst xs => cases fy with
    | int n =>
      obtain ⟨hc, h⟩ := ifSome h
      cases h; cases vy.int
      obtain ⟨a, vs, rfl, e1, r1⟩ := vx.lst' s
      have b1 : -1000000 ≤ n := of_decide_eq_true hc.1
      have b2 : n ≤ 1000000 := of_decide_eq_true hc.2.1
      refine .inr (.inr ⟨a, n, vs, rfl, rfl, e1, by omega, by omega, by rw [r1.length]; exact small_line hc.2.2, fun p hp => g.new s hp ?_⟩)
      have gr := Grow.laid (o := .lst (List.replicate n.toNat vs).flatten) s hp
      exact .lst upd_same ((r1.rep n.toNat).mono gr.z)
    | _ => cases h
  | _ => cases h
def fdivF : F → F → Option F
  | .int i, .int j => if 0 < j ∧ bitsI j < 9000 then some (.int (i / j)) else none
  | _, _ => none
theorem o2_fdiv : Op2 X T (rI CDivW fun i j => .int (i / j)) fdivF := by
  intro Z H x y fx fy z Q s vx vy h g
  cases fx with
  | int i => cases fy with
    | int j => obtain ⟨hc, h⟩ := ifSome h; cases h; cases vx.int; cases vy.int; exact ⟨i, j, rfl, rfl, hc, g.here s (.int _)⟩
    | _ => cases h
  | _ => cases h
def modF : F → F → Option F
  | .int i, .int j => if 0 < j then some (.int (i % j)) else none
  | _, _ => none
theorem o2_mod : Op2 X T (rI (fun _ j => 0 < j) fun i j => .int (i % j)) modF := by
  intro Z H x y fx fy z Q s vx vy h g
  cases fx with
  | int i => cases fy with
    | int j => obtain ⟨hc, h⟩ := ifSome h; cases h; cases vx.int; cases vy.int; exact ⟨i, j, rfl, rfl, hc, g.here s (.int _)⟩
    | _ => cases h
  | _ => cases h
def powF : F → F → Option F
  | .int i, .int j => if 0 ≤ j ∧ j ≤ 1000 ∧ i.natAbs < 2 ^ 64 then some (.int (i ^ j.toNat)) else none
  | _, _ => none
theorem o2_pow : Op2 X T (rI CPow fun i j => .int (i ^ j.toNat)) powF := by
  intro Z H x y fx fy z Q s vx vy h g
  cases fx with
  | int i => cases fy with
    | int j =>
      obtain ⟨hc, h⟩ := ifSome h; cases h; cases vx.int; cases vy.int
      exact ⟨i, j, rfl, rfl, ⟨hc.1, by have := hc.2.1; omega, hc.2.2⟩, g.here s (.int _)⟩
    | _ => cases h
  | _ => cases h
def negF : F → Option F
  | .int i => some (.int (-i))
  | _ => none
theorem o1_neg : Op1 X T (rU fun i => .int (-i)) negF := by
  intro Z H x fx z Q s vx h g
  cases fx with
  | int i => cases h; cases vx.int; exact ⟨i, rfl, g.here s (.int _)⟩
  | _ => cases h
/-! ### comparisons -/
def cmpF (p : Int → Int → Bool) : F → F → Option F
  | .int i, .int j => some (.bl (p i j))
  | _, _ => none
theorem o2_cmp {p : Int → Int → Bool} : Op2 X T (rI0 fun i j => .bl (p i j)) (cmpF p) := by
  intro Z H x y fx fy z Q s vx vy h g
  cases fx with
  | int i => cases fy with
    | int j => cases h; cases vx.int; cases vy.int; exact ⟨i, j, rfl, rfl, g.here s (.bl _)⟩
    | _ => cases h
  | _ => cases h
abbrev ltF := cmpF fun i j => decide (i < j)
abbrev leF := cmpF fun i j => decide (i ≤ j)
abbrev gtF := cmpF fun i j => decide (j < i)
abbrev geF := cmpF fun i j => decide (j ≤ i)
/-! equality: scalars, and data of any depth -/
mutual
def toD : F → Option PyData
  | .non => some .none
  | .bl b => some (.bool b)
  | .int i => some (.int i)
  | .str s => some (.str (S s))
  | .lst xs => (toDs xs).map PyData.list
  | .tup xs => (toDs xs).map PyData.tuple
  | .dct _ => none
  | .dlk _ _ => none
  | .ktp _ => none
  | .obj _ _ => none
  | .scr _ => none
def toDs : List F → Option (List PyData)
  | [] => some []
  | x :: xs => (toD x).bind fun d => (toDs xs).map fun ds => d :: ds
end
theorem opt_map_some {α β : Type} {f : α → β} {o : Option α} {b : β} (h : o.map f = some b) : ∃ a, o = some a ∧ f a = b := by
  cases o with
  | none => cases h
  | some a => cases h; exact ⟨a, rfl, rfl⟩
theorem opt_bind_some {α β : Type} {f : α → Option β} {o : Option α} {b : β} (h : o.bind f = some b) : ∃ a, o = some a ∧ f a = some b := by
  cases o with
  | none => cases h
  | some a => exact ⟨a, rfl, h⟩
mutual
theorem RepF.dp {K : PySem.W.Frag} {Z H : Hp} (s : Same Z H) : ∀ {v : V} {x : F} {d : PyData}, RepF K T Z v x → toD x = some d → Dp K H v d
  | _, _, _, .non, h => by cases h; exact .non
  | _, _, _, .bl b, h => by cases h; exact .bl b
  | _, _, _, .int i, h => by cases h; exact .int i
  | _, _, _, .str z, h => by cases h; exact .str _
  | _, _, _, .tup e r, h => by
    obtain ⟨ds, e2, rfl⟩ := opt_map_some (show (toDs _).map PyData.tuple = some _ from by simpa only [toD] using h)
    exact .tup (same_sqt s e) (RepFs.dp s r e2)
  | _, _, _, .lst e r, h => by
    obtain ⟨ds, e2, rfl⟩ := opt_map_some (show (toDs _).map PyData.list = some _ from by simpa only [toD] using h)
    exact .lst (SqL.of (s _ _ e)) (RepFs.dp s r e2)
  | _, _, _, .dct _ _, h => by simp only [toD] at h; cases h
  | _, _, _, .dlt _ _, h => by simp only [toD] at h; cases h
  | _, _, _, .ktp _ _, h => by simp only [toD] at h; cases h
  | _, _, _, .dlu _ _, h => by simp only [toD] at h; cases h
  | _, _, _, .obj _ _ _, h => by simp only [toD] at h; cases h
  | _, _, _, .scr _, h => by simp only [toD] at h; cases h
theorem RepFs.dp {K : PySem.W.Frag} {Z H : Hp} (s : Same Z H) : ∀ {v : List V} {x : List F} {d : List PyData}, RepFs K T Z v x → toDs x = some d → DpAll K H v d
  | _, _, _, .nil, h => by cases h; exact .nil
  | _, _, _, .cons r t, h => by
    obtain ⟨d, e1, h⟩ := opt_bind_some (show (toD _).bind _ = some _ from by simpa only [toDs] using h)
    obtain ⟨ds, e2, rfl⟩ := opt_map_some h
    exact .cons (RepF.dp s r e1) (RepFs.dp s t e2)
end
theorem View.dp {K : PySem.W.Frag} {Z H : Hp} (s : Same Z H) {v : V} {x : F} {d : PyData} (h : View K T Z H v x) (e : toD x = some d) : Dp K H v d := by
  cases h with
  | f r => exact r.dp s e
  | lst e1 r =>
    obtain ⟨ds, e2, rfl⟩ := opt_map_some (show (toDs _).map PyData.list = some _ from by simpa only [toD] using e)
    exact .lst (SqL.of e1) (RepFs.dp s r e2)
  | dct _ _ => simp only [toD] at e; cases e
/-- == of data -/
def eqD (x y : F) : Option Bool := (toD x).bind fun a => (toD y).bind fun b => if (SeqAt.shaped a && SeqAt.shaped b) = true then some (PyData.eqv a b) else none
def eqB : F → F → Option Bool
  | .int i, .int j => some (decide (i = j))
  | .str a, .str b => some (decide (a = b))
  | .bl a, .bl b => some (decide (a = b))
  | x, y => eqD x y
def eqF (x y : F) : Option F := (eqB x y).map F.bl
def neF (x y : F) : Option F := (eqB x y).map fun b => F.bl (!b)
def rEqF (K : PySem.W.Frag) : R2 := fun x y H Q => rEq x y H Q ∨ rEqD K x y H Q
def rNeF (K : PySem.W.Frag) : R2 := fun x y H Q => rNe x y H Q ∨ rNeD K x y H Q
theorem or_eq (hu : X.A.units + 64 < cLine) : OpR X (compareOp .Eq) (rEqF X.K) := OpR.or op_eq (op_eqD hu)
theorem or_ne (hu : X.A.units + 64 < cLine) : OpR X (compareOp .NotEq) (rNeF X.K) := OpR.or op_ne (op_neD hu)
theorem eqB_cases {x y : F} {b : Bool} (h : eqB x y = some b) : (∃ i j, x = .int i ∧ y = .int j ∧ b = decide (i = j)) ∨ (∃ i j, x = .str i ∧ y = .str j ∧ b = decide (i = j)) ∨ (∃ i j, x = .bl i ∧ y = .bl j ∧ b = decide (i = j)) ∨ eqD x y = some b := by
  unfold eqB at h
  split at h
  · cases h; exact .inl ⟨_, _, rfl, rfl, rfl⟩
  · cases h; exact .inr (.inl ⟨_, _, rfl, rfl, rfl⟩)
  · cases h; exact .inr (.inr (.inl ⟨_, _, rfl, rfl, rfl⟩))
  · exact .inr (.inr (.inr h))
theorem eqD_some {x y : F} {b : Bool} (h : eqD x y = some b) : ∃ d e, toD x = some d ∧ toD y = some e ∧ SeqAt.shaped d = true ∧ SeqAt.shaped e = true ∧ PyData.eqv d e = b := by
  obtain ⟨d, e1, h⟩ := opt_bind_some h
  obtain ⟨e, e2, h⟩ := opt_bind_some h
  obtain ⟨hs, h⟩ := ifSome h
  rw [Bool.and_eq_true] at hs
  exact ⟨d, e, e1, e2, hs.1, hs.2, h⟩
theorem o2_eq : Op2 X T (rEqF X.K) eqF := by
  intro Z H x y fx fy z Q s vx vy h g
  obtain ⟨b, e, rfl⟩ := opt_map_some h
  rcases eqB_cases e with ⟨i, j, rfl, rfl, rfl⟩ | ⟨i, j, rfl, rfl, rfl⟩ | ⟨i, j, rfl, rfl, rfl⟩ | e
  · cases vx.int; cases vy.int
    refine .inl ⟨rfl, ?_⟩
    rw [show decide (V.int i = V.int j) = decide (i = j) from by simp]
    exact g.here s (.bl _)
  · cases vx.str; cases vy.str
    refine .inl ⟨rfl, ?_⟩
    rw [show decide (V.str (S i) = V.str (S j)) = decide (i = j) from by simp [S_inj]]
    exact g.here s (.bl _)
  · cases vx.bl; cases vy.bl
    refine .inl ⟨rfl, ?_⟩
    rw [show decide (V.bl i = V.bl j) = decide (i = j) from by simp]
    exact g.here s (.bl _)
  · obtain ⟨d, e', e1, e2, h1, h2, rfl⟩ := eqD_some e
    exact .inr ⟨d, e', vx.dp s e1, vy.dp s e2, h1, h2, g.here s (.bl _)⟩
theorem o2_ne : Op2 X T (rNeF X.K) neF := by
  intro Z H x y fx fy z Q s vx vy h g
  obtain ⟨b, e, rfl⟩ := opt_map_some h
  rcases eqB_cases e with ⟨i, j, rfl, rfl, rfl⟩ | ⟨i, j, rfl, rfl, rfl⟩ | ⟨i, j, rfl, rfl, rfl⟩ | e
  · cases vx.int; cases vy.int
    refine .inl ⟨rfl, ?_⟩
    rw [show decide (V.int i = V.int j) = decide (i = j) from by simp]
    exact g.here s (.bl _)
  · cases vx.str; cases vy.str
    refine .inl ⟨rfl, ?_⟩
    rw [show decide (V.str (S i) = V.str (S j)) = decide (i = j) from by simp [S_inj]]
    exact g.here s (.bl _)
  · cases vx.bl; cases vy.bl
    refine .inl ⟨rfl, ?_⟩
    rw [show decide (V.bl i = V.bl j) = decide (i = j) from by simp]
    exact g.here s (.bl _)
  · obtain ⟨d, e', e1, e2, h1, h2, rfl⟩ := eqD_some e
    exact .inr ⟨d, e', vx.dp s e1, vy.dp s e2, h1, h2, g.here s (.bl _)⟩
end
end VS

set_option Elab.async false
set_option linter.all false
set_option maxRecDepth 100000
set_option maxHeartbeats 4000000
set_option autoImplicit false
/-! VH: in, is, subscripts, slices, built-in functions, isinstance. -/
namespace VS
open PySem PySem.Spec PyProof.Rows L2
section
variable {X : Cx} {T : Tab}
/-! ### in -/
/-- == of flat data -/
def eqFl : F → F → Option Bool
  | .non, .non => some true
  | .bl a, .bl b => some (a == b)
  | .bl a, .int b => some ((if a then 1 else 0) == b)
  | .int a, .bl b => some (a == (if b then 1 else 0))
  | .int a, .int b => some (a == b)
  | .str a, .str b => some (a == b)
  | .non, .bl _ | .non, .int _ | .non, .str _ | .bl _, .non | .bl _, .str _ | .int _, .non | .int _, .str _ | .str _, .non | .str _, .bl _ | .str _, .int _ => some false
  | _, _ => none
def flatF : F → Bool
  | .non | .bl _ | .int _ | .str _ => true
  | _ => false
def eqFb (x y : F) : Bool := (eqFl x y).getD false
def inFl (x : F) (ys : List F) : Option Bool := if (flatF x && ys.all flatF) = true then some (ys.any fun y => eqFb y x) else none
theorem flat_rep {K : PySem.W.Frag} {Z : Hp} {v : V} {x : F} (r : RepF K T Z v x) (h : flatF x = true) : flatV v = true := by
  cases r <;> first | rfl | cases h
theorem eq_rep {K : PySem.W.Frag} {Z : Hp} {v u : V} {x y : F} (r : RepF K T Z v x) (r' : RepF K T Z u y) (h : flatF x = true) (h' : flatF y = true) : eqV v u = eqFb x y := by
  have hs : ∀ a b : List Nat, (S a == S b) = (a == b) := fun a b => by
    by_cases e : a = b
    · subst e; simp
    · rw [beq_eq_false_iff_ne.mpr e, beq_eq_false_iff_ne.mpr (fun q => e (S_inj.mp q))]
  cases r <;> cases r' <;> first | rfl | exact hs _ _ | exact absurd h Bool.false_ne_true | exact absurd h' Bool.false_ne_true
theorem all_flat {K : PySem.W.Frag} {Z : Hp} : ∀ {vs : List V} {xs : List F}, RepFs K T Z vs xs → xs.all flatF = true → vs.all flatV = true
  | _, _, .nil, _ => rfl
  | _, _, .cons r t, h => by
    rw [List.all_cons, Bool.and_eq_true] at h ⊢
    exact ⟨flat_rep r h.1, all_flat t h.2⟩
theorem any_flat {K : PySem.W.Frag} {Z : Hp} {v : V} {x : F} (r : RepF K T Z v x) (hx : flatF x = true) : ∀ {vs : List V} {xs : List F}, RepFs K T Z vs xs → xs.all flatF = true → inV v vs = xs.any fun y => eqFb y x
  | _, _, .nil, _ => rfl
  | _, _, .cons q t, h => by
    rw [List.all_cons, Bool.and_eq_true] at h
    have ih := any_flat r hx t h.2
    unfold inV at ih ⊢
    rw [List.any_cons, List.any_cons, ih, eq_rep q r h.1 hx]
def inS (z : List Nat) : F → Option Bool
  | .str [c] => some (decide (c ∈ z))
  | _ => none
def inL (x : F) (ys : List F) : Option Bool := match inFl x ys with
  | some b => some b
  | none => (toD x).bind fun d => (toDs ys).bind fun ds => if (SeqAt.shaped d && SeqAt.shaped (.list ds)) = true then some (ds.any fun z => PyData.eqv z d) else none
def inB (x : F) : F → Option Bool
  | .str z => inS z x
  | .lst ys => inL x ys
  | .tup ys => inFl x ys
  | _ => none
def inF (x y : F) : Option F := (inB x y).map F.bl
def ninF (x y : F) : Option F := (inB x y).map fun b => F.bl (!b)
def rInF (K : PySem.W.Frag) : R2 := fun x y H Q => (∃ (c : Nat) (z : Str), x = .str ⟨#[c]⟩ ∧ y = .str z ∧ Q (.bl (decide (c ∈ z.cps.toList))) H) ∨ (rIn K false x y H Q ∨ rInD K x y H Q)
def rNinF (K : PySem.W.Frag) : R2 := fun x y H Q => (∃ (c : Nat) (z : Str), x = .str ⟨#[c]⟩ ∧ y = .str z ∧ Q (.bl (!decide (c ∈ z.cps.toList))) H) ∨ (rIn K true x y H Q ∨ rNotInD K x y H Q)
theorem or_in (hu : X.A.units + 65 < cLine) : OpR X (compareOp .In) (rInF X.K) := OpR.or op_in_sign (OpR.or op_in_seq (op_inD hu))
theorem or_nin (hu : X.A.units + 65 < cLine) : OpR X (compareOp .NotIn) (rNinF X.K) := OpR.or op_notIn_sign (OpR.or op_notIn_seq (op_notInD hu))
theorem inB_cases {x y : F} {b : Bool} (h : inB x y = some b) : (∃ c z, x = .str [c] ∧ y = .str z ∧ b = decide (c ∈ z)) ∨ (∃ ys, (y = .lst ys ∨ y = .tup ys) ∧ inFl x ys = some b) ∨
    (∃ ys d ds, y = .lst ys ∧ toD x = some d ∧ toDs ys = some ds ∧ SeqAt.shaped d = true ∧ SeqAt.shaped (.list ds) = true ∧ b = ds.any fun z => PyData.eqv z d) := by
  cases y with
  | str z =>
    have h : inS z x = some b := h
    cases x with
    | str l =>
      match l, h with
      | [], h => cases h
      | [c], h => cases h; exact .inl ⟨c, z, rfl, rfl, rfl⟩
      | _ :: _ :: _, h => cases h
    | _ => cases h
  | lst ys =>
    have h : inL x ys = some b := h
    unfold inL at h
    cases q : inFl x ys with
    | some b' => rw [q] at h; cases h; exact .inr (.inl ⟨ys, .inl rfl, q⟩)
    | none =>
      simp only [q] at h
      obtain ⟨d, e1, h⟩ := opt_bind_some h
      obtain ⟨ds, e2, h⟩ := opt_bind_some h
      obtain ⟨hs, h⟩ := ifSome h
      rw [Bool.and_eq_true] at hs
      exact .inr (.inr ⟨ys, d, ds, rfl, e1, e2, hs.1, hs.2, h.symm⟩)
  | tup ys => exact .inr (.inl ⟨ys, .inr rfl, h⟩)
  | _ => cases h
theorem View.rep {K : PySem.W.Frag} {Z H : Hp} {v : V} {x : F} (h : View K T Z H v x) (hx : flatF x = true) : RepF K T Z v x := by
  cases h with
  | f r => exact r
  | lst _ _ => cases hx
  | dct _ _ => cases hx
theorem o2_in : Op2 X T (rInF X.K) inF := by
  intro Z H x y fx fy z Q s vx vy h g
  obtain ⟨b, e, rfl⟩ := opt_map_some h
  rcases inB_cases e with ⟨c, z, rfl, rfl, rfl⟩ | ⟨ys, hy, e⟩ | ⟨ys, d, ds, rfl, e1, e2, h1, h2, rfl⟩
  · cases vx.str; cases vy.str
    exact .inl ⟨c, _, rfl, rfl, by rw [S_list]; exact g.here s (.bl _)⟩
  · obtain ⟨hf, eb⟩ := ifSome e
    rw [Bool.and_eq_true] at hf
    have rx := vx.rep hf.1
    rcases hy with rfl | rfl
    · obtain ⟨a, vs, rfl, e1, r1⟩ := vy.lst' s
      refine .inr (.inl ⟨a, vs, rfl, .inl (SqL.of e1), flat_rep rx hf.1, all_flat r1 hf.2, ?_⟩)
      show Q (.bl (inV x vs)) H
      rw [any_flat rx hf.1 r1 hf.2, eb]
      exact g.here s (.bl _)
    · obtain ⟨a, vs, rfl, e1, r1⟩ := vy.tup'
      refine .inr (.inl ⟨a, vs, rfl, .inr (same_sqt s e1), flat_rep rx hf.1, all_flat r1 hf.2, ?_⟩)
      show Q (.bl (inV x vs)) H
      rw [any_flat rx hf.1 r1 hf.2, eb]
      exact g.here s (.bl _)
  · exact .inr (.inr ⟨d, ds, vx.dp s e1, vy.dp s (by simp only [toD, e2]; rfl), h1, h2, g.here s (.bl _)⟩)
theorem o2_nin : Op2 X T (rNinF X.K) ninF := by
  intro Z H x y fx fy z Q s vx vy h g
  obtain ⟨b, e, rfl⟩ := opt_map_some h
  rcases inB_cases e with ⟨c, z, rfl, rfl, rfl⟩ | ⟨ys, hy, e⟩ | ⟨ys, d, ds, rfl, e1, e2, h1, h2, rfl⟩
  · cases vx.str; cases vy.str
    exact .inl ⟨c, _, rfl, rfl, by rw [S_list]; exact g.here s (.bl _)⟩
  · obtain ⟨hf, eb⟩ := ifSome e
    rw [Bool.and_eq_true] at hf
    have rx := vx.rep hf.1
    rcases hy with rfl | rfl
    · obtain ⟨a, vs, rfl, e1, r1⟩ := vy.lst' s
      refine .inr (.inl ⟨a, vs, rfl, .inl (SqL.of e1), flat_rep rx hf.1, all_flat r1 hf.2, ?_⟩)
      show Q (.bl (!inV x vs)) H
      rw [any_flat rx hf.1 r1 hf.2, eb]
      exact g.here s (.bl _)
    · obtain ⟨a, vs, rfl, e1, r1⟩ := vy.tup'
      refine .inr (.inl ⟨a, vs, rfl, .inr (same_sqt s e1), flat_rep rx hf.1, all_flat r1 hf.2, ?_⟩)
      show Q (.bl (!inV x vs)) H
      rw [any_flat rx hf.1 r1 hf.2, eb]
      exact g.here s (.bl _)
  · exact .inr (.inr ⟨d, ds, vx.dp s e1, vy.dp s (by simp only [toD, e2]; rfl), h1, h2, g.here s (.bl _)⟩)
/-! ### is None -/
def isNF : F → F → Option F
  | .non, .non => some (.bl true)
  | .scr _, _ => none
  | _, .non => some (.bl false)
  | .bl a, .bl b => some (.bl (decide (a = b)))
  | _, _ => none
def rIsF : R2 := fun x y H Q => (y = .non ∧ Q (.bl (decide (x = .non))) H) ∨ rIsB x y H Q
theorem or_is : OpR X (compareOp .Is) rIsF := OpR.or op_isN op_isBl
theorem View.ne_non {K : PySem.W.Frag} {Z H : Hp} {v : V} {x : F} (h : View K T Z H v x) (hx : x ≠ .non) : decide (v = .non) = false := by
  refine decide_eq_false fun e => ?_
  subst e
  cases h with
  | f r => cases r; exact hx rfl
theorem o2_is : Op2 X T rIsF isNF := by
  intro Z H x y fx fy z Q s vx vy h g
  unfold isNF at h
  split at h
  · cases h; cases vx.non; cases vy.non; exact .inl ⟨rfl, g.here s (.bl _)⟩
  · cases h
  · rename_i hx1 _
    cases h; cases vy.non
    exact .inl ⟨rfl, by rw [vx.ne_non (by intro e; exact hx1 e)]; exact g.here s (.bl _)⟩
  · cases h; cases vx.bl; cases vy.bl; exact .inr ⟨_, _, rfl, rfl, g.here s (.bl _)⟩
  · cases h
end
section
variable {X : Cx} {T : Tab} {E : XK} {a b c e o i value : Expr} {es : List Expr} {ta tb tc te to ti tv : TEv} {tr : TAv} {pos pos' apos cpos p2 : Pos}
/-! ### subscripts -/
def ixC (i : Int) : Option Cell → Option W
  | some (.lstF xs) => (atI xs i).map W.f
  | some (.lstW xs) => atI xs i
  | _ => none
def ixW (st : Store) : W → W → Option W
  | .f (.lst xs), .f (.int i) => (atI xs i).map W.f
  | .f (.tup xs), .f (.int i) => (atI xs i).map W.f
  | .f (.str s), .f (.int i) => if small s.length = true then (atI s i).map fun c => W.f (.str [c]) else none
  | .loc n, .f (.int i) => ixC i st[n]?
  | _, _ => none
def eIx (ta tb : TEv) : TEv := fun env st => (ta env st).bind fun w st1 => (tb env st1).bind fun u st2 => ofW (ixW st2 w u) st2
theorem atI_get {α : Type} {xs : List α} {i : Int} {x : α} (h : atI xs i = some x) : ∃ j, ixN xs.length i = some j ∧ xs[j]? = some x := opt_bind_some h
theorem RepFs.atI {K : PySem.W.Frag} {Z : Hp} {vs : List V} {xs : List F} {i : Int} {x : F} (r : RepFs K T Z vs xs) (h : L2.atI xs i = some x) : ∃ v, L2.atI vs i = some v ∧ RepF K T Z v x := by
  obtain ⟨j, e1, e2⟩ := atI_get h
  obtain ⟨v, e3, rv⟩ := r.get e2
  exact ⟨v, by unfold L2.atI; rw [r.length, e1]; exact e3, rv⟩
theorem RepWs.atI {K : PySem.W.Frag} {Z : Hp} {ι : List Addr} {vs : List V} {xs : List W} {i : Int} {x : W} (r : RepWs K T Z ι vs xs) (h : L2.atI xs i = some x) : ∃ v, L2.atI vs i = some v ∧ RepW K T Z ι v x := by
  obtain ⟨j, e1, e2⟩ := atI_get h
  obtain ⟨v, e3, rv⟩ := r.get e2
  exact ⟨v, by unfold L2.atI; rw [r.length, e1]; exact e3, rv⟩
theorem ve_ix (ha : VE X T E a ta) (hb : VE X T E b tb) (hs : PlainIx b := by exact fun _ _ => rfl) : VE X T E (.Subscript a b pos) (eIx ta tb) := pe_weak (pe_ix ix_seq ha hb hs) fun σ H Q h => by
  obtain ⟨Z, ι, env, st, s, re, p⟩ := h
  refine ⟨Z, ι, env, st, s, re, (Post.bind p).imp fun w st1 H1 Z1 ι1 l1 s1 p1 v rv => ?_⟩
  refine ⟨Z1, ι1, env, st1, s1, re.mono l1, (Post.bind p1).imp fun u st2 H2 Z2 ι2 l2 s2 p2 y ry => ?_⟩
  cases q : ixW st2 w u with
  | none => rw [q] at p2; exact p2.elim
  | some z =>
    rw [q] at p2
    have fin : ∀ v', RepW X.K T Z2 ι2 v' z → Q v' H2 := fun v' r' => p2 H2 Z2 ι2 Le.refl s2 v' r'
    replace rv := rv.mono l2
    clear p1
    unfold ixW at q
    split at q
    · obtain ⟨x, e1, rfl⟩ := opt_map_some q
      cases ry with | f ry =>
      cases ry
      cases rv with | f rv =>
      cases rv with | lst e rs =>
      obtain ⟨v', e2, r2⟩ := rs.atI e1
      exact .inl ⟨_, _, _, v', rfl, rfl, SqL.of (s2.sub _ _ e), e2, fin _ (.f r2)⟩
    · obtain ⟨x, e1, rfl⟩ := opt_map_some q
      cases ry with | f ry =>
      cases ry
      cases rv with | f rv =>
      cases rv with | tup e rs =>
      obtain ⟨v', e2, r2⟩ := rs.atI e1
      exact .inr (.inl ⟨_, _, _, v', rfl, rfl, same_sqt s2.sub e, e2, fin _ (.f r2)⟩)
    · rename_i z0 i0
      by_cases hsm : small z0.length = true
      · rw [if_pos hsm] at q
        obtain ⟨c, e1, rfl⟩ := opt_map_some q
        cases ry with | f ry =>
        cases ry
        cases rv with | f rv =>
        cases rv
        exact .inr (.inr ⟨_, _, c, rfl, rfl, by rw [S_len]; exact small_line hsm, by rw [S_list]; exact e1, fin _ (.f (.str [c]))⟩)
      · rw [if_neg hsm] at q; cases q
    · rename_i n0 i0
      cases ry with | f ry =>
      cases ry
      cases rv with | loc e =>
      rename_i a0
      cases q2 : st2[n0]? with
      | none => rw [q2] at q; cases q
      | some cl =>
        rw [q2] at q
        have k := s2.cell n0 a0 cl e q2
        cases cl with
        | lstF xs =>
          obtain ⟨x, e1, rfl⟩ := opt_map_some q
          obtain ⟨_, vs, e3, rs⟩ := k
          obtain ⟨v', e2, r2⟩ := rs.atI e1
          exact .inl ⟨_, _, _, v', rfl, rfl, SqL.of e3, e2, fin _ (.f r2)⟩
        | lstW xs =>
          obtain ⟨_, vs, e3, rs⟩ := k
          obtain ⟨v', e2, r2⟩ := rs.atI q
          exact .inl ⟨_, _, _, v', rfl, rfl, SqL.of e3, e2, fin _ r2⟩
        | dead => cases q
        | dct _ => cases q
        | dti _ => cases q
        | ins _ _ => cases q
    · cases q
/-! ### slices -/
abbrev TOv := Env → Store → Res (Option Int)
def RdO (K : PySem.W.Frag) (T : Tab) (E : XK) (t : TOv) : TO := fun σ H Q => ∃ Z ι env st, SimS K T Z ι st H ∧ EnvR K T Z ι σ env ∧ Post K T E Z ι (t env st) fun o _ H' _ _ => Q o H'
abbrev VO (X : Cx) (T : Tab) (E : XK) (e : Option Expr) (t : TOv) : Prop := PO X e (RdO X.K T E t)
theorem po_weak {eo : Option Expr} {t t' : TO} (h : PO X eo t) (w : ∀ σ H Q, t' σ H Q → t σ H Q) : PO X eo t' := ⟨fun pins s σ H Q I q => h.run pins s σ H Q I (w σ H Q q)⟩
def oNone : TOv := fun _ st => .ok none st
def oSome (t : TEv) : TOv := fun env st => (t env st).bind fun w st1 => match w with
  | .f (.int i) => .ok (some i) st1
  | _ => .stuck
theorem vo_none : VO X T E none oNone := po_weak po_none fun σ H Q h => by
  obtain ⟨Z, ι, env, st, s, re, p⟩ := h
  exact p H Z ι Le.refl s
theorem vo_some (h : VE X T E e te) : VO X T E (some e) (oSome te) := po_weak (po_some h) fun σ H Q h => by
  obtain ⟨Z, ι, env, st, s, re, p⟩ := h
  refine ⟨Z, ι, env, st, s, re, (Post.bind p).imp fun w st1 H1 Z1 ι1 l1 s1 p1 v rv => ?_⟩
  cases rv with
  | loc _ => exact p1.elim
  | f rv => cases rv with
    | int i => exact ⟨i, rfl, p1 H1 Z1 ι1 Le.refl s1⟩
    | _ => exact p1.elim
def cutL {α : Type} (xs : List α) (lo hi : Option Int) : List α := (xs.drop (HT.sIx xs.length 0 lo)).take (HT.sIx xs.length xs.length hi - HT.sIx xs.length 0 lo)
def slF (lo hi : Option Int) : F → Option F
  | .lst xs => some (.lst (cutL xs lo hi))
  | .tup xs => some (.tup (cutL xs lo hi))
  | .str s => if small s.length = true then some (.str (cutL s lo hi)) else none
  | _ => none
def rSlF (K : PySem.W.Frag) : V → Option Int → Option Int → Hp → VK → Prop := fun x lo hi H Q => rSlL K x lo hi H Q ∨ (rSlA K x lo hi H Q ∨ rSlS x lo hi H Q)
theorem sr_sl : SlR X (rSlF X.K) := SlR.or sl_list (SlR.or sl_tupA sl_str)
theorem sl_ok {Z H : Hp} {x : V} {fx z : F} {lo hi : Option Int} {Q : VK} (s : Same Z H) (vx : View X.K T Z H x fx) (h : slF lo hi fx = some z) (g : Give X.K T Z H z Q) : rSlF X.K x lo hi H Q := by
  cases fx with
  | lst xs =>
    cases h
    obtain ⟨a, vs, rfl, e1, r1⟩ := vx.lst' s
    refine .inl ⟨a, vs, rfl, SqL.of e1, fun p hp => g.new s hp ?_⟩
    have gr := Grow.laid (o := .lst (cutV vs lo hi)) s hp
    refine .lst upd_same (RepFs.mono gr.z ?_)
    unfold cutV cutL
    rw [r1.length]
    exact (r1.drop _).take _
  | tup xs =>
    cases h
    obtain ⟨a, vs, rfl, e1, r1⟩ := vx.tup'
    refine .inr (.inl ⟨a, vs, rfl, same_sqt s e1, fun hw => ?_, fun _ p hp => g.new s hp ?_⟩)
    · have e : cutL xs lo hi = xs := by
        unfold cutL
        rw [r1.length] at hw
        rw [hw.1, hw.2]
        simp
      rw [e] at g
      exact g.here s (.tup e1 r1)
    · have gr := Grow.laid (o := .tup (cutV vs lo hi)) s hp
      refine .tup (SqT.of upd_same) (RepFs.mono gr.z ?_)
      unfold cutV cutL
      rw [r1.length]
      exact (r1.drop _).take _
  | str z =>
    obtain ⟨hs, h⟩ := ifSome h
    cases h; cases vx.str
    refine .inr (.inr ⟨_, rfl, by rw [S_len]; exact small_line hs, ?_⟩)
    have e : cutS (S z) lo hi = S (cutL z lo hi) := by
      unfold cutS cutL
      rw [S_list, S_len]
      rfl
    rw [e]
    exact g.here s (.str _)
  | _ => cases h
def eSl (ta : TEv) (tl th : TOv) : TEv := fun env st => (ta env st).bind fun w st1 => (tl env st1).bind fun lo st2 => (th env st2).bind fun hi st3 => lk1 (slF lo hi) w st3
theorem ve_sl {lo hi : Option Expr} {tl th : TOv} (ha : VE X T E a ta) (hl : VO X T E lo tl) (hh : VO X T E hi th) : VE X T E (.Subscript a (.Slice lo hi none p2) pos) (eSl ta tl th) := pe_weak (pe_slice sr_sl ha hl hh) fun σ H Q h => by
  obtain ⟨Z, ι, env, st, s, re, p⟩ := h
  refine ⟨Z, ι, env, st, s, re, (Post.bind p).imp fun w st1 H1 Z1 ι1 l1 s1 p1 v rv => ?_⟩
  refine ⟨Z1, ι1, env, st1, s1, re.mono l1, (Post.bind p1).imp fun lo st2 H2 Z2 ι2 l2 s2 p2 => ?_⟩
  refine ⟨Z2, ι2, env, st2, s2, (re.mono l1).mono l2, (Post.bind p2).imp fun hi st3 H3 Z3 ι3 l3 s3 p3 => ?_⟩
  obtain ⟨x, z, e1, e2, g⟩ := lk1_ok s3 p3
  exact sl_ok s3.sub (((rv.mono l2).mono l3).view s3 e1) e2 g
/-! ### calls of built-in functions and types on data -/
inductive Views (K : PySem.W.Frag) (T : Tab) (Z H : Hp) : List V → List F → Prop
  | nil : Views K T Z H [] []
  | cons {v : V} {x : F} {vs : List V} {xs : List F} : View K T Z H v x → Views K T Z H vs xs → Views K T Z H (v :: vs) (x :: xs)
def looks (st : Store) : List W → Option (List F)
  | [] => some []
  | w :: ws => (look st w).bind fun x => (looks st ws).map fun xs => x :: xs
theorem RepWs.views {K : PySem.W.Frag} {Z H : Hp} {ι : List Addr} {st : Store} (s : SimS K T Z ι st H) : ∀ {vs : List V} {ws : List W} {xs : List F}, RepWs K T Z ι vs ws → looks st ws = some xs → Views K T Z H vs xs
  | _, _, _, .nil, h => by cases h; exact .nil
  | _, _, _, .cons r t, h => by
    obtain ⟨x, e1, h⟩ := opt_bind_some (show (look st _).bind _ = some _ from h)
    obtain ⟨xs, e2, rfl⟩ := opt_map_some h
    exact .cons (r.view s e1) (RepWs.views s t e2)
def OpN (X : Cx) (T : Tab) (r : List V → Hp → VK → Prop) (g : List F → Option F) : Prop := ∀ Z H vs fs z Q, Same Z H → Views X.K T Z H vs fs → g fs = some z → Give X.K T Z H z Q → r vs H Q
def lkN (g : List F → Option F) (ws : List W) (st : Store) : Res W := ofOpt ((looks st ws).bind g) st
def eCB (g : List F → Option F) (t : TAv) : TEv := fun env st => (t env st).bind fun ws st1 => lkN g ws st1
theorem lkN_ok {K : PySem.W.Frag} {Z H : Hp} {ι : List Addr} {g : List F → Option F} {ws : List W} {st : Store} {Q : VK} (s : SimS K T Z ι st H) (h : Post K T E Z ι (lkN g ws st) fun w _ H' Z' ι' => ∀ v, RepW K T Z' ι' v w → Q v H') :
    ∃ xs z, looks st ws = some xs ∧ g xs = some z ∧ Give K T Z H z Q := by
  unfold lkN at h
  cases q : looks st ws with
  | none => rw [q] at h; exact h.elim
  | some x =>
    rw [q] at h
    cases q1 : g x with
    | none => simp only [Option.bind_some, q1] at h; exact h.elim
    | some z =>
      simp only [Option.bind_some, q1] at h
      exact ⟨x, z, rfl, q1, fun v H' Z' gr r => h H' Z' ι gr.le (s.grow gr) v (.f r)⟩
theorem rd_cb {r : List V → Hp → VK → Prop} {g : List F → Option F} (ho : OpN X T r g) {σ : L2.St} {H : Hp} {Q : VK} (h : RdE X.K T E (eCB g tr) σ H Q) : tCB r (RdA X.K T E tr) σ H Q := by
  obtain ⟨Z, ι, env, st, s, re, p⟩ := h
  refine ⟨Z, ι, env, st, s, re, (Post.bind p).imp fun ws st1 H1 Z1 ι1 l1 s1 p1 vs rvs => ?_⟩
  obtain ⟨xs, z, e1, e2, g⟩ := lkN_ok s1 p1
  exact ho Z1 H1 vs xs z Q s1.sub (rvs.views s1 e1) e2 g
variable {r : List V → Hp → VK → Prop} {g : List F → Option F} {x : Str} {id Ty : String} {p : Pos}
theorem ve_callB (hr : CallR X (.builtin id) r) (ho : OpN X T r g) (hg : Gl X x) (hm : X.mg x = none) (hv : bootBuiltins x = some (.builtin id)) (ha : VA X T E (e :: es) tr) (hn : x ≠ "__name__" := by decide) (hdb : (x == ("__debug__" : Str)) = false := by decide)
    (he : starEach (e :: es) X.env = (false, eval e X.env) :: starEach es X.env := by rfl) (hpl : (backTo pos (starEach es X.env)).any (·.1) = false := by rfl) : VE X T E (.Call (.Name x p) (e :: es) [] pos) (eCB g tr) :=
  pe_weak (pe_callB hr hg hm hv ha hn hdb he hpl) fun _ _ _ h => rd_cb ho h
theorem ve_callTy (hr : CallR X (.type Ty) r) (ho : OpN X T r g) (hg : Gl X x) (hm : X.mg x = none) (hv : bootBuiltins x = some (.type Ty)) (ha : VA X T E (e :: es) tr) (hn : x ≠ "__name__" := by decide) (hdb : (x == ("__debug__" : Str)) = false := by decide)
    (he : starEach (e :: es) X.env = (false, eval e X.env) :: starEach es X.env := by rfl) (hpl : (backTo pos (starEach es X.env)).any (·.1) = false := by rfl) : VE X T E (.Call (.Name x p) (e :: es) [] pos) (eCB g tr) :=
  pe_weak (pe_callTy hr hg hm hv ha hn hdb he hpl) fun _ _ _ h => rd_cb ho h
end
end VS

set_option Elab.async false
set_option linter.all false
set_option maxRecDepth 100000
set_option maxHeartbeats 4000000
set_option autoImplicit false
/-! VI: the built-in functions by name, isinstance, methods of texts and lists on data. -/
namespace VS
open PySem PySem.Spec PyProof.Rows L2
section
variable {X : Cx} {T : Tab}
/-! ### one and two arguments -/
theorem Views.one {K : PySem.W.Frag} {Z H : Hp} {vs : List V} {x : F} (h : Views K T Z H vs [x]) : ∃ v, vs = [v] ∧ View K T Z H v x := by
  cases h with | cons h t => cases t; exact ⟨_, rfl, h⟩
theorem Views.two {K : PySem.W.Frag} {Z H : Hp} {vs : List V} {x y : F} (h : Views K T Z H vs [x, y]) : ∃ v u, vs = [v, u] ∧ View K T Z H v x ∧ View K T Z H u y := by
  cases h with | cons h t => obtain ⟨u, rfl, hu⟩ := t.one; exact ⟨_, u, rfl, h, hu⟩
/-- a function of one argument -/
def g1 (g : F → Option F) : List F → Option F
  | [x] => g x
  | _ => none
def g2 (g : F → F → Option F) : List F → Option F
  | [x, y] => g x y
  | _ => none
theorem on1 {r : List V → Hp → VK → Prop} {g : F → Option F} (h : ∀ Z H x fx z Q, Same Z H → View X.K T Z H x fx → g fx = some z → Give X.K T Z H z Q → r [x] H Q) : OpN X T r (g1 g) := by
  intro Z H vs fs z Q s v e gi
  match fs, v, e with
  | [x], v, e => obtain ⟨u, rfl, hu⟩ := v.one; exact h Z H u x z Q s hu e gi
  | [], _, e => cases e
  | _ :: _ :: _, _, e => cases e
/-! ### len -/
def lenF : F → Option F
  | .str s => if small s.length = true then some (.int s.length) else none
  | .lst xs => some (.int xs.length)
  | .tup xs => some (.int xs.length)
  | .dct xs => some (.int xs.length)
  | _ => none
def rLenF (K : PySem.W.Frag) : List V → Hp → VK → Prop := fun xs H Q => (∃ x n, xs = [x] ∧ LenV K x H n ∧ Q (.int n) H) ∨ (∃ a kvs, xs = [V.ref a] ∧ H a = some (.dK kvs) ∧ Q (.int kvs.length) H)
theorem cr_len : CallR X (.builtin "len") (rLenF X.K) := CallR.or call_len call_lenD
theorem RepFk.length {K : PySem.W.Frag} {Z : Hp} : ∀ {vs : List (Key × V)} {xs : List (F × F)}, RepFk K T Z vs xs → vs.length = xs.length
  | _, _, .nil => rfl
  | _, _, .cons _ _ t => by rw [List.length_cons, List.length_cons, RepFk.length t]
theorem on_len : OpN X T (rLenF X.K) (g1 lenF) := on1 fun Z H x fx z Q s vx h g => by
  cases fx with
  | str a =>
    obtain ⟨hs, h⟩ := ifSome h
    cases h; cases vx.str
    exact .inl ⟨_, a.length, rfl, ⟨by rw [S_len]; exact small_line hs, (S_len a).symm⟩, g.here s (.int _)⟩
  | lst xs =>
    cases h
    obtain ⟨a, vs, rfl, e1, r1⟩ := vx.lst' s
    exact .inl ⟨_, xs.length, rfl, .inl ⟨vs, SqL.of e1, r1.length.symm⟩, g.here s (.int _)⟩
  | tup xs =>
    cases h
    obtain ⟨a, vs, rfl, e1, r1⟩ := vx.tup'
    exact .inl ⟨_, xs.length, rfl, .inr ⟨vs, same_sqt s e1, r1.length.symm⟩, g.here s (.int _)⟩
  | dct xs =>
    cases h
    obtain ⟨a, vs, rfl, e1, r1⟩ := vx.dct' s
    exact .inr ⟨a, vs, rfl, e1, by rw [r1.length]; exact g.here s (.int _)⟩
  | _ => cases h
/-! ### max, min -/
/-- the ints of a list -/
def intsOf : List F → Option (List Int)
  | [] => some []
  | .int i :: r => (intsOf r).map (i :: ·)
  | _ :: _ => none
theorem intsOf_eq : ∀ {xs : List F} {ns : List Int}, intsOf xs = some ns → xs = ns.map F.int
  | [], _, h => by cases h; rfl
  | .int i :: r, _, h => by
    obtain ⟨m, e, rfl⟩ := opt_map_some (show (intsOf r).map _ = some _ from h)
    rw [intsOf_eq e]
    rfl
  | .non :: _, _, h => by cases h
  | .bl _ :: _, _, h => by cases h
  | .str _ :: _, _, h => by cases h
  | .tup _ :: _, _, h => by cases h
  | .lst _ :: _, _, h => by cases h
  | .dct _ :: _, _, h => by cases h
  | .obj _ _ :: _, _, h => by cases h
  | .scr _ :: _, _, h => by cases h
def blsOf : List F → Option (List Bool)
  | [] => some []
  | .bl i :: r => (blsOf r).map (i :: ·)
  | _ :: _ => none
theorem blsOf_eq : ∀ {xs : List F} {ns : List Bool}, blsOf xs = some ns → xs = ns.map F.bl
  | [], _, h => by cases h; rfl
  | .bl i :: r, _, h => by
    obtain ⟨m, e, rfl⟩ := opt_map_some (show (blsOf r).map _ = some _ from h)
    rw [blsOf_eq e]
    rfl
  | .non :: _, _, h => by cases h
  | .int _ :: _, _, h => by cases h
  | .str _ :: _, _, h => by cases h
  | .tup _ :: _, _, h => by cases h
  | .lst _ :: _, _, h => by cases h
  | .dct _ :: _, _, h => by cases h
  | .obj _ _ :: _, _, h => by cases h
  | .scr _ :: _, _, h => by cases h
theorem blsOf_map (ns : List Bool) : blsOf (ns.map F.bl) = some ns := by
  induction ns with
  | nil => rfl
  | cons n r ih => show (blsOf (r.map F.bl)).map (n :: ·) = _; rw [ih]; rfl
def strsOf : List F → Option (List (List Nat))
  | [] => some []
  | .str i :: r => (strsOf r).map (i :: ·)
  | _ :: _ => none
theorem strsOf_eq : ∀ {xs : List F} {ns : List (List Nat)}, strsOf xs = some ns → xs = ns.map F.str
  | [], _, h => by cases h; rfl
  | .str i :: r, _, h => by
    obtain ⟨m, e, rfl⟩ := opt_map_some (show (strsOf r).map _ = some _ from h)
    rw [strsOf_eq e]
    rfl
  | .non :: _, _, h => by cases h
  | .int _ :: _, _, h => by cases h
  | .bl _ :: _, _, h => by cases h
  | .tup _ :: _, _, h => by cases h
  | .lst _ :: _, _, h => by cases h
  | .dct _ :: _, _, h => by cases h
  | .obj _ _ :: _, _, h => by cases h
  | .scr _ :: _, _, h => by cases h
theorem strsOf_map (ns : List (List Nat)) : strsOf (ns.map F.str) = some ns := by
  induction ns with
  | nil => rfl
  | cons n r ih => show (strsOf (r.map F.str)).map (n :: ·) = _; rw [ih]; rfl
theorem View.ints {K : PySem.W.Frag} {Z H : Hp} {v : V} {xs : List F} {ns : List Int} (s : Same Z H) (h : View K T Z H v (.lst xs)) (e : intsOf xs = some ns) : ∃ a, v = .ref a ∧ SqL K H a (ns.map V.int) := by
  obtain ⟨a, vs, rfl, e1, r1⟩ := h.lst' s
  have := intsOf_eq e
  subst this
  rw [r1.ints] at e1
  exact ⟨a, rfl, SqL.of e1⟩
/-! ### sum, any, all -/
theorem View.bls {K : PySem.W.Frag} {Z H : Hp} {v : V} {xs : List F} {ns : List Bool} (s : Same Z H) (h : View K T Z H v (.lst xs)) (e : blsOf xs = some ns) : ∃ a, v = .ref a ∧ SqL K H a (ns.map V.bl) := by
  obtain ⟨a, vs, rfl, e1, r1⟩ := h.lst' s
  have := blsOf_eq e
  subst this
  rw [r1.bls] at e1
  exact ⟨a, rfl, SqL.of e1⟩
def allB : F → Option F
  | .lst xs => (blsOf xs).map fun ns => .bl (ns.all id)
  | _ => none
theorem on_all : OpN X T (rAll X.K) (g1 allB) := on1 fun Z H x fx z Q s vx h g => by
  cases fx with
  | lst xs =>
    obtain ⟨ns, e, rfl⟩ := opt_map_some h
    obtain ⟨a, rfl, hq⟩ := vx.bls s e
    exact ⟨a, ns, rfl, hq, g.here s (.bl _)⟩
  | _ => cases h
/-! ### sorted of ints -/
/-! ### list(..), tuple(..), int(..), str(..), abs, bool -/
def listF : F → Option F
  | .lst xs => some (.lst xs)
  | .tup xs => some (.lst xs)
  | .scr ns => some (.lst (ns.map F.int))
  | _ => none
def rListF (K : PySem.W.Frag) : List V → Hp → VK → Prop := fun xs H Q => ∃ p ys, xs = [.ref p] ∧ (SqL K H p ys ∨ SqT K H p ys) ∧ ∀ l, H l = none → Q (.ref l) (upd H l (.lst ys))
def intF : F → Option F
  | .int i => some (.int i)
  | .bl k => some (.int (if k then 1 else 0))
  | _ => none
theorem on_int : OpN X T (fun xs H Q => (∃ i, xs = [.int i] ∧ Q (.int i) H) ∨ ∃ k, xs = [.bl k] ∧ Q (.int (if k then 1 else 0)) H) (g1 intF) := on1 fun Z H x fx z Q s vx h g => by
  cases fx with
  | int i => cases h; cases vx.int; exact .inl ⟨i, rfl, g.here s (.int _)⟩
  | bl i => cases h; cases vx.bl; exact .inr ⟨i, rfl, g.here s (.int _)⟩
  | _ => cases h
end
end VS

set_option Elab.async false
set_option linter.all false
set_option maxRecDepth 100000
set_option maxHeartbeats 4000000
set_option autoImplicit false
/-! VJ: what is walked; list comprehensions. -/
namespace VS
open PySem PySem.Spec PyProof.Rows L2
section
variable {X : Cx} {T : Tab} {E : XK} {a b c e tg : Expr} {es : List Expr} {ta tb tc te : TEv} {tr : TAv} {pos pos' p p2 : Pos}
/-! ### what is walked -/
theorem map_get {xs : List F} {i : Nat} {w : W} (h : (xs.map W.f)[i]? = some w) : ∃ x, xs[i]? = some x ∧ w = .f x := by
  rw [List.getElem?_map] at h
  obtain ⟨x, e, rfl⟩ := opt_map_some h
  exact ⟨x, e, rfl⟩
theorem map_none {xs : List F} {i : Nat} (h : (xs.map W.f)[i]? = none) : xs.length ≤ i := by
  have := List.getElem?_eq_none_iff.mp h
  simpa using this
theorem walks_list {K : PySem.W.Frag} {Z : Hp} {ι : List Addr} {a : Addr} {vs : List V} {xs : List F} (e : Z a = some (.lst vs)) (r : RepFs K T Z vs xs) : Walks K T Z ι (Itl K a) (xs.map W.f) := by
  intro i Z' ι' H' st' l s
  have e' := s.sub _ _ (l.z _ _ e)
  refine ⟨fun w h => ?_, fun h => ⟨vs, SqL.of e', by rw [r.length]; exact map_none h⟩⟩
  obtain ⟨x, hx, rfl⟩ := map_get h
  obtain ⟨v, hv, rv⟩ := r.get hx
  refine ⟨⟨vs, v, SqL.of e', hv⟩, fun y H2 hy => ?_⟩
  obtain ⟨rfl, hy⟩ := hy
  have := hy vs (SqL.of e')
  rw [hv] at this
  cases this
  exact ⟨Z', Grow.refl s.sub, .f (rv.mono l.z)⟩
theorem walks_tup {K : PySem.W.Frag} {Z : Hp} {ι : List Addr} {a : Addr} {vs : List V} {xs : List F} (e : SqT K Z a vs) (r : RepFs K T Z vs xs) : Walks K T Z ι (Itt K a) (xs.map W.f) := by
  intro i Z' ι' H' st' l s
  have e' := same_sqt s.sub (same_sqt l.z e)
  refine ⟨fun w h => ?_, fun h => ⟨vs, e', by rw [r.length]; exact map_none h⟩⟩
  obtain ⟨x, hx, rfl⟩ := map_get h
  obtain ⟨v, hv, rv⟩ := r.get hx
  refine ⟨⟨vs, v, e', hv⟩, fun y H2 hy => ?_⟩
  obtain ⟨rfl, hy⟩ := hy
  have := hy vs e'
  rw [hv] at this
  cases this
  exact ⟨Z', Grow.refl s.sub, .f (rv.mono l.z)⟩
/-- the signs of a text -/
def signs (s : List Nat) : List W := s.map fun c => W.f (.str [c])
theorem walks_str {K : PySem.W.Frag} {Z : Hp} {ι : List Addr} (s : List Nat) : Walks K T Z ι (Its (S s)) (signs s) := by
  intro i Z' ι' H' st' l sm
  have hz : (S s).cps.size = s.length := S_len s
  unfold signs
  refine ⟨fun w h => ?_, fun h => ?_⟩
  · rw [List.getElem?_map] at h
    obtain ⟨c, hc, rfl⟩ := opt_map_some h
    have hi := (List.getElem?_eq_some_iff.mp hc).1
    refine ⟨show i < (S s).cps.size by rw [hz]; exact hi, fun y H2 hy => ?_⟩
    obtain ⟨rfl, c', hc', rfl⟩ := hy
    have : s[i]? = some c' := by
      have := hc'
      rw [show (S s).cps = s.toArray from rfl] at this
      simpa using this
    rw [hc] at this
    cases this
    exact ⟨Z', Grow.refl sm.sub, .f (.str [c])⟩
  · have := List.getElem?_eq_none_iff.mp h
    show (S s).cps.size ≤ i
    rw [hz]
    simpa using this
/-- lo, lo + c, .. (n of them) -/
def rangeW (lo c : Int) (n : Nat) : List W := (List.range n).map fun i => W.f (.int (lo + (i : Nat) * c))
theorem walks_rangeC {K : PySem.W.Frag} {Z : Hp} {ι : List Addr} (lo c : Int) (n : Nat) : Walks K T Z ι (Itc lo c n) (rangeW lo c n) := by
  intro i Z' ι' H' st' l sm
  unfold rangeW
  refine ⟨fun w h => ?_, fun h => ?_⟩
  · rw [List.getElem?_map] at h
    obtain ⟨k, hk, rfl⟩ := opt_map_some h
    obtain ⟨hi, hk⟩ := List.getElem?_eq_some_iff.mp hk
    rw [List.getElem_range] at hk
    subst hk
    rw [List.length_range] at hi
    refine ⟨hi, fun y H2 hy => ?_⟩
    obtain ⟨rfl, rfl⟩ := hy
    exact ⟨Z', Grow.refl sm.sub, .f (.int _)⟩
  · have := List.getElem?_eq_none_iff.mp h
    show n ≤ i
    simpa using this
theorem walks_range {K : PySem.W.Frag} {Z : Hp} {ι : List Addr} (lo : Int) (n : Nat) : Walks K T Z ι (Itr lo n) (rangeW lo 1 n) := by
  have h := walks_rangeC (K := K) (T := T) (Z := Z) (ι := ι) lo 1 n
  intro i Z' ι' H' st' l sm
  obtain ⟨h1, h2⟩ := h i Z' ι' H' st' l sm
  refine ⟨fun w hw => ?_, h2⟩
  obtain ⟨g, y⟩ := h1 w hw
  refine ⟨g, fun x H2 hx => y x H2 ?_⟩
  obtain ⟨e1, e2⟩ := hx
  exact ⟨e1, by rw [e2, Int.mul_one]⟩
def smallI (i : Int) : Bool := decide (-(2 ^ 62) ≤ i) && decide (i < 2 ^ 62)
def rng1 (ws : List W) (st : Store) : Res (List W) := match ws with
  | [.f (.int j)] => if smallI j = true then .ok (rangeW 0 1 j.toNat) st else .stuck
  | _ => .stuck
def iRange1 (t : TAv) : TIv := fun env st => (t env st).bind rng1
theorem smallI_ok {i : Int} (h : smallI i = true) : -(2 ^ 62) ≤ i ∧ i < 2 ^ 62 := by
  unfold smallI at h
  rw [Bool.and_eq_true] at h
  exact ⟨of_decide_eq_true h.1, of_decide_eq_true h.2⟩
theorem rep_int {K : PySem.W.Frag} {Z : Hp} {ι : List Addr} {v : V} {i : Int} (h : RepW K T Z ι v (.f (.int i))) : v = .int i := by
  cases h with | f r => cases r; rfl
theorem vi_range1 (hg : Gl X "range") (hm : X.mg "range" = none) (ha : VA X T E [a] tr) (hs : starEach [a] X.env = [(false, eval a X.env)] := by rfl) : VI X T E tg (.Call (.Name "range" p) [a] [] pos) (iRange1 tr) := pi_weak (pi_range1 hg hm ha hs) fun σ H R h => by
  obtain ⟨Z, ι, env, st, s, re, p⟩ := h
  refine ⟨Z, ι, env, st, s, re, (Post.bind p).imp fun ws st1 H1 Z1 ι1 l1 s1 p1 vs rvs => ?_⟩
  unfold rng1 at p1
  split at p1
  · rename_i j
    by_cases hj : smallI j = true
    · rw [if_pos hj] at p1
      obtain ⟨b1, b2⟩ := smallI_ok hj
      cases rvs with | cons r t =>
      cases t
      cases rep_int r
      exact ⟨j, rfl, b1, b2, p1 H1 Z1 ι1 Le.refl s1 _ (walks_range 0 j.toNat)⟩
    · rw [if_neg hj] at p1; exact p1.elim
  · exact p1.elim
/-! ### targets that set some slots alone -/
def RdGw (K : PySem.W.Frag) (T : Tab) (ss : List Nat) (g : TGv) : TG := fun v σ H Q => ∃ Z ι env st w env', SimS K T Z ι st H ∧ EnvR K T Z ι σ env ∧ RepW K T Z ι v w ∧ g w env = some env' ∧ ∀ σ', EnvR K T Z ι σ' env' → (∀ vs, (∀ i ∈ ss, i ∈ vs) → wipe σ' vs = wipe σ vs) → Q σ' H
def RdGsw (K : PySem.W.Frag) (T : Tab) (ss : List Nat) (g : TGsv) : TGs := fun vs σ H Q => ∃ Z ι env st xs env', SimS K T Z ι st H ∧ EnvR K T Z ι σ env ∧ RepFs K T Z vs xs ∧ g xs env = some env' ∧ ∀ σ', EnvR K T Z ι σ' env' → (∀ vs, (∀ i ∈ ss, i ∈ vs) → wipe σ' vs = wipe σ vs) → Q σ' H
abbrev VGw (X : Cx) (T : Tab) (e : Expr) (ss : List Nat) (g : TGv) : Prop := PG X e (RdGw X.K T ss g)
abbrev VGsw (X : Cx) (T : Tab) (es : List Expr) (ss : List Nat) (g : TGsv) : Prop := PGs X es (RdGsw X.K T ss g)
theorem wipe_set {σ : L2.St} {i : Nat} {o : Option V} : ∀ {vs : List Nat}, i ∈ vs → wipe (σ.set i o) vs = wipe σ vs
  | [], h => by cases h
  | v :: vs, h => by
    show (wipe (σ.set i o) vs).set v none = (wipe σ vs).set v none
    by_cases hv : i ∈ vs
    · rw [wipe_set hv]
    · have hi : i = v := by
        rcases List.mem_cons.mp h with e | e
        · exact e
        · exact absurd e hv
      subst hi
      have gen : ∀ (ws : List Nat) (σ : L2.St), i ∉ ws → (wipe (σ.set i o) ws).set i none = (wipe σ ws).set i none := by
        intro ws
        induction ws with
        | nil => intro σ _; show (σ.set i o).set i none = σ.set i none; rw [List.set_set]
        | cons u us ih =>
          intro σ hn
          rw [List.mem_cons, not_or] at hn
          show ((wipe (σ.set i o) us).set u none).set i none = ((wipe σ us).set u none).set i none
          rw [List.set_comm _ _ (Ne.symm hn.1), ih σ hn.2, List.set_comm _ _ hn.1]
      exact gen vs σ hv
theorem vgw_name {i : Nat} {x : Str} (hN : X.N.Nodup) (hi : X.N[i]? = some x) (hx : Loc X.env.scope x) (hf : X.fn x = true ∨ X.env.scope.names.lookup x = some .local := by first | exact .inl rfl | exact .inr rfl | assumption) : VGw X T (.Name x pos) [i] (gNm i) := pg_weak (pg_name hN hi hx hf) fun v σ H Q h => by
  obtain ⟨Z, ι, env, st, w, env', s, re, rv, e, k⟩ := h
  cases e
  exact k _ (re.set rv i) fun vs hv => wipe_set (hv i (by simp))
theorem vgsw_nil : VGsw X T [] [] gsNil := pgs_weak pgs_nil fun vs σ H Q h => by
  obtain ⟨Z, ι, env, st, xs, env', s, re, rv, e, k⟩ := h
  cases rv with
  | nil => cases e; exact ⟨rfl, k _ re fun _ _ => rfl⟩
  | cons _ _ => cases e
theorem vgsw_cons {es : List Expr} {g : TGv} {gs : TGsv} {s1 s2 : List Nat} (h1 : VGw X T e s1 g) (h2 : VGsw X T es s2 gs)
    (hs : (assignEach (e :: es) X.env).map (·.2) = assign e X.env :: (assignEach es X.env).map (·.2) := by rfl) : VGsw X T (e :: es) (s1 ++ s2) (gsCons g gs) := pgs_weak (pgs_cons h1 h2 hs) fun vs σ H Q h => by
  obtain ⟨Z, ι, env, st, xs, env', s, re, rv, e, k⟩ := h
  cases rv with
  | nil => cases e
  | cons r rr =>
    rename_i v x vs xs
    obtain ⟨env1, q, e⟩ := opt_bind_some (show (g (.f x) env).bind (fun env1 => gs xs env1) = some env' from e)
    refine ⟨_, _, rfl, Z, ι, env, st, _, env1, s, re, .f r, q, fun σ' re' hw => ⟨Z, ι, env1, st, xs, env', s, re', rr, e, fun σ2 re2 hw2 => k σ2 re2 fun vs hv => ?_⟩⟩
    rw [hw2 vs fun i hi => hv i (List.mem_append_right _ hi), hw vs fun i hi => hv i (List.mem_append_left _ hi)]
theorem vgw_tup {es : List Expr} {k : Nat} {gs : TGsv} {n : Nat} {ss : List Nat} (hc : X.calm = true) (h : VGsw X T es ss gs) (hl : ∀ xs env env', gs xs env = some env' → xs.length = n)
    (hn : (assignEach es X.env).length = n := by rfl) (hst : (assignEach es X.env).findIdx? (·.1) = none := by rfl) : VGw X T (.Tuple es k pos) ss (gTp gs) := pg_weak (pg_tup hc h hn hst) fun v σ H Q h => by
  obtain ⟨Z, ι, env, st, w, env', s, re, rv, e, k⟩ := h
  cases rv with
  | loc _ => cases e
  | f r =>
    cases r with
    | tup ht rs => exact ⟨_, _, rfl, same_sqt s.sub ht, by rw [rs.length]; exact hl _ _ _ e, Z, ι, env, st, _, env', s, re, rs, e, k⟩
    | _ => cases e

/-! ### list comprehensions -/
def wipeE (env : Env) : List Nat → Env
  | [] => env
  | v :: vs => (wipeE env vs).set v none
def lcL (g : TGv) (tt : TTv) (te : TEv) (L : Nat) (env : Env) : List W → Store → Res W
  | [], st => .ok (.loc L) st
  | w :: ws, st => match g w env with
    | none => .stuck
    | some env1 => (tt env1 st).bind fun b st1 => if b = true then (te env1 st1).bind fun y st2 => (doCell cAppend L [y] st2).bind fun _ st3 => lcL g tt te L env ws st3 else lcL g tt te L env ws st1
def eLc (ti : TIv) (g : TGv) (tt : TTv) (te : TEv) (vs : List Nat) : TEv := fun env st => (ti env st).bind fun ws st1 => lcL g tt te st1.length (wipeE env vs) ws (st1 ++ [.lstF []])
theorem env_wipe {K : PySem.W.Frag} {Z : Hp} {ι : List Addr} {σ : L2.St} {env : Env} (r : EnvR K T Z ι σ env) : ∀ vs : List Nat, EnvR K T Z ι (wipe σ vs) (wipeE env vs)
  | [] => r
  | v :: vs => by
    have ih := env_wipe r vs
    refine ⟨by show ((wipe σ vs).set v none).length = ((wipeE env vs).set v none).length; simp [ih.len], fun j u h => ?_⟩
    by_cases hj : v = j
    · subst hj
      have h : ((wipeE env vs).set v none)[v]? = some (some u) := h
      by_cases hl : v < (wipeE env vs).length
      · rw [List.getElem?_set_self hl] at h; cases h
      · rw [List.getElem?_eq_none (by simp; omega)] at h; cases h
    · have h : ((wipeE env vs).set v none)[j]? = some (some u) := h
      rw [List.getElem?_set_ne hj] at h
      obtain ⟨v', e, p⟩ := ih.get j u h
      exact ⟨v', by show ((wipe σ vs).set v none)[j]? = _; rw [List.getElem?_set_ne hj]; exact e, p⟩
theorem mut_append' {K : PySem.W.Frag} {Z H : Hp} {ι : List Addr} {a : Addr} {c c' : Cell} {w y : W} {v : V} (s : Same Z H) (k : CellOk K T Z ι H a c) (r : RepW K T Z ι v y) (h : cAppend c [y] = some (w, c')) :
    Z a = none ∧ ∃ acc, H a = some (.lst acc) ∧ acc.length < sizeLine ∧ CellOk K T Z ι (upd H a (.lst (acc ++ [v]))) a c' := by
  cases c with
  | lstF xs =>
    obtain ⟨hz, us, e, ru⟩ := k
    cases r with
    | f r1 =>
      obtain ⟨hs, h⟩ := ifSome h
      cases h
      exact ⟨hz, us, e, by rw [ru.length]; exact small_app hs, hz, _, upd_same, ru.append (.cons r1 .nil)⟩
    | loc r1 =>
      obtain ⟨hs, h⟩ := ifSome h
      cases h
      exact ⟨hz, us, e, by rw [ru.length]; exact small_app hs, hz, _, upd_same, (RepWs.ofFs ru).append (.cons (.loc r1) .nil)⟩
  | lstW xs =>
    obtain ⟨hz, us, e, ru⟩ := k
    obtain ⟨hs, h⟩ := ifSome h
    cases h
    exact ⟨hz, us, e, by rw [ru.length]; exact small_app hs, hz, _, upd_same, ru.append (.cons r .nil)⟩
  | dead => cases h
  | dct _ => cases h
  | dti _ => cases h
  | ins _ _ => cases h
variable {ti : TIv} {g : TGv} {tt : TTv} {vs ss : List Nat}
theorem rd_lc {K : PySem.W.Frag} (hss : ∀ i ∈ ss, i ∈ vs) {σ : L2.St} {H : Hp} {Q : VK} (h : RdE K T E (eLc ti g tt te vs) σ H Q) : tLc (RdI K T E ti) (RdGw K T ss g) (RdT K T E tt) (RdE K T E te) vs σ H Q := by
  obtain ⟨Z, ι, env, st, s, re, p⟩ := h
  refine ⟨Z, ι, env, st, s, re, (Post.bind p).imp fun ws st1 H1 Z1 ι1 l1 s1 p1 J wk D hD => ?_⟩
  have hz := free_sub s1.sub hD
  have s2 := s1.alloc (c := Cell.lstF []) (o := .lst []) hD ⟨hz, [], upd_same, .nil⟩
  have hL : (ι1 ++ [D])[st1.length]? = some D := by rw [← s1.len]; exact last_get _ _
  refine ⟨fun i m H => ∃ Z ι st, Le Z1 (ι1 ++ [D]) Z ι ∧ SimS K T Z ι st H ∧ m = ws.length - i ∧ Post K T E Z ι (lcL g tt te st1.length (wipeE env vs) (ws.drop i) st) fun w _ H' Z' ι' => ∀ v, RepW K T Z' ι' v w → Q v H',
    ⟨ws.length, Z1, ι1 ++ [D], _, Le.refl, s2, by simp, p1.le Le.alloc⟩, fun i m H h => ?_⟩
  obtain ⟨Z2, ι2, st2, l2, s2, hm, p2⟩ := h
  have l12 : Le Z1 ι1 Z2 ι2 := Le.alloc.trans l2
  have wki := wk i Z2 ι2 H st2 l12 s2
  by_cases hlt : i < ws.length
  · have e : ws[i]? = some ws[i] := by simp [hlt]
    have ed : ws.drop i = ws[i] :: ws.drop (i + 1) := (List.drop_eq_getElem_cons hlt)
    rw [ed] at p2
    obtain ⟨go, yl⟩ := wki.1 _ e
    refine .inr ⟨go, fun H' => ∃ Z ι st, Le Z1 (ι1 ++ [D]) Z ι ∧ SimS K T Z ι st H' ∧ Post K T E Z ι (lcL g tt te st1.length (wipeE env vs) (ws.drop (i + 1)) st) fun w _ H' Z' ι' => ∀ v, RepW K T Z' ι' v w → Q v H',
      fun H' ⟨Z, ι, st, l, s, p⟩ => ⟨ws.length - (i + 1), by omega, Z, ι, st, l, s, rfl, p⟩, fun x H' y => ?_⟩
    obtain ⟨Z3, gr, rx⟩ := yl x H' y
    have p2 : Post K T E Z2 ι2 (match g ws[i] (wipeE env vs) with
      | none => Res.stuck
      | some env1 => (tt env1 st2).bind fun b st1' => if b = true then (te env1 st1').bind fun y st2 => (doCell cAppend st1.length [y] st2).bind fun _ st3 => lcL g tt te st1.length (wipeE env vs) (ws.drop (i + 1)) st3 else lcL g tt te st1.length (wipeE env vs) (ws.drop (i + 1)) st1') _ := p2
    cases q : g ws[i] (wipeE env vs) with
    | none => rw [q] at p2; exact p2.elim
    | some env3 =>
      rw [q] at p2
      have re0 := env_wipe (re.mono l1) vs
      refine ⟨Z3, ι2, wipeE env vs, st2, _, env3, s2.grow gr, (re0.mono l12).mono gr.le, rx, q, fun σ4 re4 hw => ⟨?_, ?_⟩⟩
      · rw [hw vs hss]
        have wid : ∀ (us : List Nat) (σ : L2.St), (∀ i ∈ vs, i ∈ us) → wipe (wipe σ vs) us = wipe σ us := by
          intro us σ hu
          have : ∀ ws : List Nat, (∀ i ∈ ws, i ∈ us) → wipe (wipe σ ws) us = wipe σ us := by
            intro ws
            induction ws with
            | nil => intro _; rfl
            | cons v ws ih =>
              intro h
              show wipe ((wipe σ ws).set v none) us = _
              rw [wipe_set (h v (by simp)), ih fun i hi => h i (by simp [hi])]
          exact this vs hu
        exact wid vs σ fun _ h => h
      · have p3 := p2.le (gr.le (ι := ι2))
        refine ⟨Z3, ι2, env3, st2, s2.grow gr, re4, (Post.bind p3).imp fun b st5 H5 Z5 ι5 l5 s5 p5 => ?_⟩
        have l15 : Le Z1 (ι1 ++ [D]) Z5 ι5 := (l2.trans gr.le).trans l5
        cases b with
        | false => exact ⟨Z5, ι5, st5, l15, s5, p5⟩
        | true =>
          refine ⟨Z5, ι5, env3, st5, s5, re4.mono l5, (Post.bind p5).imp fun y st6 H6 Z6 ι6 l6 s6 p6 v rv => ?_⟩
          have l16 := l15.trans l6
          have hD6 := l16.i _ _ hL
          unfold doCell at p6
          cases qc : st6[st1.length]? with
          | none => simp only [qc] at p6; exact p6.elim
          | some cl =>
            simp only [qc] at p6
            cases qa : cAppend cl [y] with
            | none => simp only [qa] at p6; exact p6.elim
            | some wc =>
              obtain ⟨w', c'⟩ := wc
              simp only [qa] at p6
              obtain ⟨hzz, acc, e1, e2, ok⟩ := mut_append' s6.sub (s6.cell _ _ _ hD6 qc) rv qa
              exact ⟨acc, e1, e2, Z6, ι6, _, l16, s6.write hD6 hzz ok, p6⟩
  · have ed : ws.drop i = [] := by simp; omega
    rw [ed] at p2
    exact .inl ⟨wki.2 (by simp; omega), p2 H Z2 ι2 Le.refl s2 _ (.loc (l2.i _ _ hL))⟩
variable {elt iter : Expr} {ifs : List Expr} {scope : Scope} {own : List (Str × Nat)} {spos py : Pos}
abbrev VTs (X : Cx) (T : Tab) (E : XK) (ifs : List Expr) (t : TTv) : Prop := PTs X ifs (RdT X.K T E t)
def tYesV : TTv := fun _ st => .ok true st
theorem pts_weak {t t' : TT} (h : PTs X ifs t) (w : ∀ σ H Q, t' σ H Q → t σ H Q) : PTs X ifs t' := ⟨fun pins s σ H Q I q => h.run pins s σ H Q I (w σ H Q q)⟩
theorem vts_nil : VTs X T E [] tYesV := pts_weak pts_nil fun σ H Q h => by
  obtain ⟨Z, ι, env, st, s, re, p⟩ := h
  exact p H Z ι Le.refl s
theorem vts_one {t : TTv} (h : VT X T E c t) : VTs X T E [c] t := pts_one h
theorem ve_lc (hc : X.calm = true) (hN : X.N.Nodup) (hi : VI X T E tg iter ti) (ok : BlkOk X.N X.env.scope scope own) (hss : ∀ i ∈ ss, i ∈ own.map (·.2))
    (hg : ∀ (s : Shared) (H : Hp) (C : Addr) (cl : List (Str × Addr)) (fp : List Addr), VGw (X.blk s H scope (compEnvC scope cl C X.env) fp) T tg ss g)
    (ht : ∀ (s : Shared) (H : Hp) (C : Addr) (cl : List (Str × Addr)) (fp : List Addr), VTs (X.blk s H scope (compEnvC scope cl C X.env) fp) T E ifs tt)
    (he : ∀ (s : Shared) (H : Hp) (C : Addr) (cl : List (Str × Addr)) (fp : List Addr), VE (X.blk s H scope (compEnvC scope cl C X.env) fp) T E elt te) (hs : ∀ x, foldedSetIterable iter X.env x = pure x := by intro _; rfl) :
    VE X T E (.ListComp elt [⟨tg, iter, ifs, 0⟩] scope pos) (eLc ti g tt te (own.map (·.2))) :=
  pe_weak (pe_lc hc hN hi ok hg ht he hs) fun _ _ _ h => rd_lc hss h
end
end VS

set_option Elab.async false
set_option linter.all false
set_option maxRecDepth 100000
set_option maxHeartbeats 4000000
set_option autoImplicit false
/-! VK: stores to items, pop(i), insert, remove; methods of texts. -/
namespace VS
open PySem PySem.Spec PyProof.Rows L2
section
variable {X : Cx} {T : Tab} {E : XK} {a b c e o i value : Expr} {es : List Expr} {ta tb tc te to ti tv : TEv} {tr : TAv} {pos pos' apos cpos p p2 : Pos}
theorem RepFs.erase {K : PySem.W.Frag} {Z : Hp} : ∀ {vs : List V} {xs : List F} (n : Nat), RepFs K T Z vs xs → RepFs K T Z (vs.eraseIdx n) (xs.eraseIdx n)
  | _, _, _, .nil => .nil
  | _, _, 0, .cons _ t => t
  | _, _, n + 1, .cons r t => .cons r (RepFs.erase n t)
theorem RepWs.erase {K : PySem.W.Frag} {Z : Hp} {ι : List Addr} : ∀ {vs : List V} {xs : List W} (n : Nat), RepWs K T Z ι vs xs → RepWs K T Z ι (vs.eraseIdx n) (xs.eraseIdx n)
  | _, _, _, .nil => .nil
  | _, _, 0, .cons _ t => t
  | _, _, n + 1, .cons r t => .cons r (RepWs.erase n t)
/-- xs.pop(i) -/
def cPopAt : CellOp := fun c ws => match c, ws with
  | .lstF xs, [.f (.int i)] => if smallI i = true then (seqIndex? i xs.length).bind fun k => (xs[k]?).map fun x => (.f x, .lstF (xs.eraseIdx k)) else none
  | .lstW xs, [.f (.int i)] => if smallI i = true then (seqIndex? i xs.length).bind fun k => (xs[k]?).map fun x => (x, .lstW (xs.eraseIdx k)) else none
  | _, _ => none
theorem ifElse {α : Type} {p : Prop} [Decidable p] {a : Option α} {b : α} (h : (if p then a else none) = some b) : p ∧ a = some b := by
  by_cases hp : p
  · rw [if_pos hp] at h; exact ⟨hp, h⟩
  · rw [if_neg hp] at h; cases h
theorem mut_popAt : MutOk X T rPopAt cPopAt := by
  intro Z H ι a c c' ws w vs Q s k r h q
  cases c with
  | lstF xs =>
    obtain ⟨hz, us, e, ru⟩ := k
    cases r with
    | nil => cases h
    | cons r1 r2 =>
      cases r1 with
      | loc _ => cases h
      | f r1 =>
        cases r1 with
        | int i =>
          cases r2 with
          | cons _ _ => cases h
          | nil =>
            obtain ⟨hi, h⟩ := ifElse h
            obtain ⟨b1, b2⟩ := smallI_ok hi
            obtain ⟨k, ek, h⟩ := opt_bind_some h
            obtain ⟨x, ex, h⟩ := opt_map_some h
            cases h
            obtain ⟨v, ev, rv⟩ := ru.get ex
            exact ⟨a, us, i, k, v, rfl, rfl, e, by omega, by omega, by rw [ru.length]; exact ek, ev, q _ _ (.f rv) ⟨hz, _, upd_same, ru.erase k⟩ hz ⟨fun _ => nofun, fun _ => nofun⟩⟩
        | _ => cases h
  | lstW xs =>
    obtain ⟨hz, us, e, ru⟩ := k
    cases r with
    | nil => cases h
    | cons r1 r2 =>
      cases r1 with
      | loc _ => cases h
      | f r1 =>
        cases r1 with
        | int i =>
          cases r2 with
          | cons _ _ => cases h
          | nil =>
            obtain ⟨hi, h⟩ := ifElse h
            obtain ⟨b1, b2⟩ := smallI_ok hi
            obtain ⟨k, ek, h⟩ := opt_bind_some h
            obtain ⟨x, ex, h⟩ := opt_map_some h
            cases h
            obtain ⟨v, ev, rv⟩ := ru.get ex
            exact ⟨a, us, i, k, v, rfl, rfl, e, by omega, by omega, by rw [ru.length]; exact ek, ev, q _ _ rv ⟨hz, _, upd_same, ru.erase k⟩ hz ⟨fun _ => nofun, fun _ => nofun⟩⟩
        | _ => cases h
  | dead => cases h
  | dct _ => cases h
  | dti _ => cases h
  | ins _ _ => cases h
theorem ve_popAt (ho : VE X T E o to) (he : VE X T E e te) (hbase : attributeBase o "pop" X.env (eval o X.env) = eval o X.env := by rfl)
    (hline : (apos.endLine == cpos.line) = true := by rfl) (hs : starEach [e] X.env = [(false, eval e X.env)] := by rfl) :
    VE X T E (.Call (.Attribute o "pop" apos) [e] [] cpos) (eMut false cPopAt to (aCons te aNil)) :=
  ve_mutL PySem.F.slot_list_pop PySem.F.type_list_pop mt_popAt mut_popAt ho (va_cons he va_nil hs) hbase (by rw [hs]; rfl) hline hs rfl
/-! ### o[i] = v -/
def setC (i : Int) (w : W) : Cell → Option Cell
  | .lstF xs => (ixN xs.length i).map fun j => match w with
    | .f x => .lstF (xs.set j x)
    | .loc n => .lstW ((xs.map W.f).set j (.loc n))
  | .lstW xs => (ixN xs.length i).map fun j => .lstW (xs.set j w)
  | _ => none
def setI (w : W) (st : Store) : W → W → Option Store
  | .loc n, .f (.int i) => (st[n]?).bind fun c => (setC i w c).map fun c' => st.set n c'
  | _, _ => none
def sSub (to ti tv : TEv) : TSv := fun env st => (tv env st).thenS fun w st1 => (to env st1).thenS fun o st2 => (ti env st2).thenS fun i st3 => match setI w st3 o i with
  | some st4 => .nx env st4
  | none => .stuck
theorem setI_ok {K : PySem.W.Frag} {Z H : Hp} {ι : List Addr} {st st' : Store} {w o i : W} {x y v : V} (s : SimS K T Z ι st H) (ro : RepW K T Z ι x o) (ri : RepW K T Z ι y i) (rw' : RepW K T Z ι v w) (h : setI w st o i = some st') :
    ∃ p xs k j, x = .ref p ∧ y = .int k ∧ H p = some (.lst xs) ∧ ixN xs.length k = some j ∧ SimS K T Z ι st' (upd H p (.lst (xs.set j v))) := by
  cases ro with
  | f _ => cases i <;> cases h
  | loc e =>
    rename_i a n
    cases ri with
    | loc _ => cases h
    | f ri =>
      cases ri with
      | int k =>
        obtain ⟨c, ec, h⟩ := opt_bind_some (show (st[n]?).bind (fun c => (setC k w c).map fun c' => st.set n c') = some st' from h)
        obtain ⟨c', ec', rfl⟩ := opt_map_some h
        have kk := s.cell n a c e ec
        cases c with
        | lstF xs =>
          obtain ⟨hz, us, e1, ru⟩ := kk
          obtain ⟨j, ej, rfl⟩ := opt_map_some ec'
          refine ⟨a, us, k, j, rfl, rfl, e1, by rw [ru.length]; exact ej, s.write e hz ?_⟩
          cases rw' with
          | f r => exact ⟨hz, _, upd_same, ru.set r j⟩
          | loc r => exact ⟨hz, _, upd_same, RepWs.set (.loc r) j (RepWs.ofFs ru)⟩
        | lstW xs =>
          obtain ⟨hz, us, e1, ru⟩ := kk
          obtain ⟨j, ej, rfl⟩ := opt_map_some ec'
          exact ⟨a, us, k, j, rfl, rfl, e1, by rw [ru.length]; exact ej, s.write e hz ⟨hz, _, upd_same, ru.set rw' j⟩⟩
        | dead => cases ec'
        | dct _ => cases ec'
        | dti _ => cases ec'
        | ins _ _ => cases ec'
      | _ => cases h
theorem vs_sub (ho : VE X T E o to) (hi : VE X T E i ti) (hv : VE X T E value tv)
    (ha : ∀ v, assign (.Subscript o i pos') X.env v = (do
      let ov ← holding [v] (eval o X.env)
      let iv ← holding [v, ov] (eval i X.env)
      standAt pos'
      holding [v, ov, iv] (setItem ov iv v)
      release [v, ov, iv] []) := by intro _; rfl)
    (hs : swapsWithSole [.Subscript o i pos'] value pos.line X.env = pure false := by rfl) (hw : swappedStores [.Subscript o i pos'] value X.env = pure none := by rfl)
    (h1 : (assignEach [.Subscript o i pos'] X.env).map (·.2) = [assign (.Subscript o i pos') X.env] := by rfl) : VS X T E (.Assign [.Subscript o i pos'] value pos) (sSub to ti tv) :=
  ps_weak (ps_asg hv (pg_sub ho hi set_list ha) hs hw h1) fun D σ H h => by
    obtain ⟨Z, ι, env, st, s, re, p⟩ := h
    refine ⟨Z, ι, env, st, s, re, (PostS.thenS p).imp fun w st1 H1 Z1 ι1 l1 s1 p1 v rv => ?_⟩
    refine ⟨Z1, ι1, env, st1, s1, re.mono l1, (PostS.thenS p1).imp fun o st2 H2 Z2 ι2 l2 s2 p2 x rx => ?_⟩
    refine ⟨Z2, ι2, env, st2, s2, (re.mono l1).mono l2, (PostS.thenS p2).imp fun i st3 H3 Z3 ι3 l3 s3 p3 y ry => ?_⟩
    cases q : setI w st3 o i with
    | none => simp only [q] at p3; exact p3.elim
    | some st4 =>
      simp only [q] at p3
      obtain ⟨pa, xs, k, j, e1, e2, e3, e4, s4⟩ := setI_ok s3 (rx.mono l3) ry ((rv.mono l2).mono l3) q
      exact ⟨pa, xs, k, j, e1, e2, e3, e4, p3 σ _ Z3 ι3 Le.refl s4 (((re.mono l1).mono l2).mono l3)⟩
/-! ### methods on data -/
def OpM (X : Cx) (T : Tab) (Ty : String) (r : V → List V → Hp → VK → Prop) (g : F → List F → Option F) : Prop := ∀ Z H x vs fx fs z Q, Same Z H → View X.K T Z H x fx → Views X.K T Z H vs fs → g fx fs = some z → Give X.K T Z H z Q → r x vs H Q
/-- of which built-in type -/
def tyF : F → String
  | .str _ => "str"
  | .int _ => "int"
  | .lst _ => "list"
  | .dct _ => "dict"
  | _ => ""
theorem View.ty {K : PySem.W.Frag} {Z H : Hp} {v : V} {x : F} {Ty : String} (s : Same Z H) (h : View K T Z H v x) (e : tyF x = Ty) (hne : Ty ≠ "") : tyV K Ty v H := by
  subst e
  cases x with
  | str z => cases h.str; rfl
  | int z => cases h.int; rfl
  | lst xs => obtain ⟨a, vs, rfl, e1, r1⟩ := h.lst' s; exact .inl ⟨rfl, vs, SqL.of e1⟩
  | dct xs => obtain ⟨a, vs, rfl, e1, r1⟩ := h.dct' s; exact .inr (.inr (.inl ⟨rfl, .inl ⟨vs, e1⟩⟩))
  | _ => exact absurd rfl hne
def eBM (Ty : String) (g : F → List F → Option F) (to : TEv) (t : TAv) : TEv := fun env st => (to env st).bind fun w st1 => match look st1 w with
  | some x => if tyF x = Ty then (t env st1).bind fun ws st2 => match look st2 w with
    | some x => lkN (g x) ws st2
    | none => .stuck
    else .stuck
  | none => .stuck
theorem rd_bm {Ty : String} {r : V → List V → Hp → VK → Prop} {g : F → List F → Option F} (hne : Ty ≠ "") (hm : OpM X T Ty r g) {σ : L2.St} {H : Hp} {Q : VK} (h : RdE X.K T E (eBM Ty g to tr) σ H Q) : tBM X.K Ty r (RdE X.K T E to) (RdA X.K T E tr) σ H Q := by
  obtain ⟨Z, ι, env, st, s, re, p⟩ := h
  refine ⟨Z, ι, env, st, s, re, (Post.bind p).imp fun w st1 H1 Z1 ι1 l1 s1 p1 v rv => ?_⟩
  cases q : look st1 w with
  | none => simp only [q] at p1; exact p1.elim
  | some x =>
    simp only [q] at p1
    by_cases hty : tyF x = Ty
    · rw [if_pos hty] at p1
      refine ⟨(rv.view s1 q).ty s1.sub hty hne, Z1, ι1, env, st1, s1, re.mono l1, (Post.bind p1).imp fun ws st2 H2 Z2 ι2 l2 s2 p2 vs rvs => ?_⟩
      cases q2 : look st2 w with
      | none => simp only [q2] at p2; exact p2.elim
      | some x2 =>
        simp only [q2] at p2
        obtain ⟨xs, z, e1, e2, gi⟩ := lkN_ok s2 p2
        exact hm Z2 H2 v vs x2 xs z Q s2.sub ((rv.mono l2).view s2 q2) (rvs.views s2 e1) e2 gi
    · rw [if_neg hty] at p1; exact p1.elim
variable {name : Str} {id : String}
theorem ve_bm {Ty : String} {r : V → List V → Hp → VK → Prop} {g : F → List F → Option F} (hne : Ty ≠ "") (pa : PlainAttrs Ty) (slot : Slot Ty name id) (hty : typeOf (.builtin id) = pure (.type "method_descriptor")) (hr : MtR X id r) (hm : OpM X T Ty r g) (ho : VE X T E o to) (ha : VA X T E (e :: es) tr)
    (hbase : attributeBase o name X.env (eval o X.env) = eval o X.env := by rfl)
    (hfew : ((backTo cpos (starEach (e :: es) X.env)).all (fun x => !x.1) && (backToKw cpos (keywordEach [] X.env)).all (fun x => x.1.isSome)
      && decide ((e :: es).length + ([] : List Keyword).length + (if ([] : List Keyword).isEmpty then 0 else 1) < 30)) = true := by rfl)
    (hline : (apos.endLine == cpos.line) = true := by rfl) (hs : starEach (e :: es) X.env = (false, eval e X.env) :: starEach es X.env := by rfl) (hplain : (backTo cpos (starEach es X.env)).any (·.1) = false := by rfl) :
    VE X T E (.Call (.Attribute o name apos) (e :: es) [] cpos) (eBM Ty g to tr) :=
  pe_weak (pe_bm pa slot hty hr ho ha hbase hfew hline hs hplain) fun _ _ _ h => rd_bm hne hm h
/-- sep.join(texts) -/
def joinL (sep : List Nat) : List (List Nat) → List Nat
  | [] => []
  | [x] => x
  | x :: y :: r => x ++ sep ++ joinL sep (y :: r)
def joinF : F → List F → Option F
  | .str sep, [.lst xs] => (strsOf xs).bind fun ts => if small ((ts.map List.length).sum + ts.length * sep.length) = true then some (.str (joinL sep ts)) else none
  | _, _ => none
theorem S_join (sep : List Nat) : ∀ ts : List (List Nat), Str.join (S sep) (ts.map S) = S (joinL sep ts)
  | [] => rfl
  | [x] => rfl
  | x :: y :: r => by
    show S x ++ S sep ++ Str.join (S sep) (S y :: r.map S) = S (x ++ sep ++ joinL sep (y :: r))
    rw [← S_app, ← S_app, ← S_join sep (y :: r)]
    rfl
theorem map_len (ts : List (List Nat)) : ((ts.map S).map (·.length)) = ts.map List.length := by
  rw [List.map_map]
  exact List.map_congr_left fun x _ => S_len x
theorem om_join : OpM X T "str" (fun x xs H Q => ∃ a p, ∃ ys : List Str, x = .str a ∧ xs = [.ref p] ∧ (SqL X.K H p (ys.map V.str) ∨ SqT X.K H p (ys.map V.str)) ∧ (ys.map (·.length)).sum + ys.length * a.length ≤ 16777216 ∧ Q (.str (Txt.join a ys)) H) joinF := by
  intro Z H x vs fx fs z Q s vx vv h g
  cases fx with
  | str sep =>
    match fs, vv, h with
    | [.lst xs], vv, h =>
      obtain ⟨ts, e, h⟩ := opt_bind_some (show (strsOf xs).bind _ = some z from h)
      obtain ⟨hs, h⟩ := ifSome h
      cases h; cases vx.str
      obtain ⟨v, rfl, hv⟩ := vv.one
      obtain ⟨a, us, rfl, e1, r1⟩ := hv.lst' s
      have := strsOf_eq e
      subst this
      rw [r1.strs'] at e1
      have hb : (ts.map List.length).sum + ts.length * sep.length ≤ 1000000 := of_decide_eq_true hs
      refine ⟨S sep, a, ts.map S, rfl, rfl, .inl (SqL.of e1), ?_, ?_⟩
      · rw [map_len, List.length_map, S_len]; omega
      · have : Txt.join (S sep) (ts.map S) = S (joinL sep ts) := by
          show Builtin.Str.glued _ _ = _
          rw [StrLaws.glued_eq_join, S_join]
        rw [this]
        exact g.here s (.str _)
    | [], _, h => cases h
    | .non :: _, _, h => cases h
    | .bl _ :: _, _, h => cases h
    | .int _ :: _, _, h => cases h
    | .str _ :: _, _, h => cases h
    | .tup _ :: _, _, h => cases h
    | .dct _ :: _, _, h => cases h
    | .obj _ _ :: _, _, h => cases h
    | .scr _ :: _, _, h => cases h
    | .lst _ :: _ :: _, _, h => cases h
  | _ => cases h
theorem ve_join (ho : VE X T E o to) (he : VE X T E e te) (hbase : attributeBase o "join" X.env (eval o X.env) = eval o X.env := by rfl)
    (hline : (apos.endLine == cpos.line) = true := by rfl) (hs : starEach [e] X.env = [(false, eval e X.env)] := by rfl) :
    VE X T E (.Call (.Attribute o "join" apos) [e] [] cpos) (eBM "str" joinF to (aCons te aNil)) :=
  ve_bm (by decide) PySem.F.plainAttrs_str PySem.F.slot_str_join PySem.F.type_str_join mt_join om_join ho (va_cons he va_nil hs) hbase (by rw [hs]; rfl) hline hs rfl
end
end VS

set_option Elab.async false
set_option linter.all false
set_option maxRecDepth 100000
set_option maxHeartbeats 4000000
set_option autoImplicit false
/-! VL: a walk over a list, a tuple or a text; objects made as data; a cell becomes data where it stands; several targets. -/
namespace VS
open PySem PySem.Spec PyProof.Rows L2
section
variable {X : Cx} {T : Tab} {E : XK} {a b c e o i value tg : Expr} {es : List Expr} {ta tb tc te to ti tv : TEv} {tr : TAv} {pos pos' apos cpos p p2 : Pos}
/-! ### any sequence -/
def iAnyR (K : PySem.W.Frag) (tl : TE) : TI := fun σ H R => tl σ H fun x H1 => (∃ a, x = .ref a ∧ (∃ xs, SqL K H1 a xs) ∧ R (Itl K a) H1) ∨ (∃ a, x = .ref a ∧ (∃ xs, SqT K H1 a xs) ∧ R (Itt K a) H1) ∨ ∃ z, x = .str z ∧ R (Its z) H1
theorem pi_any {l : Expr} {tl : TE} (hl : PE X l tl) : PI X tg l (iAnyR X.K tl) := by
  refine ⟨fun pins s σ H R I h => ?_⟩
  refine thn (hl.run pins s σ H _ I h) fun v s1 ⟨x, H1, I1, r1, q1⟩ => ?_
  rcases q1 with ⟨a, e, ⟨xs, hq⟩, q⟩ | ⟨a, e, ⟨xs, hq⟩, q⟩ | ⟨z, e, q⟩
  · subst e
    cases r1
    obtain ⟨its, rv, p, hz⟩ := I1.list hq
    refine wpAny_pyIter_list p.isList ?_
    refine ⟨s1.heap.objs.size, [s1.heap.objs.size], _, _, H1, rfl, I1.kept (t' := s1.toks) fun b o e => Heap.get?_push_of_some _ e, turn_list a _, ⟨_, Heap.get?_push_size _ rfl, rfl, rfl⟩, fun b hb => ?_, q⟩
    have e : b = s1.heap.objs.size := by simpa using hb
    subst e
    exact I1.fpOk (Nat.le_refl _) (I1.hok.fresh (Nat.le_refl _))
  · subst e
    cases r1
    obtain ⟨its, rv, p, hz⟩ := I1.tuple hq
    refine wpAny_pyIter_tuple (show s1.heap.IsTuple a its.toArray from p) ?_
    refine ⟨s1.heap.objs.size, [s1.heap.objs.size], _, _, H1, rfl, I1.kept (t' := s1.toks) fun b o e => Heap.get?_push_of_some _ e, turn_tuple a _, ⟨_, Heap.get?_push_size _ rfl, rfl, rfl⟩, fun b hb => ?_, q⟩
    have e : b = s1.heap.objs.size := by simpa using hb
    subst e
    exact I1.fpOk (Nat.le_refl _) (I1.hok.fresh (Nat.le_refl _))
  · subst e
    obtain ⟨t, rfl⟩ := r1
    cases ha : z.cps.all (· < 128)
    · exact wpAny_pyIter_wide ha (pi_one (tk := s1.toks) I1 _ (turn_str _ z t "str_iterator" (.inr rfl)) ⟨_, Heap.get?_push_size _ rfl, rfl, rfl⟩ q)
    · exact wpAny_pyIter_ascii ha (pi_one (tk := s1.toks) I1 _ (turn_str _ z t "str_ascii_iterator" (.inl rfl)) ⟨_, Heap.get?_push_size _ rfl, rfl, rfl⟩ q)
/-- the items of data -/
def itemsF : F → Option (List W)
  | .lst xs => some (xs.map W.f)
  | .tup xs => some (xs.map W.f)
  | .str s => some (signs s)
  | _ => none
def itemsW : W → Option (List W)
  | .f x => itemsF x
  | .loc _ => none
def ofL (o : Option (List W)) (st : Store) : Res (List W) := match o with
  | some w => .ok w st
  | none => .stuck
def iAny (t : TEv) : TIv := fun env st => (t env st).bind fun w st1 => ofL (itemsW w) st1
theorem vi_any (h : VE X T E e te) : VI X T E tg e (iAny te) := pi_weak (pi_any h) fun σ H R h => by
  obtain ⟨Z, ι, env, st, s, re, p⟩ := h
  refine ⟨Z, ι, env, st, s, re, (Post.bind p).imp fun w st1 H1 Z1 ι1 l1 s1 p1 v rv => ?_⟩
  cases rv with
  | loc _ => exact p1.elim
  | f rv => cases rv with
    | lst e r => exact .inl ⟨_, rfl, ⟨_, SqL.of (s1.sub _ _ e)⟩, p1 H1 Z1 ι1 Le.refl s1 _ (walks_list e r)⟩
    | tup e r => exact .inr (.inl ⟨_, rfl, ⟨_, same_sqt s1.sub e⟩, p1 H1 Z1 ι1 Le.refl s1 _ (walks_tup e r)⟩)
    | str z => exact .inr (.inr ⟨_, rfl, p1 H1 Z1 ι1 Le.refl s1 _ (walks_str z)⟩)
    | _ => exact p1.elim
/-! ### a cell becomes data where it stands -/
def frzC (w : W) (st : Store) : Res W := match w with
  | .f x => .ok (.f x) st
  | .loc n => (match st[n]? with
    | some (.lstF xs) => .ok (.f (.lst xs)) (st.set n .dead)
    | some (.dct xs) => .ok (.f (.dct xs)) (st.set n .dead)
    | _ => .stuck)
def eFrzC (t : TEv) : TEv := fun env st => (t env st).bind frzC
theorem ve_frzC (h : VE X T E e te) : VE X T E e (eFrzC te) := pe_weak h fun σ H Q h => by
  obtain ⟨Z, ι, env, st, s, re, p⟩ := h
  refine ⟨Z, ι, env, st, s, re, (Post.bind p).imp fun w st1 H1 Z1 ι1 l1 s1 p1 v rv => ?_⟩
  cases rv with
  | f rv => exact p1 H1 Z1 ι1 Le.refl s1 v (.f rv)
  | loc e =>
    rename_i a n
    have p1 : Post X.K T E Z1 ι1 (match st1[n]? with
      | some (.lstF xs) => Res.ok (W.f (.lst xs)) (st1.set n .dead)
      | some (.dct xs) => Res.ok (W.f (.dct xs)) (st1.set n .dead)
      | _ => Res.stuck) _ := p1
    cases q : st1[n]? with
    | none => simp only [q] at p1; exact p1.elim
    | some cl =>
      have k := s1.cell n a cl e q
      cases cl with
      | lstF xs =>
        simp only [q] at p1
        obtain ⟨hz, vs, e1, r1⟩ := k
        have hs : Same Z1 (upd Z1 a (.lst vs)) := same_new hz
        exact p1 H1 _ ι1 ⟨hs, fun _ _ h => h⟩ (s1.freeze e hz e1) _ (.f (.lst upd_same (r1.mono hs)))
      | dct xs =>
        simp only [q] at p1
        obtain ⟨hz, vs, e1, r1⟩ := k
        have hs : Same Z1 (upd Z1 a (.dK vs)) := same_new hz
        exact p1 H1 _ ι1 ⟨hs, fun _ _ h => h⟩ (s1.freeze e hz e1) _ (.f (.dct upd_same (r1.mono hs)))
      | dti xs => simp only [q] at p1; exact p1.elim
      | lstW xs => simp only [q] at p1; exact p1.elim
      | dead => simp only [q] at p1; exact p1.elim
      | ins c fs => simp only [q] at p1; exact p1.elim
/-! ### objects made as data -/
variable {CX : CXT} {k : Nat} {f : Addr} {m : FnM} {x : Str}
def mkF (c : Nat) (m : FnM) : FnM := fun ws st => (m (.loc st.length :: ws) (st ++ [.ins c []])).bind fun w st2 => match w with
  | .f .non => frz st.length (.loc st.length) st2
  | _ => .stuck
theorem rd_mkF {K : PySem.W.Frag} {c : Nat} (hc : (T.cls[c]?).isSome = true) {dvs : List V} {dfs : List F} (r : ∀ Z, RepFs K T Z dvs dfs) {Z H : Hp} {ι : List Addr} {st : Store} {ws : List W} {vs : List V} {Q : VK} (s : SimS K T Z ι st H) (rvs : RepWs K T Z ι vs ws)
    (p : Post K T E Z ι (mkF c (fun ws st => m (ws ++ dfs.map W.f) st) ws st) fun w _ H' Z' ι' => ∀ v, RepW K T Z' ι' v w → Q v H') {x dx : Addr} (nx : H x = none) (nd : H dx = none) (ne : dx ≠ x) :
    spM K T m (.ref x :: (vs ++ dvs)) (upd (upd H dx (.own x)) x (.ins (T.ca K c) dx [])) (fun v H2 => v = .non ∧ Q (.ref x) H2) E := by
  have g1 : Grow Z H Z (upd H dx (.own x)) := ⟨Same.refl Z, same_new nd, s.sub.trans (same_new nd), fun _ _ _ => rfl, fun _ _ e => e⟩
  have s1 := s.grow g1
  have nx1 : (upd H dx (.own x)) x = none := by rw [upd_ne (Ne.symm ne)]; exact nx
  have hz : Z x = none := free_sub s.sub nx
  have s2 := s1.alloc (c := Cell.ins c []) (o := .ins (T.ca K c) dx []) nx1 ⟨hz, dx, [], upd_same, hc, .nil⟩
  have l2 : Le Z ι Z (ι ++ [x]) := Le.alloc
  have hl : (ι ++ [x])[st.length]? = some x := by rw [List.getElem?_append_right (by rw [s.len]; omega), s.len]; simp
  refine ⟨Z, ι ++ [x], W.loc st.length :: (ws ++ dfs.map W.f), st ++ [Cell.ins c []], s2, .cons (.loc hl) ((rvs.mono l2).append (RepWs.map_f (r Z))), ?_⟩
  unfold mkF at p
  have p : Post K T E Z ι ((m (W.loc st.length :: (ws ++ dfs.map W.f)) (st ++ [Cell.ins c []])).bind fun w st2 => match w with
    | .f .non => frz st.length (.loc st.length) st2
    | _ => .stuck) fun w _ H' Z' ι' => ∀ v, RepW K T Z' ι' v w → Q v H' := p
  cases q : m (W.loc st.length :: (ws ++ dfs.map W.f)) (st ++ [Cell.ins c []]) with
  | stuck => rw [q] at p; exact p.elim
  | exc c' fs st3 => rw [q] at p; exact PX.le l2 p
  | ok w st3 =>
    rw [q] at p
    intro H3 Z3 ι3 l3 s3 v rv
    cases rv with
    | loc e => exact p.elim
    | f rv =>
      cases rv with
      | non => exact ⟨rfl, frz_ok (Z0 := Z) (ι0 := ι) s.len (l2.trans l3) s3 (.loc (l3.i _ _ hl)) p⟩
      | _ => exact p.elim
theorem ve_mkF {c : Nat} (hc : (T.cls[c]?).isSome = true) (M : Mk X.K (T.ca X.K c) f) (F : Fn X.prog X.w X.K X.mg X.base T CX k f m) (hr : Room (k + 1) X.A) (hg : Gl X x) (hm : X.mg x = some (.ref (T.ca X.K c))) (hx : Passes CX X E)
    (ha : VA X T E (e :: es) tr) (hdb : (x == ("__debug__" : Str)) = false := by decide) (he : starEach (e :: es) X.env = (false, eval e X.env) :: starEach es X.env := by rfl) (hpl : (backTo pos (starEach es X.env)).any (·.1) = false := by rfl) :
    VE X T E (.Call (.Name x p) (e :: es) [] pos) (eCall (mkF c m) tr) := by
  obtain ⟨fd, ps, ds, dvs, dfs, m0, F0, b, v, r, rfl⟩ := F.ex
  refine pe_weak (pe_make M F0 hr hg hm b v hx ha hdb he hpl) fun σ H Q h => ?_
  obtain ⟨Z, ι, env, st, s, re, p⟩ := h
  refine ⟨Z, ι, env, st, s, re, (Post.bind p).imp fun ws st1 H1 Z1 ι1 l1 s1 p1 vs rvs x dx nx nd ne => ?_⟩
  exact rd_mkF (m := m0) hc r s1 rvs p1 nx nd ne
/-! ### a, b, c = x, y, z -/
/-! ### (t1, .., tn) = (x1, .., xn): the tuple is made and taken apart; its items may be cells -/
abbrev TM := W → Env → Store → Option (Env × Store)
def RdM (K : PySem.W.Frag) (T : Tab) (g : TM) : TG := fun v σ H Q => ∃ Z ι env st w env' st', SimS K T Z ι st H ∧ EnvR K T Z ι σ env ∧ RepW K T Z ι v w ∧ g w env st = some (env', st') ∧ ∀ σ' H', SimS K T Z ι st' H' → EnvR K T Z ι σ' env' → Q σ' H'
abbrev VM (X : Cx) (T : Tab) (e : Expr) (g : TM) : Prop := PG X e (RdM X.K T g)
def msRun : List TM → List W → Env → Store → Option (Env × Store)
  | [], [], env, st => some (env, st)
  | g :: gs, w :: ws, env, st => (g w env st).bind fun r => msRun gs ws r.1 r.2
  | _, _, _, _ => none
def RdMs (K : PySem.W.Frag) (T : Tab) (gs : List TM) : TGs := fun vs σ H Q => ∃ Z ι env st ws env' st', SimS K T Z ι st H ∧ EnvR K T Z ι σ env ∧ RepWs K T Z ι vs ws ∧ msRun gs ws env st = some (env', st') ∧ ∀ σ' H', SimS K T Z ι st' H' → EnvR K T Z ι σ' env' → Q σ' H'
abbrev VMs (X : Cx) (T : Tab) (es : List Expr) (gs : List TM) : Prop := PGs X es (RdMs X.K T gs)
theorem vms_nil : VMs X T [] [] := pgs_weak pgs_nil fun vs σ H Q h => by
  obtain ⟨Z, ι, env, st, ws, env', st', s, re, rv, e, k⟩ := h
  cases rv with
  | nil => cases e; exact ⟨rfl, k _ _ s re⟩
  | cons _ _ => cases e
theorem vms_cons {es : List Expr} {g : TM} {gs : List TM} (h1 : VM X T e g) (h2 : VMs X T es gs)
    (hs : (assignEach (e :: es) X.env).map (·.2) = assign e X.env :: (assignEach es X.env).map (·.2) := by rfl) : VMs X T (e :: es) (g :: gs) := pgs_weak (pgs_cons h1 h2 hs) fun vs σ H Q h => by
  obtain ⟨Z, ι, env, st, ws, env', st', s, re, rv, e, k⟩ := h
  cases rv with
  | nil => cases e
  | cons r rr =>
    rename_i v w vs ws
    obtain ⟨⟨env1, st1⟩, q, e⟩ := opt_bind_some (show (g w env st).bind (fun r => msRun gs ws r.1 r.2) = some (env', st') from e)
    exact ⟨_, _, rfl, Z, ι, env, st, _, env1, st1, s, re, r, q, fun σ' H' s' re' => ⟨Z, ι, env1, st1, ws, env', st', s', re', rr, e, k⟩⟩
theorem ms_len : ∀ {gs : List TM} {ws : List W} {env : Env} {st : Store} {r : Env × Store}, msRun gs ws env st = some r → ws.length = gs.length
  | [], [], _, _, _, _ => rfl
  | [], _ :: _, _, _, _, h => by cases h
  | _ :: _, [], _, _, _, h => by cases h
  | g :: gs, w :: ws, env, st, r, h => by
    obtain ⟨r1, _, h⟩ := opt_bind_some (show (g w env st).bind (fun r => msRun gs ws r.1 r.2) = some r from h)
    rw [List.length_cons, List.length_cons, ms_len h]
def sUnp (gs : List TM) (t : TAv) : TSv := fun env st => (t env st).thenS fun ws st1 => if small ws.length = true then (match msRun gs ws env st1 with
  | some r => .nx r.1 r.2
  | none => .stuck) else .stuck
theorem vs_unp {ts : List Expr} {gs : List TM} {kt k2 : Nat} {pt pt2 : Pos} (hc : X.calm = true) (ha : VA X T E es tr) (hg : VMs X T ts gs)
    (hn : (assignEach ts X.env).length = gs.length := by rfl) (hst : (assignEach ts X.env).findIdx? (·.1) = none := by rfl)
    (hs : swapsWithSole [.Tuple ts kt pt] (.Tuple es k2 pt2) pos.line X.env = pure false := by rfl) (hw : swappedStores [.Tuple ts kt pt] (.Tuple es k2 pt2) X.env = pure none := by rfl)
    (h1 : (assignEach [.Tuple ts kt pt] X.env).map (·.2) = [assign (.Tuple ts kt pt) X.env] := by rfl) : VS X T E (.Assign [.Tuple ts kt pt] (.Tuple es k2 pt2) pos) (sUnp gs tr) :=
  ps_weak (ps_asg (pe_tup ha) (pg_tup hc hg hn hst) hs hw h1) fun D σ H h => by
    obtain ⟨Z, ι, env, st, s, re, p⟩ := h
    refine ⟨Z, ι, env, st, s, re, (PostS.thenS p).imp fun ws st1 H1 Z1 ι1 l1 s1 p1 vs rvs => ?_⟩
    by_cases hsm : small ws.length = true
    · rw [if_pos hsm] at p1
      refine ⟨small_line (by rw [rvs.length]; exact hsm), fun a ha => ?_⟩
      cases q : msRun gs ws env st1 with
      | none => simp only [q] at p1; exact p1.elim
      | some r =>
        simp only [q] at p1
        have g : Grow Z1 H1 Z1 (upd H1 a (.tup vs)) := ⟨Same.refl Z1, same_new ha, s1.sub.trans (same_new ha), fun _ _ _ => rfl, fun _ _ e => e⟩
        exact ⟨a, vs, rfl, SqT.of upd_same, by rw [rvs.length]; exact ms_len q, Z1, ι1, env, st1, ws, r.1, r.2, s1.grow g, re.mono l1, rvs, q, fun σ' H' s' re' => p1 σ' H' Z1 ι1 Le.refl s' re'⟩
    · rw [if_neg hsm] at p1; exact p1.elim
end
end VS

set_option Elab.async false
set_option linter.all false
set_option maxRecDepth 100000
set_option maxHeartbeats 4000000
set_option autoImplicit false
/-! VM: x op= e; list(..) as a cell; small helpers for the printed terms. -/
namespace VS
open PySem PySem.Spec PyProof.Rows L2
theorem hu64 {A : Around} {k : Nat} (hr : Room k A) : A.units + 64 < cLine := hr.units
theorem hu65 {A : Around} {k : Nat} (hr : Room k A) : A.units + 65 < cLine := by have := hr.un; omega
theorem passV {X : Cx} {E : XK} : Passes CX0 X E := fun _ _ _ _ _ _ _ h => h.elim
section
variable {X : Cx} {T : Tab} {E : XK} {a b c e o i value tg : Expr} {es : List Expr} {ta tb tc te to ti tv : TEv} {tr : TAv} {pos pos' apos cpos p p2 : Pos}
/-- list(x) as a cell -/
def lstM (ws : List W) (st : Store) : Res W := match looks st ws with
  | some [x] => (match listF x with
    | some (.lst xs) => .ok (.loc st.length) (st ++ [.lstF xs])
    | _ => .stuck)
  | _ => .stuck
def eListM (t : TAv) : TEv := fun env st => (t env st).bind lstM
theorem ve_listM (hg : Gl X "list") (hm : X.mg "list" = none) (ha : VA X T E [e] tr)
    (he : starEach [e] X.env = (false, eval e X.env) :: starEach [] X.env := by rfl) (hpl : (backTo pos (starEach [] X.env)).any (·.1) = false := by rfl) : VE X T E (.Call (.Name "list" p) [e] [] pos) (eListM tr) :=
  pe_weak (pe_callTy call_list_of hg hm PyProof.Rows.boot_list ha (by decide) (by decide) he hpl) fun σ H Q h => by
    obtain ⟨Z, ι, env, st, s, re, p⟩ := h
    refine ⟨Z, ι, env, st, s, re, (Post.bind p).imp fun ws st1 H1 Z1 ι1 l1 s1 p1 vs rvs => ?_⟩
    unfold lstM at p1
    cases q : looks st1 ws with
    | none => simp only [q] at p1; exact p1.elim
    | some xs =>
      have vv := rvs.views s1 q
      match xs, vv, q with
      | [x], vv, q =>
        simp only [q] at p1
        obtain ⟨v, rfl, hv⟩ := vv.one
        cases q2 : listF x with
        | none => simp only [q2] at p1; exact p1.elim
        | some z =>
          have fin : ∀ (a : Addr) (us : List V) (ys : List F), z = .lst ys → RepFs X.K T Z1 us ys → v = .ref a → (SqL X.K H1 a us ∨ SqT X.K H1 a us) → ∃ p ys, [v] = [.ref p] ∧ (SqL X.K H1 p ys ∨ SqT X.K H1 p ys) ∧ ∀ l, H1 l = none → Q (.ref l) (upd H1 l (.lst ys)) := by
            intro a us ys ez r ev hq
            subst ev ez
            simp only [q2] at p1
            refine ⟨a, us, rfl, hq, fun l hl => ?_⟩
            have hz := free_sub s1.sub hl
            have s2 := s1.alloc (c := Cell.lstF ys) (o := .lst us) hl ⟨hz, us, upd_same, r⟩
            exact p1 _ _ _ Le.alloc s2 _ (.loc (by rw [← s1.len]; exact last_get _ _))
          cases x with
          | lst xs =>
            obtain ⟨a, us, ev, e1, r1⟩ := hv.lst' s1.sub
            cases q2
            exact fin a us xs rfl r1 ev (.inl (SqL.of e1))
          | tup xs =>
            obtain ⟨a, us, ev, e1, r1⟩ := hv.tup'
            cases q2
            exact fin a us xs rfl r1 ev (.inr (same_sqt s1.sub e1))
          | scr ns =>
            cases hv with | f r =>
            cases r with | scr e1 =>
            cases q2
            exact fin _ _ _ rfl (RepFs.ofInts ns) rfl (.inl (s1.sub.seq e1))
          | _ => cases q2
      | [], _, q => simp only [q] at p1; exact p1.elim
      | _ :: _ :: _, _, q => simp only [q] at p1; exact p1.elim
end
end VS

set_option Elab.async false
set_option linter.all false
set_option maxRecDepth 100000
set_option maxHeartbeats 4000000
set_option autoImplicit false
/-! VN: isinstance; what the table of classes must know of it. -/
namespace VS
open PySem PySem.Spec PyProof.Rows L2

/-- the type of a value -/
inductive Ty where
  | non | bl | int | str | tup | lst | dct | own (c : Nat)
/-- a class that is asked for -/
inductive Tg where
  | bl | int | str | tup | lst | dct | own (c : Nat)
def isT : Tg → Ty → Bool
  | .bl, .bl => true
  | .int, .int => true
  | .int, .bl => true
  | .str, .str => true
  | .tup, .tup => true
  | .lst, .lst => true
  | .dct, .dct => true
  | .own c, .own d => c == d
  | _, _ => false
def kyF : F → Ty
  | .non => .non
  | .bl _ => .bl
  | .int _ => .int
  | .str _ => .str
  | .tup _ => .tup
  | .lst _ => .lst
  | .dct _ => .dct
  | .dlk _ _ => .dct
  | .ktp _ => .tup
  | .obj c _ => .own c
  | .scr _ => .lst
def tyC : Option Cell → Option Ty
  | some (.lstF _) => some .lst
  | some (.lstW _) => some .lst
  | some (.dct _) => some .dct
  | some (.dti _) => some .dct
  | some (.ins c _) => some (.own c)
  | _ => none
def tyW (st : Store) : W → Option Ty
  | .f x => some (kyF x)
  | .loc n => tyC st[n]?
def tyVal (K : PySem.W.Frag) (T : Tab) : Ty → Value
  | .non => .type "NoneType"
  | .bl => .type "bool"
  | .int => .type "int"
  | .str => .type "str"
  | .tup => .type "tuple"
  | .lst => .type "list"
  | .dct => .type "dict"
  | .own c => .ref (T.ca K c)
def tgVal (K : PySem.W.Frag) (T : Tab) : Tg → Value
  | .bl => .type "bool"
  | .int => .type "int"
  | .str => .type "str"
  | .tup => .type "tuple"
  | .lst => .type "list"
  | .dct => .type "dict"
  | .own c => .ref (T.ca K c)
def insB (K : PySem.W.Frag) (C : Addr) : Bool :=
  decide (PySem.W.findIn K (.ref C) "__class__" = some (some (.builtin "object.__class__"))) && (decide (PySem.W.specialIn K (.builtin "object.__class__") "__get__" = some (some (.builtin "getset_descriptor.__get__"))) &&
    (decide (PySem.W.takesIn K (.builtin "object.__class__") = some true) && decide (PySem.W.mroIn K C (.type "object") = some true)))
structure IsiOk (K : PySem.W.Frag) (T : Tab) : Prop where
  ins : ∀ c, (T.cls[c]?).isSome = true → insB K (T.ca K c) = true
  one : ∀ t g, (∀ c, t = .own c → (T.cls[c]?).isSome = true) → (∀ c, g = .own c → (T.cls[c]?).isSome = true) → PySem.W.kitOne K (tyVal K T t) (tgVal K T g) = some (isT g t)
section
variable {X : Cx} {T : Tab} {E : XK} {Z H : Hp} {ι : List Addr} {st : Store}
theorem sqt_ty {K : PySem.W.Frag} {a : Addr} {vs : List V} (h : SqT K H a vs) : TyX K H (.ref a) (.type "tuple") := by
  rcases h with (h | ⟨o, h⟩) | ⟨o, its, n, e, c, _⟩
  · exact .base (.tup h)
  · exact .fTuple h
  · exact .kTuple e c
theorem sql_ty {K : PySem.W.Frag} {a : Addr} {vs : List V} (h : SqL K H a vs) : TyX K H (.ref a) (.type "list") := by
  rcases h with (h | ⟨o, h⟩) | ⟨o, its, n, e, c, _⟩
  · exact .base (.lst h)
  · exact .base (.frz h)
  · exact .kList e c
theorem ins_ty {K : PySem.W.Frag} {c : Nat} {a dx : Addr} {fs : List (Str × V)} (hT : TabOk K T) (hI : IsiOk K T) (hc : (T.cls[c]?).isSome = true) (e : H a = some (.ins (T.ca K c) dx fs)) : TyX K H (.ref a) (.ref (T.ca K c)) := by
  have h := hI.ins c hc
  unfold insB at h
  simp only [Bool.and_eq_true, decide_eq_true_eq] at h
  exact .base (.ins e (hT.cls c hc) h.1 h.2.1 h.2.2.1 h.2.2.2)
/-- .. or a locked dict with tuples as keys -/
inductive TyY (K : PySem.W.Frag) (H : Hp) : V → Value → Prop where
  | tx {x : V} {t : Value} (h : TyX K H x t) : TyY K H x t
  | fT {a : Addr} {o : Obj} {kvs : List (List Key × V)} (e : H a = some (.frz o (.dT kvs))) : TyY K H (.ref a) (.type "dict")
theorem kit_ofY {X : Cx} {pins : List (Addr × Obj)} {σ : L2.St} {H : Hp} {s : Shared} {x : V} {u t : Value} (I : Inv X pins σ H s) (rx : RelV x u) (ty : TyY X.K H x t) : ∃ P : Heap → Prop, PySem.W.KitX X.K u t P ∧ P s.heap ∧ u ≠ .builtin "__main__.__loader__#opaque" := by
  cases ty with
  | tx h => exact kit_of I rx h
  | @fT a ob kvs ea =>
    cases (show u = Value.ref a from rx)
    obtain ⟨_, _, _, xs, _, o, es, ep, h1, h2, _⟩ := (show ObjOk X.prog X.w H s.heap a (.frz ob (.dT kvs)) from I.hok a _ ea)
    exact ⟨_, PySem.W.kitx_dict, ⟨o, h1, h2.1⟩, fun z => nomatch z⟩
def rIsiY (K : PySem.W.Frag) : List V → Hp → VK → Prop := fun xs H Q => ∃ (x c : V) (t u : Value) (b : Bool), xs = [x, c] ∧ ClsV c u ∧ TyY K H x t ∧ PySem.W.kitOne K t u = some b ∧ Q (.bl b) H
def rIsiTY (K : PySem.W.Frag) : List V → Hp → VK → Prop := fun xs H Q => ∃ (x : V) (tp : Addr) (cs : List V) (t : Value) (us : List Value) (b : Bool), xs = [x, .ref tp] ∧ H tp = some (.tup cs) ∧ Paired ClsV cs us ∧ TyY K H x t ∧ PySem.W.kitAny K t us = some b ∧ Q (.bl b) H
theorem call_isiY {X : Cx} : CallR X (.builtin "isinstance") (rIsiY X.K) := by
  intro pins s σ H xs us Q I r h
  obtain ⟨x, c, t, u, b, rfl, k, ty, e, q⟩ := h
  obtain ⟨u1, u2, rfl, r1, r2⟩ := vals2 r
  have e2 := k.eq r2
  subst e2
  obtain ⟨P, Z, p, hx⟩ := kit_ofY I r1 ty
  exact PySem.W.kia_one Z I.kIn p e hx fun tk => ⟨.bl b, H, I.tok tk, rfl, q⟩
theorem call_isiTY {X : Cx} : CallR X (.builtin "isinstance") (rIsiTY X.K) := by
  intro pins s σ H xs us Q I r h
  obtain ⟨x, tp, cs, t, ws, b, rfl, hT, k, ty, e, q⟩ := h
  obtain ⟨u1, u2, rfl, r1, r2⟩ := vals2 r
  cases (show u2 = Value.ref tp from r2)
  obtain ⟨P, Z, p, hx⟩ := kit_ofY I r1 ty
  obtain ⟨_, its, rv, o, h1, h2, n, h3⟩ := (show ObjOk X.prog X.w H s.heap tp (.tup cs) from I.hok tp _ hT)
  have e3 := ClsV.all k rv
  subst e3
  obtain ⟨oc, od, dt, sl⟩ := o
  simp only at h2 h3
  subst h2 h3
  exact PySem.W.kia_tup Z I.kIn p h1 e hx fun tk => ⟨.bl b, H, I.tok tk, rfl, q⟩
theorem ty_ok {K : PySem.W.Frag} (hT : TabOk K T) (hI : IsiOk K T) (s : SimS K T Z ι st H) {v : V} {w : W} (r : RepW K T Z ι v w) {t : Ty} (h : tyW st w = some t) : TyY K H v (tyVal K T t) ∧ ∀ c, t = .own c → (T.cls[c]?).isSome = true := by
  cases r with
  | f r =>
    cases h
    cases r with
    | non => exact ⟨.tx (.base .non), fun _ q => nomatch q⟩
    | bl b => exact ⟨.tx (.base (.bl b)), fun _ q => nomatch q⟩
    | int b => exact ⟨.tx (.base (.int b)), fun _ q => nomatch q⟩
    | str b => exact ⟨.tx (.base (.str _)), fun _ q => nomatch q⟩
    | tup h r => exact ⟨.tx (sqt_ty (same_sqt s.sub h)), fun _ q => nomatch q⟩
    | lst h r => exact ⟨.tx (.base (.lst (s.sub _ _ h))), fun _ q => nomatch q⟩
    | dct h r => exact ⟨.tx (.base (.dK (s.sub _ _ h))), fun _ q => nomatch q⟩
    | ktp ks h => exact ⟨.tx (.base (.tup (s.sub _ _ h))), fun _ q => nomatch q⟩
    | dlt h r => exact ⟨.fT (s.sub _ _ h), fun _ q => nomatch q⟩
    | dlu h r => exact ⟨.tx (.fDict (s.sub _ _ h)), fun _ q => nomatch q⟩
    | obj h c r => exact ⟨.tx (ins_ty hT hI c (s.sub _ _ h)), fun _ q => by cases q; exact c⟩
    | scr h => exact ⟨.tx (sql_ty (s.sub.seq h)), fun _ q => nomatch q⟩
  | loc e =>
    rename_i a n
    have h : tyC st[n]? = some t := h
    cases q : st[n]? with
    | none => rw [q] at h; cases h
    | some c =>
      rw [q] at h
      have k := s.cell n a c e q
      cases c with
      | dead => cases h
      | lstF xs => cases h; obtain ⟨_, vs, e1, _⟩ := k; exact ⟨.tx (.base (.lst e1)), fun _ q => nomatch q⟩
      | lstW xs => cases h; obtain ⟨_, vs, e1, _⟩ := k; exact ⟨.tx (.base (.lst e1)), fun _ q => nomatch q⟩
      | dct xs => cases h; obtain ⟨_, vs, e1, _⟩ := k; exact ⟨.tx (.base (.dK e1)), fun _ q => nomatch q⟩
      | dti xs => cases h; obtain ⟨_, vs, e1, _⟩ := k; exact ⟨.tx (.base (.dT e1)), fun _ q => nomatch q⟩
      | ins c fs => cases h; obtain ⟨_, dx, fvs, e1, hc, _⟩ := k; exact ⟨.tx (ins_ty hT hI hc e1), fun _ q => by cases q; exact hc⟩
theorem tyx_mono {K : PySem.W.Frag} {H H' : Hp} (m : Same H H') {v : V} {t : Value} (h : TyX K H v t) : TyX K H' v t := by
  cases h with
  | base h =>
    cases h with
    | non => exact .base .non
    | bl b => exact .base (.bl b)
    | int b => exact .base (.int b)
    | str b => exact .base (.str b)
    | flt b => exact .base (.flt b)
    | lst e => exact .base (.lst (m _ _ e))
    | frz e => exact .base (.frz (m _ _ e))
    | tup e => exact .base (.tup (m _ _ e))
    | dK e => exact .base (.dK (m _ _ e))
    | dT e => exact .base (.dT (m _ _ e))
    | ins e a b c d f => exact .base (.ins (m _ _ e) a b c d f)
  | byt b => exact .byt b
  | set e => exact .set (m _ _ e)
  | kList e c => exact .kList e c
  | kTuple e c => exact .kTuple e c
  | kDict e c => exact .kDict e c
  | fTuple e => exact .fTuple (m _ _ e)
  | fDict e => exact .fDict (m _ _ e)
/-- a class, as it is written -/
theorem tyy_mono {K : PySem.W.Frag} {H H' : Hp} (m : Same H H') {v : V} {t : Value} (h : TyY K H v t) : TyY K H' v t := by
  cases h with
  | tx h => exact .tx (tyx_mono m h)
  | fT e => exact .fT (m _ _ e)
structure TgOk (X : Cx) (T : Tab) (e : Expr) (g : Tg) : Prop where
  ex : ∃ v, PE X e (tC v) ∧ ClsV v (tgVal X.K T g)
  ok : ∀ c, g = .own c → (T.cls[c]?).isSome = true
theorem tg_ty {x : Str} {pos : Pos} {g : Tg} (hg : Gl X x) (hm : X.mg x = none) (hv : bootBuiltins x = some (tgVal ([] : PySem.W.Frag) T g)) (ho : ∀ c, g ≠ .own c := by intro c; exact fun q => nomatch q) (hn : x ≠ "__name__" := by decide) (hd : (x == ("__debug__" : Str)) = false := by decide) : TgOk X T (.Name x pos) g := by
  refine ⟨?_, fun c q => absurd q (ho c)⟩
  cases g with
  | own c => exact absurd rfl (ho c)
  | bl => exact ⟨.ty "bool", pe_bltn hg hm hv rfl hn hd, .ty _⟩
  | int => exact ⟨.ty "int", pe_bltn hg hm hv rfl hn hd, .ty _⟩
  | str => exact ⟨.ty "str", pe_bltn hg hm hv rfl hn hd, .ty _⟩
  | tup => exact ⟨.ty "tuple", pe_bltn hg hm hv rfl hn hd, .ty _⟩
  | lst => exact ⟨.ty "list", pe_bltn hg hm hv rfl hn hd, .ty _⟩
  | dct => exact ⟨.ty "dict", pe_bltn hg hm hv rfl hn hd, .ty _⟩
theorem tg_own {x : Str} {pos : Pos} {c : Nat} (hc : (T.cls[c]?).isSome = true) (hg : Gl X x) (hm : X.mg x = some (.ref (T.ca X.K c))) (hd : (x == ("__debug__" : Str)) = false := by decide) : TgOk X T (.Name x pos) (.own c) :=
  ⟨⟨.ref (T.ca X.K c), pe_glob hg hm rfl hd, .own _⟩, fun _ q => by cases q; exact hc⟩
def isiAny (gs : List Tg) (t : Ty) : Bool := gs.any fun g => isT g t
def eIsi (gs : List Tg) (te : TEv) : TEv := fun env st => (te env st).bind fun w st1 => match tyW st1 w with
  | some t => .ok (.f (.bl (isiAny gs t))) st1
  | none => .stuck
variable {e c c1 c2 c3 : Expr} {te : TEv} {p pos p2 : Pos}
theorem rd_isi {gs : List Tg} {σ : L2.St} {Q : VK} (hT : TabOk X.K T) (hI : IsiOk X.K T) (h : RdE X.K T E (eIsi gs te) σ H Q) : RdE X.K T E te σ H (fun x H1 => ∃ t, TyY X.K H1 x (tyVal X.K T t) ∧ (∀ c, t = .own c → (T.cls[c]?).isSome = true) ∧ Q (.bl (isiAny gs t)) H1 ∧ ∀ l cs, H1 l = none → Q (.bl (isiAny gs t)) (upd H1 l (.tup cs))) := by
  obtain ⟨Z, ι, env, st, s, re, p⟩ := h
  refine ⟨Z, ι, env, st, s, re, (Post.bind p).imp fun w st1 H1 Z1 ι1 l1 s1 p1 v rv => ?_⟩
  cases q : tyW st1 w with
  | none => simp only [q] at p1; exact p1.elim
  | some t =>
    simp only [q] at p1
    obtain ⟨h1, h2⟩ := ty_ok hT hI s1 rv q
    refine ⟨t, h1, h2, p1 H1 Z1 ι1 Le.refl s1 _ (.f (.bl _)), fun l cs hl => ?_⟩
    have g : Grow Z1 H1 Z1 (upd H1 l (.tup cs)) := ⟨Same.refl Z1, same_new hl, s1.sub.trans (same_new hl), fun _ _ _ => rfl, fun _ _ e => e⟩
    exact p1 _ Z1 ι1 g.le (s1.grow g) _ (.f (.bl _))
theorem ve_isi {g : Tg} (hT : TabOk X.K T) (hI : IsiOk X.K T) (hg : Gl X "isinstance") (hm : X.mg "isinstance" = none) (he : VE X T E e te) (hc : TgOk X T c g)
    (hs : starEach [e, c] X.env = (false, eval e X.env) :: starEach [c] X.env := by rfl) (hs2 : starEach [c] X.env = (false, eval c X.env) :: starEach [] X.env := by rfl) (hpl : (backTo pos (starEach [c] X.env)).any (·.1) = false := by rfl) :
    VE X T E (.Call (.Name "isinstance" p) [e, c] [] pos) (eIsi [g] te) := by
  obtain ⟨v, hv, kv⟩ := hc.ex
  refine pe_weak (pe_callB call_isiY hg hm (by decide +kernel) (pa_cons he (pa_cons hv pa_nil hs2) hs) (by decide) (by decide) hs hpl) fun σ H Q h => ?_
  obtain ⟨Z, ι, env, st, s, re, p⟩ := rd_isi hT hI h
  refine ⟨Z, ι, env, st, s, re, p.imp fun w st1 H1 Z1 ι1 l1 s1 p1 x rx => ?_⟩
  obtain ⟨t, h1, h2, h3, _⟩ := p1 x rx
  refine ⟨x, v, _, _, _, rfl, kv, h1, hI.one t g h2 hc.ok, ?_⟩
  simpa [isiAny] using h3
theorem kit_any {K : PySem.W.Frag} (hI : IsiOk K T) {t : Ty} (ht : ∀ c, t = .own c → (T.cls[c]?).isSome = true) : ∀ {gs : List Tg}, (∀ g ∈ gs, ∀ c, g = Tg.own c → (T.cls[c]?).isSome = true) → PySem.W.kitAny K (tyVal K T t) (gs.map (tgVal K T)) = some (isiAny gs t)
  | [], _ => rfl
  | g :: gs, h => by
    refine kitAny_cons (b := isT g t) (hI.one t g ht (h g (by simp))) (fun hb => ?_) (fun hb => ?_)
    · rw [kit_any hI ht (gs := gs) fun g' m => h g' (by simp [m])]
      simp [isiAny, hb]
    · simp [isiAny, hb]
inductive TgsOk (X : Cx) (T : Tab) : List Expr → List Tg → Prop
  | nil : TgsOk X T [] []
  | cons {e : Expr} {es : List Expr} {g : Tg} {gs : List Tg} : TgOk X T e g → starEach (e :: es) X.env = (false, eval e X.env) :: starEach es X.env → TgsOk X T es gs → TgsOk X T (e :: es) (g :: gs)
theorem TgsOk.all {es : List Expr} {gs : List Tg} (h : TgsOk X T es gs) : ∃ vs, Paired ClsV vs (gs.map (tgVal X.K T)) ∧ (∀ g ∈ gs, ∀ c, g = Tg.own c → (T.cls[c]?).isSome = true) ∧ PA X es (fun _ H Q => Q vs H) ∧ vs.length = gs.length := by
  induction h with
  | nil => exact ⟨[], Paired.nil, fun g m => (List.not_mem_nil m).elim, pa_weak pa_nil (fun _ _ _ h => h), rfl⟩
  | @cons e es g gs a hs _ ih =>
    obtain ⟨vs, k, o, pa, hl⟩ := ih
    obtain ⟨v, hv, kv⟩ := a.ex
    refine ⟨v :: vs, .cons kv k, fun g' m => ?_, pa_weak (pa_cons hv pa hs) fun _ _ _ h => h, by simp [hl]⟩
    rcases List.mem_cons.mp m with rfl | m
    · exact a.ok
    · exact o g' m
theorem ve_isiT {es : List Expr} {gs : List Tg} {z : _} (hT : TabOk X.K T) (hI : IsiOk X.K T) (hg : Gl X "isinstance") (hm : X.mg "isinstance" = none) (he : VE X T E e te) (hc : TgsOk X T es gs) (hn : gs.length < 100 := by decide)
    (hs : starEach [e, .Tuple es z p2] X.env = (false, eval e X.env) :: starEach [.Tuple es z p2] X.env := by rfl) (hs2 : starEach [.Tuple es z p2] X.env = (false, eval (.Tuple es z p2) X.env) :: starEach [] X.env := by rfl) (hpl : (backTo pos (starEach [.Tuple es z p2] X.env)).any (·.1) = false := by rfl) :
    VE X T E (.Call (.Name "isinstance" p) [e, .Tuple es z p2] [] pos) (eIsi gs te) := by
  obtain ⟨vs, k, o, pa, hl⟩ := hc.all
  refine pe_weak (pe_callB call_isiTY hg hm (by decide +kernel) (pa_cons he (pa_cons (pe_tup pa) pa_nil hs2) hs) (by decide) (by decide) hs hpl) fun σ H Q h => ?_
  obtain ⟨Z, ι, env, st, s, re, p⟩ := rd_isi hT hI h
  refine ⟨Z, ι, env, st, s, re, p.imp fun w st1 H1 Z1 ι1 l1 s1 p1 x rx => ?_⟩
  obtain ⟨t, h1, h2, h3, h4⟩ := p1 x rx
  refine ⟨by rw [hl]; exact Nat.le_of_lt (Nat.lt_of_lt_of_le hn (by decide)), fun l hl0 => ?_⟩
  refine ⟨x, l, vs, _, _, _, rfl, upd_same, k, ?_, kit_any hI h2 o, h4 l vs hl0⟩
  exact tyy_mono (same_new hl0) h1
end
end VS

set_option Elab.async false
set_option linter.all false
set_option maxRecDepth 100000
set_option maxHeartbeats 4000000
set_option autoImplicit false
/-! VO: operators of own classes. -/
namespace VS
open PySem PySem.Spec PyProof.Rows L2

section
variable {P : Program} {w : World} {K : PySem.W.Frag} {mg : Str → Option Value} {base : Heap} {T : Tab} {CX : CXT} {k : Nat} {f : Addr} {m : FnM}
theorem Fn.raw (F : Fn P w K mg base T CX k f m) : FnR P w K mg base CX k f (spM K T m) := by
  obtain ⟨fd, ps, ds, dvs, dfs, m0, F0, b, v, r, rfl⟩ := F.ex
  refine (F0.raw b v).imp fun vs H Q E h => ?_
  obtain ⟨Z, ι, ws, st, s, rw, p⟩ := h
  exact ⟨Z, ι, ws ++ dfs.map W.f, st, s, rw.append (RepWs.map_f (r Z)), p⟩
end
/-- a value handed to sp: what is known of it -/
def OwnAt (H : Hp) (C : Addr) (x : V) : Prop := ∃ a dx fs, x = .ref a ∧ H a = some (.ins C dx fs)
section
variable {X : Cx} {T : Tab} {E : XK} {CX : CXT} {k : Nat} {g C : Addr} {m : FnM} {sp : Sp}
theorem own_inst {pins : List (Addr × Obj)} {σ : L2.St} {H : Hp} {s : Shared} {a dx : Addr} {fs : List (Str × V)} (I : Inv X pins σ H s) (e : H a = some (.ins C dx fs)) : ∃ ox od, PySem.W.InstAt s.heap a ox C (some od) := by
  obtain ⟨mA, O, _⟩ := ins_get I.hok e
  obtain ⟨od, J, _⟩ := O.look
  exact ⟨_, _, J⟩
/-! ### len -/
/-! ### str -/
/-! ### two values, the first one's class has the def -/
/-- .. the second one an int or a text -/
structure BinT (K : PySem.W.Frag) (C : Addr) (nm : String) (Ty : String) : Prop where
  rc : ∃ rc, PySem.W.findIn K (.ref C) (PySem.dunderR nm) = some rc ∧ (rc = none ∨ ∃ g : Addr, rc = some (.ref g))
  fo : ∃ fo, PySem.W.findIn K (.type Ty) (PySem.dunder nm) = some fo
  ro : ∃ ro, PySem.W.findIn K (.type Ty) (PySem.dunderR nm) = some ro
  sub : PySem.W.subIn K (.type Ty) (.ref C) = some false
/-! ### x in y, y of the class -/
def rInO (C : Addr) (neg : Bool) (sp : Sp) (E : XK) : R2 := fun x y H Q => OwnAt H C y ∧ sp [y, x] H (fun z H' => ∃ b, z = .bl b ∧ Q (.bl (neg ^^ b)) H') E
theorem op_inO (hm : Meth X.K C "__contains__" g) (F : FnR X.prog X.w X.K X.mg X.base CX k g sp) (hr : Room k X.A) (hx : Passes CX X E) : OpR X (compareOp .In) (rInO C false sp E) := by
  intro pins s σ H x y v u Q I rx ry h
  obtain ⟨⟨b, dy, fs, rfl, eb⟩, q⟩ := h
  cases (show u = Value.ref b from ry)
  obtain ⟨ox, od, J⟩ := own_inst I eb
  obtain ⟨mm, hF⟩ := I.fr
  refine PySem.W.in_K hF I.ok.mod.kin J hm.at_ hm.fn ?_
  refine wpAny_mono (wpAny_call (run_fnR (us := [.ref b, v]) (vs := [.ref b, x]) F hr hx I (.cons rfl (.cons rx .nil)) q)) (fun w s' z => ?_) fun _ _ x => x
  obtain ⟨z', H', I', rz, c, rfl, qz⟩ := z
  cases (show w = Value.bool c from rz)
  exact wpAny_truthy_bool ⟨.bl c, H', I', rfl, by simpa using qz⟩
end

/-! ### over plain data -/
section
variable {X : Cx} {T : Tab} {E : XK} {CX : CXT} {k c : Nat} {g : Addr} {m : FnM} {a b e : Expr} {ta tb te : TEv} {pos p : Pos}
theorem own_at {K : PySem.W.Frag} {Z H : Hp} {ι : List Addr} {st : Store} {v : V} {w : W} (s : SimS K T Z ι st H) (r : RepW K T Z ι v w) (h : clsW st w = some c) : OwnAt H (T.ca K c) v := by
  obtain ⟨a, dx, fvs, e1, e2, _⟩ := obj_at s r h
  exact ⟨a, dx, fvs, e1, e2⟩
def backBl (neg : Bool) (r : Res W) : Res W := r.bind fun w st => match w with
  | .f (.bl i) => .ok (.f (.bl (neg ^^ i))) st
  | _ => .stuck
def own2 (c : Nat) (m : FnM) (w u : W) (st : Store) : Res W := if clsW st w = some c then m [w, u] st else .stuck
/-- x in y, y of the class -/
def eInO (c : Nat) (neg : Bool) (m : FnM) (ta tb : TEv) : TEv := fun env st => (ta env st).bind fun w st1 => (tb env st1).bind fun u st2 => backBl neg (own2 c m u w st2)
theorem rd_inO {neg : Bool} {σ : L2.St} {H : Hp} {Q : VK} (h : RdE X.K T E (eInO c neg m ta tb) σ H Q) : tOp (rInO (T.ca X.K c) neg (spM X.K T m) E) (RdE X.K T E ta) (RdE X.K T E tb) σ H Q := by
  obtain ⟨Z, ι, env, st, s, re, p⟩ := h
  refine ⟨Z, ι, env, st, s, re, (Post.bind p).imp fun w st1 H1 Z1 ι1 l1 s1 p1 v rv => ?_⟩
  refine ⟨Z1, ι1, env, st1, s1, re.mono l1, (Post.bind p1).imp fun u st2 H2 Z2 ι2 l2 s2 p2 v2 rv2 => ?_⟩
  unfold backBl own2 at p2
  by_cases hc : clsW st2 u = some c
  · rw [if_pos hc] at p2
    refine ⟨own_at s2 rv2 hc, Z2, ι2, [u, w], st2, s2, .cons rv2 (.cons (rv.mono l2) .nil), (Post.bind p2).imp fun y st3 H3 Z3 ι3 l3 s3 p3 v3 rv3 => ?_⟩
    cases rv3 with
    | loc e => exact p3.elim
    | f r =>
      cases r with
      | bl i => exact ⟨i, rfl, p3 H3 Z3 ι3 Le.refl s3 _ (.f (.bl _))⟩
      | _ => exact p3.elim
  · rw [if_neg hc] at p2
    exact p2.elim
theorem ve_inO {f : Addr} (hm : Meth X.K (T.ca X.K c) "__contains__" f) (F : Fn X.prog X.w X.K X.mg X.base T CX k f m) (hr : Room k X.A) (hx : Passes CX X E) (ha : VE X T E a ta) (hb : VE X T E b tb) (hmk : behindInMarks .In b = false) :
    VE X T E (.Compare a [.In] [b] pos) (eInO c false m ta tb) := pe_weak (pe_cmpR (op_inO hm F.raw hr hx) ha hb hmk) fun σ H Q h => rd_inO h
end
end VS

set_option Elab.async false
set_option linter.all false
set_option maxRecDepth 100000
set_option maxHeartbeats 4000000
set_option autoImplicit false
/-! VP: enumerate and zip over lists, tuples and texts. -/
namespace VS
open PySem PySem.Spec PyProof.Rows L2

/-- what an iterator goes over -/
inductive Sk where
  | lst (a : Addr) | tup (a : Addr) | str (x : Str)
def Sk.val : Sk → V
  | .lst a => .ref a
  | .tup a => .ref a
  | .str x => .str x
def Sk.ads : Sk → List Addr
  | .lst a => [a]
  | .tup a => [a]
  | .str _ => []
def Sk.At (K : PySem.W.Frag) (H : Hp) : Sk → List V → Prop
  | .lst a, vs => SqL K H a vs
  | .tup a, vs => SqT K H a vs
  | .str x, vs => vs = x.cps.toList.map fun c => V.str ⟨#[c]⟩
def So (u : Tok) (sk : Sk) (it : Addr) (i : Nat) (h : Heap) : Prop := match sk with
  | .lst a => h.IsListIter it a i
  | .tup a => h.IsTupleIter it a i
  | .str x => h.IsStrIter it (strIterType x) x u i
def Sk.obj (u : Tok) : Sk → Obj
  | .lst a => { cls := .type "list_iterator", data := .fields #[.ref a, .int 0 0] }
  | .tup a => { cls := .type "tuple_iterator", data := .fields #[.ref a, .int 0 0] }
  | .str x => { cls := .type (strIterType x), data := .fields #[.str x u, .int 0 0] }
theorem So.obj {u : Tok} {sk : Sk} {it : Addr} {i : Nat} {h : Heap} (st : So u sk it i h) : ∃ o, h.get? it = some o ∧ ∀ v, o.data ≠ .cell v := by
  cases sk <;> (obtain ⟨o, e, c, d⟩ := st; exact ⟨o, e, fun v q => by rw [d] at q; cases q⟩)
theorem So.keep {u : Tok} {sk : Sk} {it : Addr} {i : Nat} {h h' : Heap} (st : So u sk it i h) (k : ∀ o, h.get? it = some o → h'.get? it = some o) : So u sk it i h' := by
  cases sk <;> (obtain ⟨o, e, r⟩ := st; exact ⟨o, k o e, r⟩)
theorem So.first {u : Tok} {sk : Sk} {it : Addr} {h : Heap} (e : h.get? it = some (sk.obj u)) : So u sk it 0 h := by
  cases sk <;> exact ⟨_, e, rfl, rfl⟩
section
variable {X : Cx} {pins : List (Addr × Obj)} {σ : L2.St} {H : Hp} {s : Shared}
theorem sk_begins (I : Inv X pins σ H s) {sk : Sk} {vs : List V} {v : Value} (h : sk.At X.K H vs) (r : RelV sk.val v) : ∃ (u : Tok) (P : Heap → Prop), Begins v (sk.obj u) P ∧ P s.heap ∧ ∀ b ∈ sk.ads, b < s.heap.objs.size := by
  cases sk with
  | lst a =>
    cases (show v = Value.ref a from r)
    obtain ⟨its, rv, p, _⟩ := I.list h
    refine ⟨0, _, begins_list a its.toArray, p.isList, fun b hb => ?_⟩
    have e : b = a := by simpa [Sk.ads] using hb
    subst e
    exact p.lt
  | tup a =>
    cases (show v = Value.ref a from r)
    obtain ⟨its, rv, p, _⟩ := I.tuple h
    refine ⟨0, _, begins_tuple a its.toArray, (show s.heap.IsTuple a its.toArray from p), fun b hb => ?_⟩
    have e : b = a := by simpa [Sk.ads] using hb
    subst e
    obtain ⟨o, e, _⟩ := (show s.heap.IsTuple b its.toArray from p)
    exact Heap.lt_size e
  | str x =>
    obtain ⟨t, e⟩ := (show ∃ t, v = Value.str x t from r)
    cases e
    exact ⟨t, _, begins_text x t, trivial, fun b hb => by cases hb⟩
theorem sk_inj (I : Inv X pins σ H s) {sk : Sk} {vs us : List V} (h : sk.At X.K H vs) (h' : sk.At X.K H us) : vs = us := by
  cases sk with
  | lst a => exact I.list_inj h h'
  | tup a => exact I.tuple_inj h h'
  | str x => exact h.trans h'.symm
theorem sk_draws (I : Inv X pins σ H s) {A : Around} (hh : A.handled = none) {sk : Sk} {vs : List V} (h : sk.At X.K H vs) {u : Tok} {it : Addr} {i : Nat} (hn : ∀ b ∈ sk.ads, b ≠ it) (st : So u sk it i s.heap) :
    ∃ (fp : List Addr) (P : Nat → Value → Prop) (St : Nat → Heap → Prop), Draws X.prog X.w A it fp vs.length P St ∧ St i s.heap ∧ fp = it :: sk.ads ∧ (∀ j h, St j h → So u sk it j h) ∧ ∀ v x, P i v → vs[i]? = some x → RelV x v := by
  cases sk with
  | lst a =>
    obtain ⟨its, rv, p, _⟩ := I.list h
    have hl := rv.length
    refine ⟨[it, a], (fun i v => its.toArray[i]? = some v), (fun i h => h.IsListIter it a i ∧ h.IsList a its.toArray), ?_, ⟨st, p.isList⟩, rfl, fun j h q => q.1, fun v x pv hx => ?_⟩
    · have D := Draws.list (prog := X.prog) (w := X.w) hh it a (hn a (by simp [Sk.ads])) its.toArray
      rw [show its.toArray.size = vs.length from by simp [hl]] at D
      exact D
    · obtain ⟨u', hu, ru⟩ := rv.get hx
      have e : its.toArray[i]? = some v := pv
      have e : its[i]? = some v := by simpa using e
      rw [hu] at e
      cases e
      exact ru
  | tup a =>
    obtain ⟨its, rv, p, _⟩ := I.tuple h
    have hl := rv.length
    refine ⟨[it, a], (fun i v => its.toArray[i]? = some v), (fun i h => h.IsTupleIter it a i ∧ h.IsTuple a its.toArray), ?_, ⟨st, (show s.heap.IsTuple a its.toArray from p)⟩, rfl, fun j h q => q.1, fun v x pv hx => ?_⟩
    · have D := Draws.tuple (prog := X.prog) (w := X.w) hh it a (hn a (by simp [Sk.ads])) its.toArray
      rw [show its.toArray.size = vs.length from by simp [hl]] at D
      exact D
    · obtain ⟨u', hu, ru⟩ := rv.get hx
      have e : its.toArray[i]? = some v := pv
      have e : its[i]? = some v := by simpa using e
      rw [hu] at e
      cases e
      exact ru
  | str x =>
    have h : vs = x.cps.toList.map fun c => V.str ⟨#[c]⟩ := h
    subst h
    refine ⟨[it], (fun i v => ∃ c u, x.cps[i]? = some c ∧ v = .str ⟨#[c]⟩ u), (fun i h => h.IsStrIter it (strIterType x) x u i), ?_, st, rfl, fun j h q => q, fun v y pv hx => ?_⟩
    · have D := Draws.text (prog := X.prog) (w := X.w) hh it x u
      rw [show x.cps.size = (x.cps.toList.map fun c => V.str ⟨#[c]⟩).length from by simp] at D
      exact D
    · obtain ⟨c, t, hc, rfl⟩ := pv
      rw [List.getElem?_map] at hx
      obtain ⟨c', e', rfl⟩ := opt_map_some hx
      have hc : x.cps.toList[i]? = some c := by simpa using hc
      rw [hc] at e'
      cases e'
      exact ⟨t, rfl⟩
end
/-! ### zip -/
def ItzG (K : PySem.W.Frag) (k1 k2 : Sk) (n1 n2 : Nat) : It :=
  ⟨fun i H => ∃ (vs us : List V) (x y : V), k1.At K H vs ∧ k2.At K H us ∧ vs.length = n1 ∧ us.length = n2 ∧ vs[i]? = some x ∧ us[i]? = some y,
    fun i H v H' => ∃ T x y, v = .ref T ∧ H T = none ∧ H' = upd H T (.tup [x, y]) ∧ (∀ vs, k1.At K H vs → vs[i]? = some x) ∧ ∀ us, k2.At K H us → us[i]? = some y,
    fun i H => ∃ (vs us : List V), k1.At K H vs ∧ k2.At K H us ∧ vs.length = n1 ∧ us.length = n2 ∧ (n1 ≤ i ∨ n2 ≤ i)⟩
theorem turn_zipG {P : Program} {w : World} {K : PySem.W.Frag} {elts : List Expr} {kk : Nat} {tpos : Pos} {z TI TO i1 i2 : Addr} {k1 k2 : Sk} {n1 n2 : Nat} {u1 u2 : Tok} (D : ZipSep2 z TI TO i1 i2 (i1 :: k1.ads) (i2 :: k2.ads)) (hd1 : ∀ b ∈ k1.ads, b ≠ i1) (hd2 : ∀ b ∈ k2.ads, b ≠ i2) :
    Turn P w K (.Tuple elts kk tpos) (ItzG K k1 k2 n1 n2) [z, TI, TO, i1, i2] z (fun i h => IsZip h z TI TO .none ∧ IsTupOf2 h TI (.ref i1) (.ref i2) ∧ (∃ x y, IsTupOf2 h TO x y) ∧ So u1 k1 i1 i h ∧ So u2 k2 i2 i h ∧ i ≤ n1 ∧ i ≤ n2) where
  mem := by simp
  obj := fun i h st c hc => by
    obtain ⟨hz, hTI, ⟨x, y, hTO⟩, s1, s2, _⟩ := st
    have e' : c = z ∨ c = TI ∨ c = TO ∨ c = i1 ∨ c = i2 := by simpa using hc
    rcases e' with q | q | q | q | q
    · rw [q]; exact ⟨_, hz, fun v q => nomatch q⟩
    · rw [q]; exact ⟨_, hTI, fun v q => nomatch q⟩
    · rw [q]; exact ⟨_, hTO, fun v q => nomatch q⟩
    · rw [q]; exact s1.obj
    · rw [q]; exact s2.obj
  keep := fun i h h' st k => by
    obtain ⟨hz, hTI, ⟨x, y, hTO⟩, h1, h2, l⟩ := st
    exact ⟨k z (by simp) _ hz, k TI (by simp) _ hTI, ⟨x, y, k TO (by simp) _ hTO⟩, h1.keep fun o q => k i1 (by simp) o q, h2.keep fun o q => k i2 (by simp) o q, l⟩
  item := by
    intro X hP hw hK hc i pins s σ H E I hf st hg
    subst hP hw hK
    obtain ⟨hz, hTI, ⟨x0, y0, hTO⟩, h1, h2, l1, l2⟩ := st
    obtain ⟨vs, us, x, y, a1, a2, e1, e2, hx, hy⟩ := hg
    have hh : X.A.in1.handled = none := I.ok.hd hc
    obtain ⟨fp1, P1, St1, D1, st1, rfl, so1, r1⟩ := sk_draws I hh a1 hd1 h1
    obtain ⟨fp2, P2, St2, D2, st2, rfl, so2, r2⟩ := sk_draws I hh a2 hd2 h2
    have hi1 : i < vs.length := (List.getElem?_eq_some_iff.mp hx).1
    have hi2 : i < us.length := (List.getElem?_eq_some_iff.mp hy).1
    have hzl : z < s.heap.objs.size := Heap.lt_size hz
    refine wpAny_pyNext_zipD2_item D D1 D2 hz hTI hTO st1 st2 hi1 hi2 fun x1 x2 h' tk p1 p2 z' TO' h1' h2' hT hsz hk => ?_
    refine ⟨_, rfl, wpAny_letOwnedTupleGo_zip (s := { s with heap := h', toks := tk }) z' fun h'' z'' sb => ?_⟩
    have hT2 : h''.get? s.heap.objs.size = some { cls := .type "tuple", data := .seq #[x1, x2] } := (sb.2 _ (Nat.ne_of_gt hzl)).trans hT
    have new : ObjOk X.prog X.w (upd H s.heap.objs.size (.tup [x, y])) h'' s.heap.objs.size (.tup [x, y]) :=
      ⟨by show 2 ≤ sizeLine; decide, [x1, x2], .cons (r1 _ _ p1 hx) (.cons (r2 _ _ p2 hy) .nil), ⟨_, hT2, rfl, _, rfl⟩⟩
    have I1 : Inv X pins σ (upd H s.heap.objs.size (.tup [x, y])) { s with heap := h'', toks := tk } :=
      I.turnedNew (t' := tk) (ch := [z, TI, TO, i1, i2]) (fun c o hb q => (sb.2 c (fun q' => hb (by simp [q']))).trans (hk c o (fun q' => hb (by simp [q'])) (fun q' => hb (by simp [q'])) (fun q' => hb (by simp [q'])) (fun q' => hb (by simp [q'])) q)) hf (Nat.le_refl _) new
    refine ⟨.ref s.heap.objs.size, _, I1, rfl, ⟨_, x, y, rfl, I.hok.fresh (Nat.le_refl _), rfl, fun l hl => by rw [sk_inj I hl a1]; exact hx, fun l hl => by rw [sk_inj I hl a2]; exact hy⟩, ⟨z'', ?_, ⟨x1, x2, ?_⟩, ?_, ?_, by omega, by omega⟩, fun c hcm => ?_⟩
    · exact (sb.2 _ D.TIz).trans (hk _ _ D.TIz D.TITO D.TIi1 D.TIi2 hTI)
    · exact (sb.2 _ D.TOz).trans TO'
    · exact (so1 _ _ h1').keep fun o q => (sb.2 _ (Ne.symm D.zi1)).trans q
    · exact (so2 _ _ h2').keep fun o q => (sb.2 _ (Ne.symm D.zi2)).trans q
    · have hlt : c < s.heap.objs.size := by
        have e' : c = z ∨ c = TI ∨ c = TO ∨ c = i1 ∨ c = i2 := by simpa using hcm
        rcases e' with q | q | q | q | q
        · rw [q]; exact hzl
        · rw [q]; exact Heap.lt_size hTI
        · rw [q]; exact Heap.lt_size hTO
        · rw [q]; obtain ⟨o, e, _⟩ := h1.obj; exact Heap.lt_size e
        · rw [q]; obtain ⟨o, e, _⟩ := h2.obj; exact Heap.lt_size e
      rw [upd_ne (Nat.ne_of_lt hlt)]
      exact (hf c hcm).1
  done := by
    intro X hP hw hK hc i pins s σ H E I hf st hg
    subst hP hw hK
    obtain ⟨hz, hTI, ⟨x0, y0, hTO⟩, h1, h2, l1, l2⟩ := st
    obtain ⟨vs, us, a1, a2, e1, e2, he⟩ := hg
    have hh : X.A.in1.handled = none := I.ok.hd hc
    obtain ⟨fp1, P1, St1, D1, st1, rfl, so1, r1⟩ := sk_draws I hh a1 hd1 h1
    obtain ⟨fp2, P2, St2, D2, st2, rfl, so2, r2⟩ := sk_draws I hh a2 hd2 h2
    exact wpAny_pyNext_zipD2_end D D1 D2 hz hTI hTO st1 st2 (by omega) (by omega) (by omega) fun h' tk hk => ⟨rfl, I.turnedL (t' := tk) (ch := [z, TI, TO, i1, i2]) (fun c o hb q =>
      hk c o (fun q' => hb (by simp [q'])) (fun q' => hb (by simp [q'])) (fun q' => hb (by simp [q'])) (fun q' => hb (by simp [q'])) q) hf⟩
  self := fun A i s Q E st h => wpAny_pyIter_zip st.1 h
theorem not_in_new {N j i : Nat} {l : List Nat} (h : ∀ b ∈ l, b < N) (hj : j ≠ i) : N + j ∉ (N + i) :: l := fun hm => by
  rcases List.mem_cons.mp hm with q | q
  · omega
  · have := h _ q; omega
theorem ne_n {N i j : Nat} (h : i ≠ j) : N + i ≠ N + j := by omega
theorem sep_nat (N : Nat) (l1 l2 : List Nat) (h1 : ∀ b ∈ l1, b < N) (h2 : ∀ b ∈ l2, b < N) : ZipSep2 (N + 4) (N + 2) (N + 3) N (N + 1) (N :: l1) ((N + 1) :: l2) :=
  ⟨ne_n (by decide), ne_n (by decide), ne_n (by decide), ne_n (j := 0) (by decide), List.mem_cons_self .., not_in_new (i := 0) h1 (by decide), not_in_new (i := 0) h1 (by decide), ne_n (by decide), List.mem_cons_self .., not_in_new (i := 1) h2 (by decide), not_in_new (i := 1) h2 (by decide),
    not_in_new (j := 0) (i := 1) h2 (by decide), not_in_new (j := 1) (i := 0) h1 (by decide)⟩
theorem ge_five {N c : Nat} (h : c = N + 4 ∨ c = N + 2 ∨ c = N + 3 ∨ c = N ∨ c = N + 1) : N ≤ c := by omega
theorem ge_two {N c : Nat} (h : c = N + 1 ∨ c = N) : N ≤ c := by omega
def iZipG (K : PySem.W.Frag) (ta : TA) : TI := fun σ H R => ta σ H fun vs H1 => ∃ (k1 k2 : Sk) (xs ys : List V), vs = [k1.val, k2.val] ∧ k1.At K H1 xs ∧ k2.At K H1 ys ∧ R (ItzG K k1 k2 xs.length ys.length) H1
theorem pi_zipG {X : Cx} {e e2 : Expr} {ta : TA} {p pos tpos : Pos} {elts : List Expr} {kk : Nat} (hg : Gl X "zip") (hm : X.mg "zip" = none) (ha : PA X [e, e2] ta)
    (hs : starEach [e, e2] X.env = (false, eval e X.env) :: starEach [e2] X.env := by rfl) (hpl : (backTo pos (starEach [e2] X.env)).any (·.1) = false := by rfl) :
    PI X (.Tuple elts kk tpos) (.Call (.Name "zip" p) [e, e2] [] pos) (iZipG X.K ta) := by
  refine ⟨fun pins s σ H R I h => ?_⟩
  refine Call_ (ld_blt I hg hm PyProof.Rows.boot_zip (PyProof.Rows.callWith_type1 (thn (ha.run pos pins s σ H _ I h) fun us s1 ⟨vs, H1, I1, r1, q1⟩ => ?_) hs hpl))
  obtain ⟨k1, k2, xs, ys, ex, a1, a2, q⟩ := q1
  subst ex
  obtain ⟨v1, v2, rfl, rv1, rv2⟩ := vals2 r1
  obtain ⟨u1, P1, B1, p1, b1⟩ := sk_begins I1 a1 rv1
  obtain ⟨u2, P2, B2, p2, b2⟩ := sk_begins I1 a2 rv2
  refine zip_begins2 B1 B2 p1 p2 fun h' hz hTI hTO h1 h2 hsz hk => wpAny_pyIter_zip hz ?_
  have I2 : Inv X pins σ H1 { s1 with heap := h' } := I1.kept (t' := s1.toks) hk
  have D := sep_nat s1.heap.objs.size k1.ads k2.ads b1 b2
  refine ⟨s1.heap.objs.size + 4, [s1.heap.objs.size + 4, s1.heap.objs.size + 2, s1.heap.objs.size + 3, s1.heap.objs.size, s1.heap.objs.size + 1], _, _, H1, rfl, I2,
    turn_zipG (u1 := u1) (u2 := u2) D (fun b hb => Nat.ne_of_lt (b1 b hb)) (fun b hb => Nat.ne_of_lt (Nat.lt_succ_of_lt (b2 b hb))), ⟨hz, hTI, ⟨_, _, hTO⟩, So.first h1, So.first h2, Nat.zero_le _, Nat.zero_le _⟩, fun c hcm => ?_, q⟩
  have hle : s1.heap.objs.size ≤ c := by
    have e' : c = s1.heap.objs.size + 4 ∨ c = s1.heap.objs.size + 2 ∨ c = s1.heap.objs.size + 3 ∨ c = s1.heap.objs.size ∨ c = s1.heap.objs.size + 1 := by simpa using hcm
    exact ge_five e'
  exact I1.fpOk hle (I1.hok.fresh hle)
/-! ### enumerate -/
theorem meets_enum1 {v : Value} {o : Obj} {H : Heap → Prop} (B : Begins v o H) :
    Meets (Builtin.«enumerate.__new__» ⟨[.type "enumerate", v], []⟩) (fun _ R s => H s.heap ∧
      R (.ok (.ret (.ref (s.heap.push o).objs.size))) { s with heap := (s.heap.push o).push { cls := .type "enumerate", data := .fields #[.none, .bool false, .ref s.heap.objs.size, rawInt 0, .none, .none] } }) :=
  .of_wp fun prog w A R s h => by
    obtain ⟨hp, g, d, tk, os⟩ := s; obtain ⟨h1, h⟩ := h
    have hsub := sub_enumerate
    have q1 : ∀ {A' : Around} {E : Value → Shared → Prop} {Q : Value → Shared → Prop}, Q (.ref hp.objs.size) ⟨hp.push o, g, d, tk, os⟩ → wpAny (model prog w) A' (pyIter v) Q E ⟨hp, g, d, tk, os⟩ :=
      fun q => B.iter prog w _ _ ⟨hp, g, d, tk, os⟩ _ h1 q
    wp_walk using q1
    refine wpAny_stack_any fun st => wpAny_pure ?_
    split
    · rename_i c _ _ _ _ _
      cases (c == Value.type "enumerate")
      · wp_walk using q1
        exact ⟨_, rfl, h⟩
      · wp_walk using q1
        exact ⟨_, rfl, h⟩
    · wp_walk using q1
      exact ⟨_, rfl, h⟩
theorem enum_begins1 {prog : Program} {w : World} {A : Around} {E : Value → Shared → Prop} {s : Shared} {v : Value} {o : Obj} {H : Heap → Prop} {Q : Value → Shared → Prop} (B : Begins v o H) (h1 : H s.heap)
    (h : ∀ h', IsEnum h' (s.heap.objs.size + 1) s.heap.objs.size 0 .none → h'.get? s.heap.objs.size = some o → h'.objs.size = s.heap.objs.size + 2 →
      (∀ b o, s.heap.get? b = some o → h'.get? b = some o) → Q (.ref (s.heap.objs.size + 1)) { s with heap := h' }) :
    wpAny (model prog w) A (call (.type "enumerate") [v]) Q E s := by
  refine callType_new F.called_enumerate (by decide) (F.typeCall_enumerate_1 _) (F.newCall_enumerate_1 _) (fun obj => F.args_object_init_2 obj _) F.entry_enumerate_new (meets_enum1 B) ⟨h1, ?_⟩
  have hz : (s.heap.push o).objs.size = s.heap.objs.size + 1 := Heap.size_push ..
  show _ ∧ _
  rw [hz]
  have he : IsEnum ((s.heap.push o).push { cls := .type "enumerate", data := .fields #[.none, .bool false, .ref s.heap.objs.size, rawInt 0, .none, .none] }) (s.heap.objs.size + 1) s.heap.objs.size 0 .none := by
    have := Heap.get?_push_size (s.heap.push o) (o := { cls := .type "enumerate", data := .fields #[.none, .bool false, .ref s.heap.objs.size, rawInt 0, .none, .none] }) rfl
    rw [hz] at this; exact this
  exact ⟨⟨_, he, rfl⟩, h _ he (Heap.get?_push_of_some _ (Heap.get?_push_size _ B.free)) (by rw [Heap.size_push, hz]) fun b o x => Heap.get?_push_of_some _ (Heap.get?_push_of_some _ x)⟩
def IteG (K : PySem.W.Frag) (k : Sk) (n : Nat) : It :=
  ⟨fun i H => ∃ (vs : List V) (x : V), k.At K H vs ∧ vs.length = n ∧ vs[i]? = some x,
    fun i H v H' => ∃ T x, v = .ref T ∧ H T = none ∧ H' = upd H T (.tup [.int (i : Nat), x]) ∧ ∀ vs, k.At K H vs → vs[i]? = some x,
    fun i H => ∃ vs : List V, k.At K H vs ∧ vs.length = n ∧ n ≤ i⟩
theorem turn_enumG {P : Program} {w : World} {K : PySem.W.Frag} {elts : List Expr} {kk : Nat} {tpos : Pos} {e it : Addr} {k : Sk} {n : Nat} {u : Tok} (hne : e ≠ it) (hd : ∀ b ∈ k.ads, b ≠ it) (hd' : ∀ b ∈ k.ads, b ≠ e) :
    Turn P w K (.Tuple elts kk tpos) (IteG K k n) [e, it] e (fun i h => (∃ old, IsEnum h e it ((i : Nat) : Int) old) ∧ So u k it i h ∧ i ≤ n) where
  mem := by simp
  obj := fun i h st b hb => by
    obtain ⟨⟨old, he⟩, hs, _⟩ := st
    have e' : b = e ∨ b = it := by simpa using hb
    rcases e' with z | z
    · rw [z]; exact ⟨_, he, fun v q => nomatch q⟩
    · rw [z]; exact hs.obj
  keep := fun i h h' st k => let ⟨⟨old, he⟩, hi, hl⟩ := st; ⟨⟨old, k e (by simp) _ he⟩, hi.keep fun o q => k it (by simp) o q, hl⟩
  item := by
    intro X hP hw hK hc i pins s σ H E I hf st hg
    subst hP hw hK
    obtain ⟨⟨old, he⟩, h1, l1⟩ := st
    obtain ⟨vs, x, a1, e1, hx⟩ := hg
    have hh : X.A.in1.handled = none := I.ok.hd hc
    obtain ⟨fp1, P1, St1, D1, st1, rfl, so1, r1⟩ := sk_draws I hh a1 hd h1
    have hi1 : i < vs.length := (List.getElem?_eq_some_iff.mp hx).1
    have hel : e < s.heap.objs.size := Heap.lt_size he
    have hil : it < s.heap.objs.size := by obtain ⟨o, q, _⟩ := h1.obj; exact Heap.lt_size q
    have hef : e ∉ it :: k.ads := fun hm => by
      rcases List.mem_cons.mp hm with q | q
      · exact hne q
      · exact hd' e q rfl
    refine wpAny_pyNext_enum_itemC D1 he st1 hi1 hne hef fun x1 h' tk p1 ho hit' hT hsz hk => ?_
    refine ⟨_, rfl, wpAny_letOwnedTupleGo_enum (s := { s with heap := h', toks := tk + 1 }) ho fun h'' he' sb => ?_⟩
    have hT2 : h''.get? s.heap.objs.size = some { cls := .type "tuple", data := .seq #[.int i tk, x1] } := (sb.2 _ (Nat.ne_of_gt hel)).trans hT
    have new : ObjOk X.prog X.w (upd H s.heap.objs.size (.tup [.int (i : Nat), x])) h'' s.heap.objs.size (.tup [.int (i : Nat), x]) :=
      ⟨by show 2 ≤ sizeLine; decide, [.int i tk, x1], .cons ⟨_, rfl⟩ (.cons (r1 _ _ p1 hx) .nil), ⟨_, hT2, rfl, _, rfl⟩⟩
    have I1 : Inv X pins σ (upd H s.heap.objs.size (.tup [.int (i : Nat), x])) { s with heap := h'', toks := tk + 1 } :=
      I.turnedNew (ch := [e, it]) (fun b ob hb q => (sb.2 b (fun z => hb (by simp [z]))).trans (hk b ob (fun z => hb (by simp [z])) (fun z => hb (by simp [z])) q)) hf (Nat.le_refl _) new
    refine ⟨.ref s.heap.objs.size, _, I1, rfl, ⟨_, x, rfl, I.hok.fresh (Nat.le_refl _), rfl, fun ys hy => by rw [sk_inj I hy a1]; exact hx⟩, ⟨⟨x1, ?_⟩, (so1 _ _ hit').keep fun o q => (sb.2 it (Ne.symm hne)).trans q, by omega⟩, fun b hb => ?_⟩
    · have e1 : ((i + 1 : Nat) : Int) = (i : Int) + 1 := by omega
      rw [e1]; exact he'
    · have hb' : b < s.heap.objs.size := by
        have e' : b = e ∨ b = it := by simpa using hb
        rcases e' with z | z
        · rw [z]; exact hel
        · rw [z]; exact hil
      rw [upd_ne (Nat.ne_of_lt hb')]
      exact (hf b hb).1
  done := by
    intro X hP hw hK hc i pins s σ H E I hf st hg
    subst hP hw hK
    obtain ⟨⟨old, he⟩, h1, l1⟩ := st
    obtain ⟨vs, a1, e1, hx⟩ := hg
    have hh : X.A.in1.handled = none := I.ok.hd hc
    obtain ⟨fp1, P1, St1, D1, st1, rfl, so1, r1⟩ := sk_draws I hh a1 hd h1
    have e2 : i = vs.length := by omega
    rw [e2] at st1
    exact wpAny_pyNext_enum_endD D1 he st1 fun h' eb => ⟨rfl, I.turnedL (t' := s.toks) (ch := [e, it]) (fun b o hb q => eb b o (fun z => hb (by simp [z])) q) hf⟩
  self := fun A i s Q E st h => let ⟨⟨_, he⟩, _⟩ := st; wpAny_pyIter_enum he h
def iEnumG (K : PySem.W.Frag) (ta : TA) : TI := fun σ H R => ta σ H fun vs H1 => ∃ (k : Sk) (xs : List V), vs = [k.val] ∧ k.At K H1 xs ∧ R (IteG K k xs.length) H1
theorem pi_enumG {X : Cx} {e : Expr} {ta : TA} {p pos tpos : Pos} {elts : List Expr} {kk : Nat} (hg : Gl X "enumerate") (hm : X.mg "enumerate" = none) (ha : PA X [e] ta) (hs : starEach [e] X.env = [(false, eval e X.env)] := by rfl) :
    PI X (.Tuple elts kk tpos) (.Call (.Name "enumerate" p) [e] [] pos) (iEnumG X.K ta) := by
  refine ⟨fun pins s σ H R I h => ?_⟩
  refine Call_ (ld_blt I hg hm boot_enumerate (PyProof.Rows.callWith_type1 (thn (ha.run pos pins s σ H _ I h) fun us s1 ⟨vs, H1, I1, r1, q1⟩ => ?_) hs rfl))
  obtain ⟨k, xs, ex, a1, q⟩ := q1
  subst ex
  obtain ⟨v1, rfl, rv1⟩ := r1.one
  obtain ⟨u1, P1, B1, p1, b1⟩ := sk_begins I1 a1 rv1
  refine enum_begins1 B1 p1 fun h' he h1 hsz hk => wpAny_pyIter_enum he ?_
  have I2 : Inv X pins σ H1 { s1 with heap := h' } := I1.kept (t' := s1.toks) hk
  refine ⟨s1.heap.objs.size + 1, [s1.heap.objs.size + 1, s1.heap.objs.size], _, _, H1, rfl, I2, turn_enumG (u := u1) (Nat.succ_ne_self _) (fun b hb => Nat.ne_of_lt (b1 b hb)) (fun b hb => Nat.ne_of_lt (Nat.lt_succ_of_lt (b1 b hb))), ⟨⟨.none, he⟩, So.first h1, Nat.zero_le _⟩, fun b hb => ?_, q⟩
  have hle : s1.heap.objs.size ≤ b := by
    have e' : b = s1.heap.objs.size + 1 ∨ b = s1.heap.objs.size := by simpa using hb
    exact ge_two e'
  exact I1.fpOk hle (I1.hok.fresh hle)
end VS

set_option Elab.async false
set_option linter.all false
set_option maxRecDepth 100000
set_option maxHeartbeats 4000000
set_option autoImplicit false
/-! VQ: sorted(set(..)) of ints, what enumerate and zip walk, and other words. -/
namespace VS
section
open PySem PySem.Spec PyProof.Rows L2
variable {P : Program} {w : World} {A : Around} {E : Value → Shared → Prop} {s : Shared}
end
end VS

set_option Elab.async false
set_option linter.all false
set_option maxRecDepth 100000
set_option maxHeartbeats 4000000
set_option autoImplicit false
/-! VR: zip and enumerate over data, sorted(set(..)), stars, str.index, len(range(..)), constants of the module. -/
namespace VS
open PySem PySem.Spec PyProof.Rows L2
section
variable {X : Cx} {T : Tab} {E : XK} {a b c e o i value tg : Expr} {es : List Expr} {ta tb tc te to ti tv : TEv} {tr : TAv} {pos pos' apos cpos p p2 p3 : Pos}
/-! ### what zip and enumerate walk -/
def itemsD : F → Option (List F)
  | .lst xs => some xs
  | .tup xs => some xs
  | .str s => some (s.map fun c => .str [c])
  | _ => none
theorem rep_signs {K : PySem.W.Frag} {Z : Hp} : ∀ s : List Nat, RepFs K T Z ((S s).cps.toList.map fun c => V.str ⟨#[c]⟩) (s.map fun c => .str [c]) := by
  intro s
  show RepFs K T Z (s.toArray.toList.map fun c => V.str ⟨#[c]⟩) (s.map fun c => .str [c])
  rw [List.toList_toArray]
  induction s with
  | nil => exact .nil
  | cons c r ih => exact .cons (.str [c]) ih
theorem sk_of {K : PySem.W.Frag} {Z : Hp} {v : V} {x : F} {xs : List F} (r : RepF K T Z v x) (h : itemsD x = some xs) : ∃ k vs, v = Sk.val k ∧ (∀ H', Same Z H' → k.At K H' vs) ∧ RepFs K T Z vs xs := by
  cases r with
  | lst e r => cases h; exact ⟨.lst _, _, rfl, fun H' s => SqL.of (s _ _ e), r⟩
  | tup e r => cases h; exact ⟨.tup _, _, rfl, fun H' s => same_sqt s e, r⟩
  | str s => cases h; exact ⟨.str (S s), _, rfl, fun H' _ => rfl, rep_signs s⟩
  | _ => cases h
def zipW (ws : List W) (st : Store) : Res (List W) := match ws with
  | [.f x, .f y] => (match itemsD x, itemsD y with
    | some xs, some ys => .ok ((xs.zip ys).map fun q => W.f (.tup [q.1, q.2])) st
    | _, _ => .stuck)
  | _ => .stuck
def iZip (t : TAv) : TIv := fun env st => (t env st).bind zipW
theorem walks_zip {K : PySem.W.Frag} {Z : Hp} {ι : List Addr} {k1 k2 : Sk} {vs us : List V} {xs ys : List F} (a1 : ∀ H', Same Z H' → k1.At K H' vs) (a2 : ∀ H', Same Z H' → k2.At K H' us) (r1 : RepFs K T Z vs xs) (r2 : RepFs K T Z us ys) :
    Walks K T Z ι (ItzG K k1 k2 vs.length us.length) ((xs.zip ys).map fun q => W.f (.tup [q.1, q.2])) := by
  intro i Z' ι' H' st' l s
  have sh : Same Z H' := l.z.trans s.sub
  refine ⟨fun w h => ?_, fun h => ?_⟩
  · rw [List.getElem?_map] at h
    obtain ⟨⟨x, y⟩, hq, rfl⟩ := opt_map_some h
    obtain ⟨hx, hy⟩ := List.getElem?_zip_eq_some.mp hq
    obtain ⟨v, hv, rv⟩ := r1.get hx
    obtain ⟨u, hu, ru⟩ := r2.get hy
    refine ⟨⟨vs, us, v, u, a1 H' sh, a2 H' sh, rfl, rfl, hv, hu⟩, fun z H2 hz => ?_⟩
    obtain ⟨t, x', y', rfl, hn, rfl, h1, h2⟩ := hz
    have e1 := h1 vs (a1 H' sh)
    have e2 := h2 us (a2 H' sh)
    rw [hv] at e1; rw [hu] at e2
    cases e1; cases e2
    have hs := same_new (o := .tup [v, u]) (free_sub s.sub hn)
    exact ⟨_, Grow.laid s.sub hn, .f (.tup (SqT.of upd_same) (.cons ((rv.mono l.z).mono hs) (.cons ((ru.mono l.z).mono hs) .nil)))⟩
  · have hl := List.getElem?_eq_none_iff.mp h
    rw [List.length_map, List.length_zip] at hl
    exact ⟨vs, us, a1 H' sh, a2 H' sh, rfl, rfl, by rw [r1.length, r2.length]; omega⟩
theorem vi_zip {elts : List Expr} {kk : Nat} {e2 : Expr} {tpos : Pos} (hg : Gl X "zip") (hm : X.mg "zip" = none) (ha : VA X T E [e, e2] tr)
    (hs : starEach [e, e2] X.env = (false, eval e X.env) :: starEach [e2] X.env := by rfl) (hpl : (backTo pos (starEach [e2] X.env)).any (·.1) = false := by rfl) :
    VI X T E (.Tuple elts kk tpos) (.Call (.Name "zip" p) [e, e2] [] pos) (iZip tr) := pi_weak (pi_zipG hg hm ha hs hpl) fun σ H R h => by
  obtain ⟨Z, ι, env, st, s, re, p⟩ := h
  refine ⟨Z, ι, env, st, s, re, (Post.bind p).imp fun ws st1 H1 Z1 ι1 l1 s1 p1 vs rvs => ?_⟩
  cases rvs with
  | nil => exact p1.elim
  | cons rx rt =>
    cases rt with
    | nil => cases rx <;> exact p1.elim
    | cons ry rt =>
      cases rt with
      | cons _ _ => cases rx <;> cases ry <;> exact p1.elim
      | nil =>
        cases rx with
        | loc _ => exact p1.elim
        | f rx =>
          cases ry with
          | loc _ => exact p1.elim
          | f ry =>
            rename_i v u x y
            unfold zipW at p1
            cases q1 : itemsD x with
            | none => simp only [q1] at p1; exact p1.elim
            | some xs =>
              cases q2 : itemsD y with
              | none => simp only [q1, q2] at p1; exact p1.elim
              | some ys =>
                simp only [q1, q2] at p1
                obtain ⟨k1, vs1, rfl, a1, r1⟩ := sk_of rx q1
                obtain ⟨k2, vs2, rfl, a2, r2⟩ := sk_of ry q2
                exact ⟨k1, k2, vs1, vs2, rfl, a1 _ s1.sub, a2 _ s1.sub, p1 H1 Z1 ι1 Le.refl s1 _ (walks_zip a1 a2 r1 r2)⟩
def enumL : Nat → List F → List F
  | _, [] => []
  | n, x :: xs => .tup [.int (n : Int), x] :: enumL (n + 1) xs
theorem enumL_get : ∀ (xs : List F) (n i : Nat), (enumL n xs)[i]? = (xs[i]?).map fun x => .tup [.int ((n + i : Nat) : Int), x]
  | [], n, i => by simp [enumL]
  | x :: xs, n, 0 => by simp [enumL]
  | x :: xs, n, i + 1 => by
    simp only [enumL, List.getElem?_cons_succ]
    rw [enumL_get xs (n + 1) i, show n + 1 + i = n + (i + 1) from by omega]
def enumW (ws : List W) (st : Store) : Res (List W) := match ws with
  | [.f x] => (match itemsD x with
    | some xs => .ok ((enumL 0 xs).map W.f) st
    | _ => .stuck)
  | _ => .stuck
def iEnum (t : TAv) : TIv := fun env st => (t env st).bind enumW
theorem walks_enum {K : PySem.W.Frag} {Z : Hp} {ι : List Addr} {k1 : Sk} {vs : List V} {xs : List F} (a1 : ∀ H', Same Z H' → k1.At K H' vs) (r1 : RepFs K T Z vs xs) :
    Walks K T Z ι (IteG K k1 vs.length) ((enumL 0 xs).map W.f) := by
  intro i Z' ι' H' st' l s
  have sh : Same Z H' := l.z.trans s.sub
  refine ⟨fun w h => ?_, fun h => ?_⟩
  · rw [List.getElem?_map, enumL_get] at h
    obtain ⟨q, hq, rfl⟩ := opt_map_some h
    obtain ⟨x, hx, rfl⟩ := opt_map_some hq
    obtain ⟨v, hv, rv⟩ := r1.get hx
    refine ⟨⟨vs, v, a1 H' sh, rfl, hv⟩, fun z H2 hz => ?_⟩
    obtain ⟨t, x', rfl, hn, rfl, h1⟩ := hz
    have e1 := h1 vs (a1 H' sh)
    rw [hv] at e1
    cases e1
    have hs := same_new (o := .tup [.int (i : Nat), v]) (free_sub s.sub hn)
    refine ⟨_, Grow.laid s.sub hn, .f (.tup (SqT.of upd_same) (.cons ?_ (.cons ((rv.mono l.z).mono hs) .nil)))⟩
    rw [Nat.zero_add]
    exact .int _
  · have hl := List.getElem?_eq_none_iff.mp h
    have : xs.length ≤ i := by
      rw [List.length_map] at hl
      have h2 : (enumL 0 xs)[i]? = none := List.getElem?_eq_none_iff.mpr hl
      rw [enumL_get] at h2
      cases q : xs[i]? with
      | none => exact List.getElem?_eq_none_iff.mp q
      | some x => rw [q] at h2; cases h2
    exact ⟨vs, a1 H' sh, rfl, by rw [r1.length]; exact this⟩
theorem vi_enum {elts : List Expr} {kk : Nat} {tpos : Pos} (hg : Gl X "enumerate") (hm : X.mg "enumerate" = none) (ha : VA X T E [e] tr) (hs : starEach [e] X.env = [(false, eval e X.env)] := by rfl) :
    VI X T E (.Tuple elts kk tpos) (.Call (.Name "enumerate" p) [e] [] pos) (iEnum tr) := pi_weak (pi_enumG hg hm ha hs) fun σ H R h => by
  obtain ⟨Z, ι, env, st, s, re, p⟩ := h
  refine ⟨Z, ι, env, st, s, re, (Post.bind p).imp fun ws st1 H1 Z1 ι1 l1 s1 p1 vs rvs => ?_⟩
  cases rvs with
  | nil => exact p1.elim
  | cons rx rt =>
    cases rt with
    | cons _ _ => cases rx <;> exact p1.elim
    | nil =>
      cases rx with
      | loc _ => exact p1.elim
      | f rx =>
        rename_i v x
        unfold enumW at p1
        cases q1 : itemsD x with
        | none => simp only [q1] at p1; exact p1.elim
        | some xs =>
          simp only [q1] at p1
          obtain ⟨k1, vs1, rfl, a1, r1⟩ := sk_of rx q1
          exact ⟨k1, vs1, rfl, a1 _ s1.sub, p1 H1 Z1 ι1 Le.refl s1 _ (walks_enum a1 r1)⟩
/-! ### sorted(set(xs)) -/
/-! ### stars -/
/-! ### str.index -/
def sidxF : F → List F → Option F
  | .str a, [.str b] => (match Builtin.Str.occurrences (S a) (S b) 0 (S a).length 1 with
    | i :: _ => some (.int (i : Nat))
    | [] => none)
  | _, _ => none
/-! ### len(range(n)) -/
/-! ### constants of the module -/
theorem g_str {x z : Str} {s : List Nat} (h : ∃ t, X.mg x = some (.str z t)) (hg : Gl X x) (hz : z = S s) (hd : (x == ("__debug__" : Str)) = false := by decide) : VE X T E (.Name x pos) (eC (.str s)) := by
  obtain ⟨t, h⟩ := h
  subst hz
  exact ve_glob (v := .str (S s)) hg h ⟨t, rfl⟩ (fun Z => .str s) hd
/-! ### += -/
/-- any block, where it is never reached -/
def bStuck : TSv := fun _ _ => .stuck
theorem vb_stuck {body : List Stmt} : VB X T E body bStuck := ⟨fun pins s σ H Q I q => by
  obtain ⟨Z, ι, env, st, _, _, p⟩ := q
  exact p.elim⟩
end
end VS

set_option Elab.async false
set_option linter.all false
set_option maxRecDepth 100000
set_option maxHeartbeats 4000000
set_option autoImplicit false
namespace VS
open PySem PySem.Spec PyProof.Rows L2
@[irreducible] def fuel : Nat := 10 ^ 40
theorem Fn.full {P : Program} {w : World} {K : PySem.W.Frag} {mg : Str → Option Value} {base : Heap} {T : Tab} {CX : CXT} {k : Nat} {f : Addr} {fd : FuncData} {ps : List Str} {m : FnM} {ds : List Value} {dvs : List V} (F : FnOk P w K mg base CX k f fd ps (spM K T m)) (b : Binds K fd ps ds) (v : Vals dvs ds) (kp : PySem.W.keepIn K (.ref f) = true) (hd : dvs = [] := by rfl) :
    Fn P w K mg base T CX k f m := by
  subst hd
  cases v
  exact ⟨⟨fd, ps, [], [], [], m, F, b, .nil, fun _ => .nil, by simp⟩, kp⟩
end VS

set_option Elab.async false
set_option linter.all false
set_option maxRecDepth 100000
set_option maxHeartbeats 4000000
set_option autoImplicit false
/-! VY: what the head must have left, as one Bool; the law's own call. -/
namespace VS
open PySem PySem.Spec PyProof.Rows L2
/-! ### the table of classes -/
def clsB (K : PySem.W.Frag) (C : Addr) : Bool := PySem.W.plainGet K C Str.empty && (PySem.W.hasDictIn K C && (PySem.W.plainOver K C && He.eqO (PySem.W.findIn K (.ref C) "__setattr__") (some (some (.builtin "object.__setattr__")))))
theorem clsB_ok {K : PySem.W.Frag} {C : Addr} (c : clsB K C = true) : Cls K C := by
  obtain ⟨c1, c⟩ := He.ba c
  obtain ⟨c2, c⟩ := He.ba c
  obtain ⟨c3, c4⟩ := He.ba c
  exact ⟨c1, c2, c3, He.eqO_ok c4⟩
def tabB (K : PySem.W.Frag) (T : Tab) : Bool := (List.range T.cls.length).all fun c => clsB K (T.ca K c) && (List.range T.fld.length).all fun i => !T.okf c i || He.eqO (PySem.W.findIn K (.ref (T.ca K c)) (T.fn i)) (some none)
theorem some_lt {α : Type} {l : List α} {c : Nat} (h : (l[c]?).isSome = true) : c < l.length := by
  rcases Nat.lt_or_ge c l.length with q | q
  · exact q
  · rw [List.getElem?_eq_none q] at h; cases h
theorem okf_cls {T : Tab} {c i : Nat} (h : T.okf c i = true) : c < T.cls.length := by
  unfold Tab.okf at h
  cases q : T.cls[c]? with
  | none => rw [q] at h; cases h
  | some x => exact some_lt (by rw [q]; rfl)
theorem tabB_ok {K : PySem.W.Frag} {T : Tab} (hn : T.fld.Nodup) (h : tabB K T = true) : TabOk K T := by
  have h' := List.all_eq_true.mp h
  refine ⟨hn, fun c hc => ?_, fun c i hi => ?_⟩
  · exact clsB_ok (He.ba (h' c (List.mem_range.mpr (some_lt hc)))).1
  · have h2 := List.all_eq_true.mp (He.ba (h' c (List.mem_range.mpr (okf_cls hi)))).2 i (List.mem_range.mpr (okf_lt hi))
    rw [hi] at h2
    exact He.eqO_ok (by simpa using h2)
/-! ### isinstance -/
def isiAll (K : PySem.W.Frag) (T : Tab) (t : Ty) : Bool := ([Tg.bl, .int, .str, .tup, .lst, .dct].all fun g => decide (PySem.W.kitOne K (tyVal K T t) (tgVal K T g) = some (isT g t))) && (List.range T.cls.length).all fun c => decide (PySem.W.kitOne K (tyVal K T t) (tgVal K T (.own c)) = some (isT (.own c) t))
def isiB (K : PySem.W.Frag) (T : Tab) : Bool := ([Ty.non, .bl, .int, .str, .tup, .lst, .dct].all fun t => isiAll K T t) && (List.range T.cls.length).all fun c => insB K (T.ca K c) && isiAll K T (.own c)
theorem isiB_ok {K : PySem.W.Frag} {T : Tab} (h : isiB K T = true) : IsiOk K T := by
  obtain ⟨h1, h2⟩ := He.ba h
  have h1' := List.all_eq_true.mp h1
  have h2' := List.all_eq_true.mp h2
  have each : ∀ t g, isiAll K T t = true → (∀ c, g = .own c → (T.cls[c]?).isSome = true) → PySem.W.kitOne K (tyVal K T t) (tgVal K T g) = some (isT g t) := by
    intro t g ht hg
    obtain ⟨a, b⟩ := He.ba ht
    have a' := List.all_eq_true.mp a
    have b' := List.all_eq_true.mp b
    cases g with
    | own c => exact of_decide_eq_true (b' c (List.mem_range.mpr (some_lt (hg c rfl))))
    | _ => exact of_decide_eq_true (a' _ (by simp))
  refine ⟨fun c hc => (He.ba (h2' c (List.mem_range.mpr (some_lt hc)))).1, fun t g ht hg => ?_⟩
  cases t with
  | own c => exact each _ g (He.ba (h2' c (List.mem_range.mpr (some_lt (ht c rfl))))).2 hg
  | _ => exact each _ g (h1' _ (by simp)) hg
/-! ### the Hook: the defs, the facts by names, one Bool more -/
def SaysX (ex : PySem.W.Frag → Bool) (fa : List He.Fa) (fn : List He.DefD) (K : PySem.W.Frag) : Prop := He.SaysD fa fn K ∧ ex K = true
/-- the heap without the tables of code objects -/
def noTab (H : Hp) : Hp := fun b => match H b with
  | some (.tbl _) => none
  | o => o
theorem noTab_sub (H : Hp) : Same (noTab H) H := fun b o e => by
  unfold noTab at e
  cases q : H b with
  | none => rw [q] at e; cases e
  | some u => rw [q] at e; cases u <;> first | exact e | cases e
theorem noTab_at {H : Hp} {b : Addr} {o : HO} (h : H b = some o) (ht : ∀ ps, o ≠ .tbl ps) : noTab H b = some o := by
  unfold noTab
  rw [h]
  cases o <;> first | rfl | exact absurd rfl (ht _)
theorem noTab_tbl {H : Hp} {b : Addr} {ps : Array Value} : noTab H b ≠ some (.tbl ps) := fun e => by
  have h := noTab_sub H b _ e
  unfold noTab at e
  rw [h] at e
  cases e
theorem noTab_sq {K : PySem.W.Frag} {H : Hp} {a : Addr} {vs : List V} (h : SqL K H a vs) : SqL K (noTab H) a vs := by
  rcases h with (h | ⟨o, h⟩) | h
  · exact .inl (.inl (noTab_at h fun _ => nofun))
  · exact .inl (.inr ⟨o, noTab_at h fun _ => nofun⟩)
  · exact .inr h
/-- the law's promise from its mirror -/
theorem sp_lawT {K : PySem.W.Frag} {T : Tab} {m : FnM} (hm : ∀ ns : List Int, ns.length ≤ 63 → ∃ st, m [.f (.scr ns)] [] = .ok (.f (.bl true)) st) {H : Hp} {a : Addr} {ns : List Int} (hl : ns.length ≤ 63) (hS : SqL K H a (ns.map V.int)) (hT : ∀ p ∈ T.tbs K, LamX.TabS H p.1 p.2) :
    spM K T m [.ref a] H (fun v _ => v = .bl true) fun _ _ _ => False := by
  obtain ⟨st, e⟩ := hm ns hl
  refine ⟨noTab H, [], [.f (.scr ns)], [], ⟨noTab_sub H, rfl, .nil, fun n a c h => by simp at h, fun a h => (by cases h), ⟨fun _ _ => noTab_tbl, fun a h => (by cases h), fun p hp => ⟨?_, hT p hp⟩⟩⟩, .cons (.f (.scr (noTab_sq hS))) .nil, ?_⟩
  · obtain ⟨ps, e, _⟩ := hT p hp
    unfold noTab
    rw [e]
  · rw [e]
    intro H' Z' ι' _ _ v rv
    cases rv with
    | f r => cases r; rfl
end VS

set_option Elab.async false
set_option linter.all false
set_option maxRecDepth 100000
set_option maxHeartbeats 4000000
set_option autoImplicit false
/-! VZ: operators with an own object to the right. -/
namespace PySem.W
open PySem PySem.Calls PyProof.Rows
section
variable {prog : Program} {w : World} {M : Model} {A : Around} {E : Value → Shared → Prop} {s : Shared} {K : Frag} {x C L f f0 : Addr} {h₀ : Heap} {m : Str → Option Value} {ox : Obj} {od : Option Obj} {nm T : String}
end
end PySem.W
namespace VS
open PySem PySem.Spec PyProof.Rows L2
/-- what a class and a type must be for an operator that the right side answers -/
structure BinR (K : PySem.W.Frag) (C : Addr) (nm : String) (Ty : String) : Prop where
  hs : ∃ f0, PySem.W.findIn K (.ref C) (PySem.dunder nm) = some (some (.ref f0))
  ex : ∃ fo ro, PySem.W.findIn K (.type Ty) (PySem.dunder nm) = some fo ∧ PySem.W.findIn K (.type Ty) (PySem.dunderR nm) = some ro ∧ ((fo.isSome && !isSeqSlot fo) || (ro.isSome && !isSeqSlot ro)) = false
section
variable {X : Cx} {T : Tab} {E : XK} {a b e : Expr} {ta tb te : TEv} {pos : Pos} {CX : CXT} {k c : Nat} {g : Addr} {m : FnM} {C : Addr} {sp : Sp}
end
end VS

set_option Elab.async false
set_option linter.all false
set_option maxRecDepth 100000
set_option maxHeartbeats 4000000
set_option autoImplicit false
/-! WA: dicts. -/
namespace VS
open PySem PySem.Spec PyProof.Rows L2

/-! ### tables -/
def keyEq (x y : F) : Bool := match keyF x, keyF y with
  | some a, some b => decide (a = b)
  | _, _ => false
def lookF (kfs : List (F × F)) (y : F) : Option F := (kfs.find? fun p => keyEq p.1 y).map (·.2)
def putDF (kfs : List (F × F)) (y x : F) : List (F × F) :=
  if (kfs.any fun p => keyEq p.1 y) = true then kfs.map (fun p => if keyEq p.1 y = true then (p.1, x) else p) else kfs ++ [(y, x)]
section
variable {K : PySem.W.Frag} {T : Tab} {Z : Hp}
theorem keyEq_of {x y : F} {a b : Key} (hx : keyF x = some a) (hy : keyF y = some b) : keyEq x y = decide (a = b) := by
  unfold keyEq; rw [hx, hy]
theorem RepFk.val {y : F} {k : Key} (hy : keyF y = some k) : ∀ {kvs : List (Key × V)} {kfs : List (F × F)}, RepFk K T Z kvs kfs →
    (∃ v x, valV kvs k = some v ∧ lookF kfs y = some x ∧ RepF K T Z v x) ∨ (valV kvs k = none ∧ lookF kfs y = none)
  | _, _, .nil => .inr ⟨rfl, rfl⟩
  | _, _, .cons (k := k') (v := v') (y := y') (x := x') (vs := vs) (xs := xs) h r t => by
    have e := keyEq_of h hy
    by_cases hk : k' = k
    · refine .inl ⟨v', x', valV_pos hk, ?_, r⟩
      unfold lookF
      rw [List.find?_cons_of_pos (by rw [e]; exact decide_eq_true hk)]
      rfl
    · have e1 : lookF ((y', x') :: xs) y = lookF xs y := by
        unfold lookF
        rw [List.find?_cons_of_neg (by rw [e]; simp [hk])]
      rw [valV_neg (p := (k', v')) hk, e1]
      exact RepFk.val hy t
theorem RepFk.any {y : F} {k : Key} (hy : keyF y = some k) : ∀ {kvs : List (Key × V)} {kfs : List (F × F)}, RepFk K T Z kvs kfs →
    (kvs.any fun kv => decide (kv.1 = k)) = kfs.any fun p => keyEq p.1 y
  | _, _, .nil => rfl
  | _, _, .cons h r t => by rw [List.any_cons, List.any_cons, RepFk.any hy t, keyEq_of h hy]
theorem RepFk.repl {y x : F} {k : Key} {v : V} (hy : keyF y = some k) (rx : RepF K T Z v x) : ∀ {kvs : List (Key × V)} {kfs : List (F × F)}, RepFk K T Z kvs kfs →
    RepFk K T Z (kvs.map fun kv => if kv.1 = k then (kv.1, v) else kv) (kfs.map fun p => if keyEq p.1 y = true then (p.1, x) else p)
  | _, _, .nil => .nil
  | _, _, .cons (k := k') h r t => by
    rw [List.map_cons, List.map_cons]
    have e := keyEq_of h hy
    by_cases hk : k' = k
    · rw [if_pos hk, if_pos (by rw [e]; exact decide_eq_true hk)]
      exact .cons h rx (RepFk.repl hy rx t)
    · rw [if_neg hk, if_neg (by rw [e]; simp [hk])]
      exact .cons h r (RepFk.repl hy rx t)
theorem RepFk.append : ∀ {vs ws : List (Key × V)} {xs ys : List (F × F)}, RepFk K T Z vs xs → RepFk K T Z ws ys → RepFk K T Z (vs ++ ws) (xs ++ ys)
  | _, _, _, _, .nil, s => s
  | _, _, _, _, .cons h r t, s => .cons h r (RepFk.append t s)
theorem RepFk.put {y x : F} {k : Key} {v : V} {kvs : List (Key × V)} {kfs : List (F × F)} (h : RepFk K T Z kvs kfs) (hy : keyF y = some k) (rx : RepF K T Z v x) : RepFk K T Z (putK kvs k v) (putDF kfs y x) := by
  unfold putK putDF
  rw [h.any hy]
  by_cases q : (kfs.any fun p => keyEq p.1 y) = true
  · rw [if_pos q, if_pos q]; exact h.repl hy rx
  · rw [if_neg q, if_neg q]; exact h.append (.cons hy rx .nil)
theorem rep_key {y : F} {k : Key} {v : V} (h : keyF y = some k) (r : RepF K T Z v y) : v = kV k := by
  cases r with
  | int i => cases h; rfl
  | str s => cases h; rfl
  | _ => cases h
end

/-! ### displays -/
section
variable {X : Cx} {T : Tab} {E : XK} {o e f i value : Expr} {to te tf ti tv : TEv} {pos pos' apos cpos : Pos} {ts : List (TEv × TEv)} {keys : List (Option Expr)} {values : List Expr}
/-! ### asked -/
theorem View.key {K : PySem.W.Frag} {Z H : Hp} {v : V} {y : F} {k : Key} (h : View K T Z H v y) (e : keyF y = some k) : v = kV k := by
  cases h with
  | f r => exact rep_key e r
  | lst _ _ => cases e
  | dct _ _ => cases e
end
end VS

set_option Elab.async false
set_option linter.all false
set_option maxRecDepth 100000
set_option maxHeartbeats 4000000
set_option autoImplicit false
/-! WB: int * own object. -/
namespace PySem
open Sem (wp)
open Builtin
end PySem
namespace PySem.W
open PySem PySem.Calls PyProof.Rows
section
variable {prog : Program} {w : World} {A : Around} {E : Value → Shared → Prop} {s : Shared} {K : Frag} {x C L f f0 dx : Addr} {h₀ : Heap} {m : Str → Option Value} {ox : Obj} {od : Option Obj}
end
end PySem.W

set_option Elab.async false
set_option linter.all false
set_option maxRecDepth 100000
set_option maxHeartbeats 4000000
set_option autoImplicit false
/-! WC: int * own object, the rule. -/
namespace VS
open PySem PySem.Spec PyProof.Rows L2
/-- what a class must be for int * object -/
structure MulR (K : PySem.W.Frag) (C : Addr) : Prop where
  hs : ∃ f0, PySem.W.findIn K (.ref C) (PySem.dunder "mul") = some (some (.ref f0))
  sub : PySem.W.subIn K (.ref C) (.type "int") = some false
section
variable {X : Cx} {T : Tab} {E : XK} {a b e : Expr} {ta tb te : TEv} {pos : Pos} {CX : CXT} {k c : Nat} {g : Addr} {m : FnM} {C : Addr} {sp : Sp}
end
end VS

set_option Elab.async false
set_option linter.all false
set_option maxRecDepth 100000
set_option maxHeartbeats 4000000
set_option autoImplicit false
/-! WD: own object != anything, by the class's __eq__. -/
namespace PySem.W
open PySem PySem.Calls PyProof.Rows
open Builtin
section
variable {prog : Program} {w : World} {A : Around} {E : Value → Shared → Prop} {s : Shared} {K : Frag} {x C L f : Addr} {h₀ : Heap} {m : Str → Option Value} {ox : Obj} {od : Option Obj} {b tb : Value}
end
end PySem.W
namespace VS
open PySem PySem.Spec PyProof.Rows L2
/-- what a class must be for object != anything -/
structure NeC (K : PySem.W.Frag) (C : Addr) : Prop where
  ne : PySem.W.findIn K (.ref C) "__ne__" = some (some (.builtin "object.__ne__"))
  mro : PySem.W.mroIn K C (.type "object") = some true
section
variable {X : Cx} {T : Tab} {E : XK} {a b e : Expr} {ta tb te : TEv} {pos : Pos} {CX : CXT} {k c : Nat} {g : Addr} {m : FnM} {C : Addr} {sp : Sp}
end
end VS
namespace VS
open PySem PySem.Spec PyProof.Rows L2
section
variable {X : Cx} {T : Tab} {E : XK} {pos : Pos}
def eDNew : TEv := fun _ st => .ok (.loc st.length) (st ++ [.dct []])
theorem ve_dnew : VE X T E (.Dict [] [] pos) eDNew := pe_weak pe_dnewK fun σ H Q h => by
  obtain ⟨Z, ι, env, st, s, re, p⟩ := h
  intro a ha
  have hz := free_sub s.sub ha
  have s2 := s.alloc (c := .dct []) (o := .dK []) ha ⟨hz, [], upd_same, .nil⟩
  exact p _ Z (ι ++ [a]) Le.alloc s2 _ (.loc (by rw [← s.len]; simp))
end
end VS
namespace VS
open PySem PySem.Spec PyProof.Rows L2
section
variable {X : Cx} {T : Tab} {E : XK} {ss : List Stmt} {u : TSv} {i : Nat}
/-- ahead of a block a name's cell becomes data -/
theorem vb_fz (h : VB X T E ss u) : VB X T E ss (bCons (sSet i (eFrzC (eVar i))) u) := pss_weak h fun D σ H h => by
  obtain ⟨Z, ι, env, st, s, re, p⟩ := h
  have e : bCons (sSet i (eFrzC (eVar i))) u env st = (eFrzC (eVar i) env st).thenS fun w st1 => u (env.set i (some w)) st1 := by
    unfold bCons sSet
    cases eFrzC (eVar i) env st <;> rfl
  rw [e] at p
  unfold eFrzC eVar at p
  cases q : env[i]? with
  | none => simp only [q] at p; exact p.elim
  | some o =>
    cases o with
    | none => simp only [q] at p; exact p.elim
    | some w =>
      simp only [q] at p
      obtain ⟨v, ev, rv⟩ := re.get i w q
      have hset : ∀ {Z' : Hp} {w' : W}, Le Z ι Z' ι → RepW X.K T Z' ι v w' → EnvR X.K T Z' ι σ (env.set i (some w')) := fun {Z' w'} l r => by
        refine ⟨by simp [re.len], fun j z h => ?_⟩
        by_cases hj : i = j
        · subst hj
          have hl : i < env.length := (List.getElem?_eq_some_iff.mp q).1
          rw [List.getElem?_set_self hl] at h
          cases h
          exact ⟨v, ev, r⟩
        · rw [List.getElem?_set_ne hj] at h
          exact (re.mono l).get j z h
      cases rv with
      | f rv => exact ⟨Z, ι, _, _, s, hset Le.refl (.f rv), p⟩
      | loc e =>
        rename_i a n
        have p : PostS X.K T E Z ι ((match st[n]? with
          | some (.lstF xs) => Res.ok (W.f (.lst xs)) (st.set n .dead)
          | some (.dct xs) => Res.ok (W.f (.dct xs)) (st.set n .dead)
          | _ => Res.stuck).thenS fun w st1 => u (env.set i (some w)) st1) D := p
        cases q1 : st[n]? with
        | none => simp only [q1] at p; exact p.elim
        | some cl =>
          have k := s.cell n a cl e q1
          cases cl with
          | lstF xs =>
            simp only [q1] at p
            obtain ⟨hz, vs, e1, r1⟩ := k
            have hs : Same Z (upd Z a (.lst vs)) := same_new hz
            have l : Le Z ι (upd Z a (.lst vs)) ι := ⟨hs, fun _ _ h => h⟩
            exact ⟨_, ι, _, _, s.freeze e hz e1, hset l (.f (.lst upd_same (r1.mono hs))), PostS.le l p⟩
          | dct xs =>
            simp only [q1] at p
            obtain ⟨hz, vs, e1, r1⟩ := k
            have hs : Same Z (upd Z a (.dK vs)) := same_new hz
            have l : Le Z ι (upd Z a (.dK vs)) ι := ⟨hs, fun _ _ h => h⟩
            exact ⟨_, ι, _, _, s.freeze e hz e1, hset l (.f (.dct upd_same (r1.mono hs))), PostS.le l p⟩
          | dti xs => simp only [q1] at p; exact p.elim
          | lstW xs => simp only [q1] at p; exact p.elim
          | dead => simp only [q1] at p; exact p.elim
          | ins c fs => simp only [q1] at p; exact p.elim
end
end VS

set_option Elab.async false
set_option linter.all false
set_option maxRecDepth 100000
set_option maxHeartbeats 4000000
set_option autoImplicit false
/-! WE: list(text), str(number), str(text). -/
namespace VS
open PySem PySem.Spec PyProof.Rows L2
section
variable {X : Cx} {T : Tab}
def sgV (z : Str) : List V := z.cps.toList.map fun c => V.str ⟨#[c]⟩
theorem vals_signs (z : Str) : ∀ (l : List Nat) (us : List Value), us.length = l.length → (∀ (j : Nat) v, us[j]? = some v → ∃ c u, l[j]? = some c ∧ v = .str ⟨#[c]⟩ u) → Vals (l.map fun c => V.str ⟨#[c]⟩) us
  | [], [], _, _ => .nil
  | [], _ :: _, h, _ => by simp at h
  | _ :: _, [], h, _ => by simp at h
  | c :: l, u :: us, h, q => by
    obtain ⟨c', t, e1, e2⟩ := q 0 u rfl
    cases e1
    exact .cons ⟨t, e2⟩ (vals_signs z l us (by simpa using h) fun j v hj => q (j + 1) v hj)
theorem call_list_text (hc : X.calm = true) : CallR X (.type "list") (fun xs H Q => ∃ z, xs = [.str z] ∧ z.length ≤ sizeLine ∧ ∀ l, H l = none → Q (.ref l) (upd H l (.lst (sgV z)))) := by
  intro pins s σ H xs us Q I r h
  obtain ⟨z, rfl, hz, q⟩ := h
  obtain ⟨u, rfl, t, rfl⟩ := vals1 r
  refine call_list_str (I.ok.hd hc) z t (fun h' tk acc' c' kp e hi => ?_) hz
  have hv : Vals (sgV z) acc'.toList := by
    refine vals_signs z z.cps.toList acc'.toList (by rw [Array.length_toList, Array.length_toList]; exact hi.1) fun j v hj => ?_
    rw [Array.getElem?_toList] at hj
    obtain ⟨c, u, e1, e2⟩ := hi.2 j v hj
    exact ⟨c, u, by rw [Array.getElem?_toList]; exact e1, e2⟩
  have hsz : (sgV z).length ≤ sizeLine := by unfold sgV; rw [List.length_map, Array.length_toList]; exact hz
  exact ⟨.ref s.heap.objs.size, _, I.laid (t' := tk) kp (by first | exact Nat.le_refl _ | omega) (show ObjOk X.prog X.w _ h' _ (.lst (sgV z)) from ⟨hsz, acc'.toList, c', hv, by rw [Array.toArray_toList]; exact e⟩), rfl, q _ (I.hok.fresh (Nat.le_refl _))⟩
def list2F : F → Option F
  | .lst xs => some (.lst xs)
  | .tup xs => some (.lst xs)
  | .scr ns => some (.lst (ns.map F.int))
  | .str s => if small s.length = true then some (.lst (s.map fun c => F.str [c])) else none
  | _ => none
def rList2 (K : PySem.W.Frag) : List V → Hp → VK → Prop := fun xs H Q => rListF K xs H Q ∨ ∃ z, xs = [.str z] ∧ z.length ≤ sizeLine ∧ ∀ l, H l = none → Q (.ref l) (upd H l (.lst (sgV z)))
theorem cr_list2 (hc : X.calm = true) : CallR X (.type "list") (rList2 X.K) := CallR.or call_list_of (call_list_text hc)
theorem repFs_signs {K : PySem.W.Frag} {Z : Hp} : ∀ (s : List Nat), RepFs K T Z (s.map fun c => V.str ⟨#[c]⟩) (s.map fun c => F.str [c])
  | [] => .nil
  | c :: s => .cons (RepF.str [c]) (repFs_signs s)
theorem on_list2 : OpN X T (rList2 X.K) (g1 list2F) := on1 fun Z H x fx z Q s vx h g => by
  cases fx with
  | lst xs =>
    cases h
    obtain ⟨a, vs, rfl, e1, r1⟩ := vx.lst' s
    exact .inl ⟨a, vs, rfl, .inl (SqL.of e1), fun p hp => g.new s hp (.lst upd_same (r1.mono (Grow.laid (o := .lst vs) s hp).z))⟩
  | tup xs =>
    cases h
    obtain ⟨a, vs, rfl, e1, r1⟩ := vx.tup'
    exact .inl ⟨a, vs, rfl, .inr (same_sqt s e1), fun p hp => g.new s hp (.lst upd_same (r1.mono (Grow.laid (o := .lst vs) s hp).z))⟩
  | scr ns =>
    cases h
    cases vx with | f r =>
    cases r with | scr e =>
    exact .inl ⟨_, _, rfl, .inl (s.seq e), fun p hp => g.new s hp (.lst upd_same (RepFs.ofInts ns))⟩
  | str t =>
    obtain ⟨hs, h⟩ := ifSome h
    cases h
    cases vx.str
    refine .inr ⟨S t, rfl, by rw [S_len]; exact small_line hs, fun p hp => g.new s hp (.lst upd_same ?_)⟩
    unfold sgV
    rw [S_list]
    exact repFs_signs t
  | _ => cases h
/-- how a number is written -/
def strI (i : Int) : List Nat := ((toString i : Str)).cps.toList
theorem S_strI (i : Int) : S (strI i) = (toString i : Str) := by
  unfold strI S
  simp
def strF : F → Option F
  | .int i => if i.natAbs.log2 < 1920 then some (.str (strI i)) else none
  | .str s => some (.str s)
  | _ => none
theorem cr_str : CallR X (.type "str") (fun xs H Q => (∃ i, xs = [.int i] ∧ i.natAbs.log2 < 1920 ∧ Q (.str (toString i)) H) ∨ ∃ a, xs = [.str a] ∧ Q (.str a) H) := CallR.or call_str_int SkE.call_str_str
theorem on_str : OpN X T (fun xs H Q => (∃ i, xs = [.int i] ∧ i.natAbs.log2 < 1920 ∧ Q (.str (toString i)) H) ∨ ∃ a, xs = [.str a] ∧ Q (.str a) H) (g1 strF) := on1 fun Z H x fx z Q s vx h g => by
  cases fx with
  | int i =>
    obtain ⟨hs, h⟩ := ifSome h
    cases h
    cases vx.int
    refine .inl ⟨i, rfl, hs, ?_⟩
    rw [← S_strI]
    exact g.here s (.str _)
  | str a => cases h; cases vx.str; exact .inr ⟨S a, rfl, g.here s (.str _)⟩
  | _ => cases h
end
end VS

set_option Elab.async false
set_option linter.all false
set_option maxRecDepth 100000
set_option maxHeartbeats 4000000
set_option autoImplicit false
/-! WF: a def that is handed cells and only looks at them. -/
namespace VS
open PySem PySem.Spec PyProof.Rows L2
mutual
/-- data without lists, dicts and objects -/
def flat : F → Bool
  | .non => true
  | .bl _ => true
  | .int _ => true
  | .str _ => true
  | .tup xs => flats xs
  | _ => false
def flats : List F → Bool
  | [] => true
  | x :: xs => flat x && flats xs
end
def thaw (st : Store) : List W → Option (List F)
  | [] => some []
  | w :: ws => (deepF 0 st 3 w).bind fun x => (thaw st ws).map (x :: ·)
def borR (st : Store) : Res W → Res W
  | .ok (.f x) [] => if flat x = true then .ok (.f x) st else .stuck
  | .ok (.loc 0) [.lstF ys] => if flats ys = true then .ok (.loc st.length) (st ++ [.lstF ys]) else .stuck
  | _ => .stuck
def borO (m : FnM) (st : Store) : Option (List F) → Res W
  | some xs => borR st (m (xs.map W.f) [])
  | none => .stuck
/-- m, its arguments' cells being data for the time of the call -/
def bor (m : FnM) : FnM := fun ws st => borO m st (thaw st ws)
section
variable {P : Program} {w : World} {K : PySem.W.Frag} {mg : Str → Option Value} {base : Heap} {T : Tab} {f : Addr} {k : Nat}
mutual
theorem RepF.flat {Z Z' : Hp} (hz : ∀ a vs, SqT K Z a vs → SqT K Z' a vs) : ∀ {v : V} {x : F}, flat x = true → RepF K T Z v x → RepF K T Z' v x
  | _, _, _, .non => .non
  | _, _, _, .bl b => .bl b
  | _, _, _, .int i => .int i
  | _, _, _, .str s => .str s
  | _, _, h, .tup e r => .tup (hz _ _ e) (RepFs.flat hz (by unfold VS.flat at h; exact h) r)
  | _, _, h, .lst _ _ => by cases h
  | _, _, h, .dct _ _ => by cases h
  | _, _, h, .dlt _ _ => by cases h
  | _, _, h, .ktp _ _ => by cases h
  | _, _, h, .dlu _ _ => by cases h
  | _, _, h, .obj _ _ _ => by cases h
  | _, _, h, .scr _ => by cases h
theorem RepFs.flat {Z Z' : Hp} (hz : ∀ a vs, SqT K Z a vs → SqT K Z' a vs) : ∀ {vs : List V} {xs : List F}, flats xs = true → RepFs K T Z vs xs → RepFs K T Z' vs xs
  | _, _, _, .nil => .nil
  | _, _, h, .cons r t => by
    unfold flats at h
    rw [Bool.and_eq_true] at h
    exact .cons (RepF.flat hz h.1 r) (RepFs.flat hz h.2 t)
end
theorem thaw_ok {Z H : Hp} {ι : List Addr} {st : Store} (s : SimS K T Z ι st H) : ∀ {vs : List V} {ws : List W} {xs : List F}, RepWs K T Z ι vs ws → thaw st ws = some xs → RepFs K T (zAll Z H ι 0) vs xs
  | _, _, _, .nil, h => by cases h; exact .nil
  | _, _, _, .cons (x := u) (xs := us) r t, h => by
    have h : (deepF 0 st 3 u).bind (fun x => (thaw st us).map (x :: ·)) = some _ := h
    cases q : deepF 0 st 3 u with
    | none => rw [q] at h; cases h
    | some y =>
      cases q2 : thaw st us with
      | none => rw [q, q2] at h; cases h
      | some ys =>
        rw [q, q2] at h
        cases h
        exact .cons (deepF_ok s 0 3 r q) (thaw_ok s t q2)
/-- a live cell's address -/
def alive (ι : List Addr) (st : Store) (a : Addr) : Prop := ∃ (n : Nat) (c : Cell), ι[n]? = some a ∧ st[n]? = some c ∧ c ≠ .dead
open Classical in
/-- Z' without the live ones -/
noncomputable def zBut (ι : List Addr) (st : Store) (Z' : Hp) : Hp := fun a => if alive ι st a then none else Z' a
section
variable {Z H H' Z' : Hp} {ι ι' : List Addr} {st : Store}
theorem back (s : SimS K T Z ι st H) (l : Le (zAll Z H ι 0) [] Z' ι') (hs' : Same Z' H') (t : TabI K T Z' ι' H') :
    SimS K T (zBut ι st Z') ι st H' ∧ Le Z ι (zBut ι st Z') ι ∧ (∀ a vs, SqT K Z' a vs → SqT K (zBut ι st Z') a vs) ∧ ∀ a ∈ ι, ∃ o, Z' a = some o := by
  have hin : ∀ a ∈ ι, zAll Z H ι 0 a = H a := fun a ha => by
    unfold zAll
    rw [if_pos (by simpa using ha)]
  have hall : ∀ a ∈ ι, ∃ o, H a = some o ∧ Z' a = some o := fun a ha => by
    obtain ⟨o, eo⟩ := s.there a ha
    exact ⟨o, eo, l.z a o (by rw [hin a ha, eo])⟩
  have hnone : ∀ a, alive ι st a → Z a = none := fun a ⟨n, c, h1, h2, h3⟩ => by
    have k := s.cell n a c h1 h2
    cases c with
    | dead => exact absurd rfl h3
    | lstF xs => exact k.1
    | lstW xs => exact k.1
    | dct xs => exact k.1
    | dti xs => exact k.1
    | ins c fs => exact k.1
  have hz : Same Z (zBut ι st Z') := fun a o e => by
    unfold zBut
    rw [if_neg (fun q => by rw [hnone a q] at e; cases e)]
    exact l.z a o (zAll_same s 0 a o e)
  have sub : Same (zBut ι st Z') H' := fun a o e => by
    unfold zBut at e
    split at e
    · cases e
    · exact hs' a o e
  have le : Le Z ι (zBut ι st Z') ι := ⟨hz, fun _ _ h => h⟩
  refine ⟨⟨sub, s.len, s.nd, fun n a c h1 h2 => ?_, fun a ha => ?_, ⟨fun b ps e => ?_, fun a ha o e => ?_, fun p hp => ?_⟩⟩, le, fun a vs q => ?_, fun a ha => let ⟨o, _, e⟩ := hall a ha; ⟨o, e⟩⟩
  rotate_right 4
  · unfold zBut at e
    split at e
    · cases e
    · exact t.zt b ps e
  · obtain ⟨u, e1, e2⟩ := hall a ha
    have := hs' a u e2
    rw [e] at this
    cases this
    exact s.tab.ct a ha _ e1
  · obtain ⟨h1, h2⟩ := t.tb p hp
    refine ⟨?_, h2⟩
    unfold zBut
    split
    · rfl
    · exact h1
  rotate_left
  · have ha : a ∈ ι := List.mem_of_getElem? h1
    obtain ⟨o, e1, e2⟩ := hall a ha
    have e3 : H' a = H a := by rw [e1]; exact hs' a o e2
    have hno : c ≠ .dead → zBut ι st Z' a = none := fun hc => by unfold zBut; rw [if_pos ⟨n, c, h1, h2, hc⟩]
    have k := s.cell n a c h1 h2
    cases c with
    | dead => trivial
    | lstF xs => obtain ⟨_, vs, e, r⟩ := k; exact ⟨hno nofun, vs, e3.trans e, r.mono hz⟩
    | lstW xs => obtain ⟨_, vs, e, r⟩ := k; exact ⟨hno nofun, vs, e3.trans e, r.mono le⟩
    | dct xs => obtain ⟨_, vs, e, r⟩ := k; exact ⟨hno nofun, vs, e3.trans e, r.mono hz⟩
    | dti xs => obtain ⟨_, vs, e, r⟩ := k; exact ⟨hno nofun, vs, e3.trans e, r.mono hz⟩
    | ins c fs => obtain ⟨_, dx, fvs, e, hc, r⟩ := k; exact ⟨hno nofun, dx, fvs, e3.trans e, hc, r.mono le⟩
  · obtain ⟨o, e1, e2⟩ := hall a ha
    exact ⟨o, hs' a o e2⟩
  · have nt : ∀ o, Z' a = some o → (∀ c : Cell, c ≠ .dead → ∀ (n : Nat), ι[n]? = some a → st[n]? = some c → o ≠ o → False) → True := fun _ _ _ => trivial
    have key : ∀ o, Z' a = some o → (∀ us, o ≠ .lst us) → (∀ us, o ≠ .dK us) → (∀ x y z, o ≠ .ins x y z) → (∀ us, o ≠ .dT us) → zBut ι st Z' a = some o := fun o e n1 n2 n3 n4 => by
      unfold zBut
      rw [if_neg]
      · exact e
      · rintro ⟨n, c, h1, h2, h3⟩
        have ha : a ∈ ι := List.mem_of_getElem? h1
        obtain ⟨u, e1, e2⟩ := hall a ha
        rw [e] at e2
        cases e2
        have k := s.cell n a c h1 h2
        cases c with
        | dead => exact h3 rfl
        | lstF xs => obtain ⟨_, vs, e, _⟩ := k; rw [e1] at e; exact n1 _ (Option.some.inj e)
        | lstW xs => obtain ⟨_, vs, e, _⟩ := k; rw [e1] at e; exact n1 _ (Option.some.inj e)
        | dct xs => obtain ⟨_, vs, e, _⟩ := k; rw [e1] at e; exact n2 _ (Option.some.inj e)
        | dti xs => obtain ⟨_, vs, e, _⟩ := k; rw [e1] at e; exact n4 _ (Option.some.inj e)
        | ins c fs => obtain ⟨_, dx, fvs, e, _⟩ := k; rw [e1] at e; exact n3 _ _ _ (Option.some.inj e)
    rcases q with (q | ⟨o, q⟩) | q
    · exact .inl (.inl (key _ q (fun _ => nofun) (fun _ => nofun) (fun _ _ _ => nofun) (fun _ => nofun)))
    · exact .inl (.inr ⟨o, key _ q (fun _ => nofun) (fun _ => nofun) (fun _ _ _ => nofun) (fun _ => nofun)⟩)
    · exact .inr q
end
theorem spM_bor {m : FnM} {vs : List V} {H : Hp} {Q : VK} {E : XK} (h : spM K T (bor m) vs H Q E) : spM K T m vs H Q E := by
  obtain ⟨Z, ι, ws, st, s, r, p⟩ := h
  unfold bor at p
  cases q : thaw st ws with
  | none => rw [q] at p; exact p.elim
  | some xs =>
    rw [q] at p
    have p : Post K T E Z ι (borR st (m (xs.map W.f) [])) _ := p
    have sim : SimS K T (zAll Z H ι 0) [] [] H := by
      refine ⟨fun a o e => ?_, rfl, List.nodup_nil, fun n a c h => (by simp at h), fun a h => (by simp at h), s.tab.step (fun a ps e => ?_) (fun a h => (by simp at h)) (fun _ _ e _ => e) fun a u e hn h0 => by
        unfold zAll
        rw [if_neg fun hd => hn (List.mem_of_mem_drop hd)]
        exact h0⟩
      rotate_right
      · unfold zAll at e
        by_cases ha : a ∈ ι.drop 0
        · rw [if_pos ha] at e
          exact absurd rfl ((s.tab.ct a (List.mem_of_mem_drop ha) _ e).1 ps)
        · rw [if_neg ha] at e
          exact e
      unfold zAll at e
      by_cases ha : a ∈ ι.drop 0
      · rw [if_pos ha] at e; exact e
      · rw [if_neg ha] at e; exact s.sub a o e
    refine ⟨zAll Z H ι 0, [], xs.map W.f, [], sim, RepWs.ofFs (thaw_ok s r q), ?_⟩
    cases e : m (xs.map W.f) [] with
    | stuck => rw [e] at p; exact p.elim
    | exc c fs st' => rw [e] at p; exact p.elim
    | ok u st' =>
      rw [e] at p
      cases u with
      | f x =>
        cases st' with
        | cons c t => exact p.elim
        | nil =>
          have p : Post K T E Z ι (if flat x = true then Res.ok (W.f x) st else .stuck) _ := p
          by_cases hx : flat x = true
          · rw [if_pos hx] at p
            intro H' Z' ι' l s' v rv
            obtain ⟨s2, l2, ht, _⟩ := back s l s'.sub s'.tab
            cases rv with
            | f rv => exact p H' _ ι l2 s2 v (.f (rv.flat ht hx))
          · rw [if_neg hx] at p; exact p.elim
      | loc n =>
        match n, st', p with
        | 0, [.lstF ys], p =>
          have p : Post K T E Z ι (if flats ys = true then Res.ok (W.loc st.length) (st ++ [.lstF ys]) else .stuck) _ := p
          by_cases hx : flats ys = true
          · rw [if_pos hx] at p
            intro H' Z' ι' l s' v rv
            obtain ⟨s2, l2, ht, hal⟩ := back s l s'.sub s'.tab
            cases rv with
            | loc ev =>
              rename_i a
              obtain ⟨z0, us, e1, r1⟩ := s'.cell 0 a (.lstF ys) ev rfl
              have hni : a ∉ ι := fun ha => by
                obtain ⟨o, eo⟩ := hal a ha
                rw [z0] at eo; cases eo
              have hz0 : zBut ι st Z' a = none := by
                unfold zBut
                split
                · rfl
                · exact z0
              have l3 : Le Z ι (zBut ι st Z') (ι ++ [a]) := ⟨l2.z, fun _ _ h => get_app h⟩
              have l4 : Le (zBut ι st Z') ι (zBut ι st Z') (ι ++ [a]) := ⟨Same.refl _, fun _ _ h => get_app h⟩
              refine p H' (zBut ι st Z') (ι ++ [a]) l3 ⟨s2.sub, by simp [s2.len], ?_, fun n b c h1 h2 => ?_, fun b hb => ?_, ⟨s2.tab.zt, fun b hb o e => by
                rcases List.mem_append.mp hb with hb | hb
                · exact s2.tab.ct b hb o e
                · simp at hb; subst hb; exact s'.tab.ct _ (List.mem_of_getElem? ev) o e, s2.tab.tb⟩⟩ (.ref a) (.loc (by rw [← s2.len]; simp))
              · rw [List.nodup_append]
                exact ⟨s2.nd, by simp, fun x hx y hy => by simp at hy; subst hy; exact fun e => hni (e ▸ hx)⟩
              · rcases get_app_cases h1 with h1 | ⟨rfl, rfl⟩
                · rcases get_app_cases h2 with h2 | ⟨rfl, rfl⟩
                  · have k := s2.cell n b c h1 h2
                    cases c with
                    | dead => trivial
                    | lstF xs => exact k
                    | lstW xs => obtain ⟨n, vs, e, r⟩ := k; exact ⟨n, vs, e, r.mono l4⟩
                    | dct xs => exact k
                    | dti xs => exact k
                    | ins c fs => obtain ⟨n, dx, fvs, e, hc, r⟩ := k; exact ⟨n, dx, fvs, e, hc, r.mono l4⟩
                  · have := (List.getElem?_eq_some_iff.mp h1).1
                    rw [s2.len] at this
                    exact absurd this (Nat.lt_irrefl _)
                · rw [s2.len] at h2
                  simp at h2
                  subst h2
                  exact ⟨hz0, us, e1, r1.flat ht hx⟩
              · rcases List.mem_append.mp hb with hb | hb
                · exact s2.there b hb
                · simp at hb; subst hb; exact ⟨_, e1⟩
          · rw [if_neg hx] at p; exact p.elim
        | 0, [], p => exact p.elim
        | 0, .dead :: _, p => exact p.elim
        | 0, .lstW _ :: _, p => exact p.elim
        | 0, .dct _ :: _, p => exact p.elim
        | 0, .dti _ :: _, p => exact p.elim
        | 0, .ins _ _ :: _, p => exact p.elim
        | 0, .lstF _ :: _ :: _, p => exact p.elim
        | _ + 1, _, p => exact p.elim
theorem thaw_app (st : Store) (xs : List F) : ∀ ws : List W, thaw st (ws ++ xs.map W.f) = (thaw st ws).map (· ++ xs)
  | [] => by
    show thaw st (xs.map W.f) = some ([] ++ xs)
    induction xs with
    | nil => rfl
    | cons x xs ih =>
      show (deepF 0 st 3 (.f x)).bind (fun y => (thaw st (xs.map W.f)).map (y :: ·)) = _
      rw [ih]
      rfl
  | u :: ws => by
    show (deepF 0 st 3 u).bind (fun y => (thaw st (ws ++ xs.map W.f)).map (y :: ·)) = ((deepF 0 st 3 u).bind fun y => (thaw st ws).map (y :: ·)).map (· ++ xs)
    rw [thaw_app st xs ws]
    cases deepF 0 st 3 u with
    | none => rfl
    | some y => cases thaw st ws <;> rfl
theorem Fn.bor {CX : CXT} {m : FnM} (F : Fn P w K mg base T CX k f m) : Fn P w K mg base T CX k f (bor m) := by
  obtain ⟨fd, ps, ds, dvs, dfs, m0, F0, b, v, r, e⟩ := F.ex
  refine ⟨⟨fd, ps, ds, dvs, dfs, VS.bor m0, F0.imp fun vs H Q E h => spM_bor h, b, v, r, ?_⟩, F.kp⟩
  funext ws st
  show borO m st (thaw st ws) = borO m0 st (thaw st (ws ++ dfs.map W.f))
  rw [thaw_app, e]
  cases thaw st ws with
  | none => rfl
  | some xs =>
    show borR st (m0 (xs.map W.f ++ dfs.map W.f) []) = borR st (m0 ((xs ++ dfs).map W.f) [])
    rw [List.map_append]
end
end VS

set_option Elab.async false
set_option linter.all false
set_option maxRecDepth 100000
set_option maxHeartbeats 4000000
set_option autoImplicit false
/-! WG: xs[::-1], xs.count(k), xs.insert(i, y), one of two readings. -/
namespace VS
open PySem PySem.Spec PyProof.Rows L2
section
variable {X : Cx} {T : Tab} {E : XK} {a b c e e2 o i value : Expr} {es : List Expr} {ta tb tc te te2 to ti tv : TEv} {tr : TAv} {pos pos' apos cpos p p2 : Pos}
/-! ### one of two readings -/
/-! ### xs[::-1] -/
/-! ### xs.count(k) -/
end
end VS

set_option Elab.async false
set_option linter.all false
set_option maxRecDepth 100000
set_option maxHeartbeats 4000000
set_option autoImplicit false
/-! WH: an attribute of a name as a target among others. -/
namespace VS
open PySem PySem.Spec PyProof.Rows L2
section
variable {X : Cx} {T : Tab} {E : XK} {o : Expr} {pos pos' : Pos}
def gFld (K : PySem.W.Frag) (ta : TE) (f : Str) : TG := fun v σ H Q => ta σ H fun x H1 => ∃ a C dx fs, x = .ref a ∧ H1 a = some (.ins C dx fs) ∧ Cls K C ∧ NoAttr K C f ∧ fs.length < 1000 ∧ Q σ (upd H1 a (.ins C dx (putF f v fs)))
theorem pg_fld {ta : TE} {f : Str} (ha : PE X o ta) : PG X (.Attribute o f pos') (gFld X.K ta f) := by
  refine ⟨fun pins s σ H v u Q I r h => ?_⟩
  refine PySem.W.kas_attr (thn (ha.run pins s σ H _ I h) fun ov s2 ⟨x, H2, I2, rx, a, C, dx, fs, ex, ea, c, n, l, q2⟩ => ?_)
  subst ex
  obtain rfl : ov = Value.ref a := rx
  exact setattr_ok I2 ea c n l r fun s3 I3 => ⟨σ, _, I3, q2⟩
def mAt (T : Tab) (i : Nat) (to : TEv) : TM := fun w env st => match to env st with
  | .ok o st1 => (setA T i w st1 o).map fun st2 => (env, st2)
  | _ => none
theorem vm_attr {i j : Nat} {x fn : Str} {p2 : Pos} (hT : TabOk X.K T) (hf : T.fn i = fn) (hN : X.N[j]? = some x) (hv : Vis X.env.scope x) (hd : (x == ("__debug__" : Str)) = false := by decide) (hcd : (x == ("__classdict__" : Str)) = false := by decide) :
    VM X T (.Attribute (.Name x p2) fn pos') (mAt T i (eVar j)) := by
  subst hf
  refine pg_weak (pg_fld (pe_var hN hv hd hcd)) fun v σ H Q h => ?_
  obtain ⟨Z, ι, env, st, w, env', st', s, re, rv, e, k⟩ := h
  unfold mAt eVar at e
  cases q : env[j]? with
  | none => rw [q] at e; cases e
  | some o =>
    cases o with
    | none => rw [q] at e; cases e
    | some u =>
      rw [q] at e
      obtain ⟨y, ey, ry⟩ := re.get j u q
      have e : (setA T i w st u).map (fun st2 => (env, st2)) = some (env', st') := e
      obtain ⟨st2, e2, e3⟩ := opt_map_some e
      cases e3
      obtain ⟨a, C, dx, fs, e1, e4, e5, e6, e7, s3⟩ := setA_ok hT s ry rv e2
      exact ⟨y, ey, a, C, dx, fs, e1, e4, e5, e6, e7, k σ _ s3 re⟩
end
end VS

set_option Elab.async false
set_option linter.all false
set_option maxRecDepth 100000
set_option maxHeartbeats 4000000
set_option autoImplicit false
/-! WI: a default that is the empty tuple. -/
namespace VS
open PySem PySem.Spec PyProof.Rows L2
end VS

set_option Elab.async false
set_option linter.all false
set_option maxRecDepth 100000
set_option maxHeartbeats 4000000
set_option autoImplicit false
/-! WJ: a list or a tuple, taken apart. -/
namespace VS
open PySem PySem.Spec PyProof.Rows L2
section
variable {X : Cx} {T : Tab} {e : Expr} {pos : Pos}
theorem vg_ls {es : List Expr} {k : Nat} {gs : TGsv} {n : Nat} (hc : X.calm = true) (h : VGs X T es gs) (hl : ∀ xs env env', gs xs env = some env' → xs.length = n)
    (hn : (assignEach es X.env).length = n := by rfl) (hst : (assignEach es X.env).findIdx? (·.1) = none := by rfl) : VG X T (.Tuple es k pos) (gLs gs) := pg_weak (pg_unl hc h hn hst) fun v σ H Q h => by
  obtain ⟨Z, ι, env, st, w, env', s, re, rv, e, k⟩ := h
  cases rv with
  | loc _ => cases e
  | f r =>
    cases r with
    | lst ht rs => exact ⟨_, _, rfl, SqL.of (s.sub _ _ ht), by rw [rs.length]; exact hl _ _ _ e, Z, ι, env, st, _, env', s, re, rs, e, k⟩
    | _ => cases e
end
end VS

set_option Elab.async false
set_option linter.all false
set_option maxRecDepth 100000
set_option maxHeartbeats 4000000
set_option autoImplicit false
/-! WK: dicts that change, dict comprehensions. -/
namespace VS
open PySem PySem.Spec PyProof.Rows L2
section
variable {X : Cx} {T : Tab} {E : XK} {a b c e o i value tg : Expr} {es : List Expr} {ta tb tc te to tk tv : TEv} {tr : TAv} {pos pos' apos cpos p p2 p3 : Pos} {ti : TIv} {g : TGv} {tt : TTv} {vs ss : List Nat}
variable {kx vx iter : Expr} {ifs : List Expr} {scope : Scope} {own : List (Str × Nat)} {tiv : TEv}
end
end VS

set_option Elab.async false
set_option linter.all false
set_option maxRecDepth 100000
set_option maxHeartbeats 1000000
set_option autoImplicit false
/-! XA: an own exception class whose __init__ begins with super().__init__(text). -/
namespace LX
open PySem PySem.Calls PySem.Spec PyProof.Rows L2 LamX NdefX PySem.W
/-- what K says of such a class: C its address, fI its __init__, cc the cell of __class__ -/
structure SupC (K : Frag) (prog : Program) (C fI cc : Addr) (G : NF) : Prop where
  ox : OexC K C
  fn : ∃ oc od doc pm ctv osl, K.lookup fI = some ⟨oc, od, .func (G.fd doc pm ctv), osl⟩
  code : codeIn K (.ref G.c) G.qual = true
  cfil : ∃ ccl cdd vs ccs file tf, K.lookup G.c = some ⟨ccl, cdd, .fields vs, ccs⟩ ∧ vs[2]? = some (.str file tf) ∧ ((prog.main.file : Str) == file) = true
  cl : G.cl = [(("__class__" : Str), cc)]
  cell : ∃ a b c, K.lookup cc = some ⟨a, b, .cell (some (.ref C)), c⟩
  own : mroIn K C (.ref C) = some true
  sup : ks_superIn K C C "__init__" = some (some (.builtin "ValueError.__init__"))
  opq : nsIn K cStatics "thirdparty.any" = some none
  isB : subIn K (.ref C) (.type "ValueError") = some true
  noS : nsIn K mainGlobals "super" = some none
section
variable {CX : CXT} {P : Program} {w : World} {K : Frag} {mg : Str → Option Value} {base : Heap} {C fI cc : Addr} {G : NF} {N pr : List Str} {k : Nat} {sp : Sp} {doc pm ctv oc : Value} {od : Option Addr} {osl : Array (Option Value)}
theorem exinit_ok {p0 p1 p2 p3 p4 p5 : Pos} {msg : Str} {j : Nat} {rest : List Stmt} {pl : Sem Bool} (D : SupC K P C fI cc G) (hfn : K.lookup fI = some ⟨oc, od, .func (G.fd doc pm ctv), osl⟩)
    (S : NScope N (("self" : Str) :: pr) ["__class__"] G.scope)
    (hbody : G.body = .Expr (.Call (.Attribute (.Call (.Name "super" p0) [] [] p1) "__init__" p2) [.Constant (.str msg) j p3] [] p4) p5 :: rest)
    (hpar : ∃ ar, (G.params.posonlyargs ++ G.params.args).head? = some ar ∧ ar.arg = "self")
    (hks : G.scope.names.lookup ("super" : Str) = some .globalImplicit)
    (htop : (P.main.scope.names.lookup ("super" : Str)).isSome = false)
    (hs : ∀ env, swapsWith (.Call (.Attribute (.Call (.Name "super" p0) [] [] p1) "__init__" p2) [.Constant (.str msg) j p3] [] p4) none p5.line env = pure false)
    (hi : ∀ L, interactive (envF G fI L) = false)
    (he : ∀ L, eval (.Call (.Attribute (.Call (.Name "super" p0) [] [] p1) "__init__" p2) [.Constant (.str msg) j p3] [] p4) (envF G fI L) = (do
      let ov ← attributeBase (.Call (.Name "super" p0) [] [] p1) "__init__" (envF G fI L) (eval (.Call (.Name "super" p0) [] [] p1) (envF G fI L))
      standAt p2.atName
      let (f, first) ← holding [ov] (getMethod ov "__init__" pl)
      callWith p4 f first (backTo p4 (starEach [.Constant (.str msg) j p3] (envF G fI L))) []))
    (hsp : ∀ vs H Q E, sp vs H Q E → vs.length = pr.length + 1 ∧ ∃ a r, vs = .ref a :: r ∧ H a = some (exo a C none))
    (hrest : ∀ (A : Around) (outer : List Env) (s : Shared) (H : Hp) (vs : List V) (Q : VK) (E : XK), Room k (A.deeper (envF G fI s.heap.objs.size)) → sp vs H Q E →
      ∃ t, PSs (ncx CX P w K mg base N G fI A outer s H E) rest t ∧ t { nx := fun _ H' => Q .non H', rt := Q } (startF N vs [none]) H) :
    FnOk P w K mg base CX (k + 1) fI (G.fd doc pm ctv) (("self" : Str) :: pr) sp := by
  refine ⟨fun vs H Q E h => (hsp _ _ _ _ h).1, fun A outer s H args us vs Q E hr e0 hb r h => ?_⟩
  obtain ⟨hl, a, rv, ev, ea⟩ := hsp _ _ _ _ h
  have hl : vs.length = (("self" : Str) :: pr).length := hl
  obtain ⟨nm, q, Nn, bs, bm, sn, sub, ab, col, dd, k0, k1, k2, k3, k5, hC, hbm⟩ := D.ox.cls
  obtain ⟨ccl, cdd, cvs, ccs, file, tf, hcc, hvs, hfile⟩ := D.cfil
  obtain ⟨ca, cb, cs, hcell⟩ := D.cell
  obtain ⟨ar, har, har2⟩ := hpar
  have kb : ∀ b o, base.get? b = some o → s.heap.get? b = some o := fun b o e => (e0.bs b o e).1
  have KX : K.In s.heap := e0.mod.kin.keeps kb
  have lim : s.heap.NoLimit := e0.mod.nolimit.keeps kb
  have C0 : CellsAt G.cl ["__class__"] [none] s.heap H := by
    rw [D.cl]
    have only : ∀ y c, ([("__class__", cc)] : List (Str × Addr)).lookup y = some c → y = "__class__" ∧ c = cc := fun y c e => by
      have := PySem.mem_of_lookup e
      simp at this
      exact this
    refine ⟨rfl, fun y c e => ?_, fun x y c e1 e2 => ?_, fun i y e => ?_⟩
    · obtain ⟨rfl, rfl⟩ := only y c e
      exact ⟨(e0.bs _ _ (e0.mod.kin _ _ hcell)).2, _, _, KX _ _ hcell, rfl⟩
    · rw [(only x c e1).1, (only y c e2).1]
    · cases i with
      | zero =>
        simp at e
        subst e
        exact ⟨cc, rfl, fun v e => by simp at e⟩
      | succ i => simp at e
  have hu : ∃ ur, us = .ref a :: ur := by
    rw [ev] at r
    cases r with
    | cons r1 r2 => exact ⟨_, congrArg (· :: _) (show _ = Value.ref a from r1)⟩
  obtain ⟨ur, rfl⟩ := hu
  obtain ⟨hp, g, d, tk, os⟩ := s
  refine ks_codeAny_call_defAt (fd := G.fd doc pm ctv) (body := G.body) (binds := (("self" : Str) :: pr).zip (Value.ref a :: ur)) hr.depth (KX _ _ hfn) rfl lim (codeRec_of KX D.code) rfl hb S.nocell (fun ⟨n, _⟩ hy => S.par n (List.of_mem_zip hy).1) (fun h₁ hns kp => ?_) S.co S.gen S.kind
  have I : Inv (ncx CX P w K mg base N G fI A outer ⟨hp, g, d, tk, os⟩ H E) [] (startF N vs [none]) H ⟨h₁, g, d, tk + ((("self" : Str) :: pr).zip (Value.ref a :: ur)).length, os⟩ := inv_startN S hr.hd e0 hl r C0 hns kp
  show _root_.PySem.wpAt (model P w) (A.deeper (envF G fI hp.objs.size)) (.func G.body (envF G fI hp.objs.size)) (execs G.body (envF G fI hp.objs.size)) _ _ ⟨h₁, g, d, tk + ((("self" : Str) :: pr).zip (Value.ref a :: ur)).length, os⟩
  obtain ⟨t, ht, hq⟩ := hrest A outer ⟨hp, g, d, tk, os⟩ H vs Q E (hr.deeper _) h
  have X1 : K.In h₁ := KX.keeps kp
  have kb1 : ∀ b o, base.get? b = some o → h₁.get? b = some o := fun b o e => kp b o (kb b o e)
  obtain ⟨mb, hmb, hmb2⟩ := e0.mod.blt
  have hmg : mg "super" = none := mg_none_of X1 (e0.mod.glob.keeps kb1) D.noS
  have hcl : clsIn K C = some { name := nm, bases := bs, mro := .ref C :: bm, ns := Nn, qualname := q, hasDict := true, slotNames := sn, subclasses := sub, abstract := ab, collection := col, hasDel := false } := by unfold PySem.W.clsIn; rw [hC] <;> rfl
  obtain ⟨t1, hea⟩ := exo_at I.hok ea
  have ndP : ((("self" : Str) :: pr)).Nodup := by
    have := S.nd.sublist (List.take_sublist ((("self" : Str) :: pr).length + ([("__class__" : Str)]).length) N)
    rw [S.pre] at this
    exact (List.nodup_append.mp this).1
  rw [hbody]
  refine ks_wpAt_execs_cons (ks_wpAt_Expr_any (hi := hi _) (hs := hs _) (ks_wpAt_MethodCall (pl := pl) (he := he _) ?_))
  refine ks_wpAt_super_base (f := fI) (cc := G.c) (ar := ar) hks (S.frk "__class__" (by simp)) (by decide) rfl (X1 _ _ hfn) rfl har rfl (X1 _ _ hcc) rfl hvs hfile htop ?_
  refine ks_loadName_global S.kind hks (loadGlobal_builtin (env := envF G fI hp.objs.size) (e0.mod.glob.keeps kb1) hmg (hmb.keeps kb1) ((hmb2 _ (by decide +kernel)).trans (show bootBuiltins "super" = some (.type "super") from by first | rfl | decide +kernel)) ⟨rfl, ?_⟩)
  refine wpAny_loadName_free S.kind (S.frk "__class__" (by simp)) (by show G.cl.lookup ("__class__" : Str) = some cc; rw [D.cl]; rfl) ⟨_, X1 _ _ hcell, rfl⟩ ?_
  rw [har2]
  refine wpAny_loadName_local S.kind (S.par "self" (by simp)) hns (v := .ref a) (zip_look (ps := ("self" : Str) :: pr) (i := 0) ndP rfl rfl) ?_
  refine ks_wpAny_isType_cls (X1 _ _ hC) rfl ⟨rfl, ?_⟩
  have hX : InstAt h₁ a ({ cls := .ref C, dict := none, data := .fields #[.ref t1, .none, .none, .none, .bool false, .none] } : Obj) C none := ⟨hea, rfl, rfl, trivial⟩
  refine ks_wpAny_call_super (X1 _ _ hC) rfl hea rfl (fun c e => by cases e) (looks_mroIn X1 D.own) fun h2 e2 kp2 => ?_
  have I2 := I.kept (t' := tk + ((("self" : Str) :: pr).zip (Value.ref a :: ur)).length) kp2
  have X2 : K.In h2 := X1.keeps kp2
  have hm := D.sup
  unfold ks_superIn at hm
  rw [hcl] at hm
  have hI : Looks (model P w) h2 (isInstance (.ref a) (.type "ValueError")) true := (show InstAt h2 a _ C none from ⟨kp2 _ _ hea, rfl, rfl, trivial⟩).type.andThen (looks_subIn X2 D.isB)
  refine kxs_getMethod kxs_ValueError e2 (looks_opaque X2 D.opq) (l₀ := .ref C :: bm) (fun A Q E s k q => wpAny_bind ((looks_clsIn X2 hcl) A _ E s k (wpAny_pure q))) rfl X2 hm hI (ks_ne X1 hX hcl) (by decide) ?_
  have kp3 : ∀ b o, h2.get? b = some o → (h2.push (kxs_mw "ValueError.__init__" a)).get? b = some o := fun b o e => Heap.get?_push_of_some _ e
  have I3 := I2.kept (t' := tk + ((("self" : Str) :: pr).zip (Value.ref a :: ur)).length + 1) kp3
  have hmw : (h2.push (kxs_mw "ValueError.__init__" a)).get? h2.objs.size = some (kxs_mw "ValueError.__init__" a) := Heap.get?_push_size h2 rfl
  generalize (h2.push (kxs_mw "ValueError.__init__" a)) = h3 at *
  refine kxs_callWith (i := "ValueError.__init__") (x := a) rfl ?_
  show wpAny _ _ (evalArgs (.ref h2.objs.size) true [(false, eval (.Constant (.str msg) j p3) (envF G fI hp.objs.size))] []) _ _ _
  refine evalArgs_plain (spliced_cons (wpAny_Constant_str (spliced_nil ⟨hmw, ?_⟩)))
  have X3 : K.In h3 := X2.keeps kp3
  obtain ⟨t2, he3⟩ := exo_at I3.hok ea
  have eu : upd H a (exo a C none) = H := by
    funext b
    by_cases hb : b = a
    · rw [hb, upd_same, ea]
    · rw [upd_ne hb]
  refine wpAny_call (codeAny_of_tree ?_)
  show wpAny _ _ (callAny (.ref h2.objs.size) ⟨[.str msg _], []⟩) _ _ _
  simp only [callAny]
  refine wpAny_bind (wpAny_load hmw ?_)
  simp only [kxs_mw, show (Value.type "method-wrapper" == Value.type "method" || Value.type "method-wrapper" == Value.type "builtin_function_or_method" || Value.type "method-wrapper" == Value.type "method-wrapper") = true by decide, if_true]
  refine KFB.if_so (by decide) ?_
  refine wpAny_bind (check_bound_init PySem.F.excBase_ValueError.toExcCallFacts (X3 _ _ hC) he3 rfl ?_)
  refine wpAny_bind (wpAny_pure (wpAny_pure ?_))
  refine ⟨plainId_quiet PySem.F.excBase_ValueError.init.plain _, codeAny_builtin PySem.F.excBase_ValueError.initEntry ?_⟩
  refine exc_init_tree (cls := .ref C) (t0 := t2) (dv := none) (c2 := .none) (c3 := .none) (b4 := .bool false) he3 (show (1 : Nat) ≤ sizeLine by rw [sizeLine_eq]; decide) fun h4 kp4 he4 ht4 => ?_
  have J := I3.write (t' := tk + (((("self" : Str) :: pr)).zip (Value.ref a :: ur)).length + 1 + 1) (x := a) (e := a) (o := exo a C none) (by rw [ea]; exact True.intro) (.inl rfl) kp4 ⟨_, he4⟩ (exo_ok he4)
  rw [eu] at J
  show _root_.PySem.wpAt (model P w) (A.deeper (envF G fI hp.objs.size)) _ (execs rest (envF G fI hp.objs.size)) _ _ _
  refine wpAt_of_wpAny (wpAny_mono (ht.run [] _ (startF N vs [none]) H _ J hq) (fun fl s' hs => ?_) fun e s' hs => hs)
  have fin : ∀ {σ' : L2.St} {H' : Hp} {v : V} {u : Value}, Inv (ncx CX P w K mg base N G fI A outer ⟨hp, g, d, tk, os⟩ H E) [] σ' H' s' → L2.RelV v u → Q v H' → CE outer P w H ⟨hp, g, d, tk, os⟩ Q u s' :=
    fun {σ' H' v u} J rv q => ⟨v, H', J.os, J.bare, J.base, J.hok, rv, q⟩
  cases fl with
  | ret u =>
    obtain ⟨v, σ', H', J, rv, q⟩ := hs
    exact fin J rv q
  | next =>
    obtain ⟨σ', H', J, q⟩ := hs
    exact fin (v := V.non) (u := Value.none) J rfl q
  | brk =>
    obtain ⟨_, _, _, q⟩ := hs
    exact False.elim q
  | cont =>
    obtain ⟨_, _, _, q⟩ := hs
    exact False.elim q
end
end LX

set_option Elab.async false
set_option linter.all false
set_option maxRecDepth 100000
set_option maxHeartbeats 1000000
set_option autoImplicit false
/-! XB: raise C(e), C an own exception class with one field. -/
namespace LX
open PySem PySem.Calls PySem.Spec PyProof.Rows L2 LamX NdefX PySem.W
/-- __init__(self, x): super().__init__(text); self.f = x -/
def sp1 (C : Addr) (f : Str) : Sp := fun vs H Q _ => ∃ (a : Addr) (y : V), vs = [.ref a, y] ∧ H a = some (exo a C none) ∧ ∀ dx, H dx = none → dx ≠ a → Q .non (upd (upd H dx (exd dx [(f, y)])) a (exo a C (some dx)))
section
variable {CX : CXT} {P : Program} {w : World} {K : Frag} {mg : Str → Option Value} {base : Heap} {C fI cc : Addr} {G : NF} {N : List Str} {k : Nat} {doc pm ctv oc : Value} {od : Option Addr} {osl : Array (Option Value)} {pn f : Str}
theorem exinit1 {p0 p1 p2 p3 p4 p5 q1 q2 q3 q4 : Pos} {msg : Str} {j : Nat} {pl : Sem Bool} (D : SupC K P C fI cc G) (hfn : K.lookup fI = some ⟨oc, od, .func (G.fd doc pm ctv), osl⟩)
    (S : NScope N [("self" : Str), pn] ["__class__"] G.scope)
    (hbody : G.body = [.Expr (.Call (.Attribute (.Call (.Name "super" p0) [] [] p1) "__init__" p2) [.Constant (.str msg) j p3] [] p4) p5, .Assign [.Attribute (.Name "self" q1) f q2] (.Name pn q3) q4])
    (hpar : ∃ ar, (G.params.posonlyargs ++ G.params.args).head? = some ar ∧ ar.arg = "self")
    (hks : G.scope.names.lookup ("super" : Str) = some .globalImplicit)
    (htop : (P.main.scope.names.lookup ("super" : Str)).isSome = false)
    (hs : ∀ env, swapsWith (.Call (.Attribute (.Call (.Name "super" p0) [] [] p1) "__init__" p2) [.Constant (.str msg) j p3] [] p4) none p5.line env = pure false)
    (hs2 : ∀ env, swapsWith (.Name pn q3) (some (.Attribute (.Name "self" q1) f q2)) q4.line env = pure false)
    (hi : ∀ L, interactive (envF G fI L) = false)
    (he : ∀ L, eval (.Call (.Attribute (.Call (.Name "super" p0) [] [] p1) "__init__" p2) [.Constant (.str msg) j p3] [] p4) (envF G fI L) = (do
      let ov ← attributeBase (.Call (.Name "super" p0) [] [] p1) "__init__" (envF G fI L) (eval (.Call (.Name "super" p0) [] [] p1) (envF G fI L))
      standAt p2.atName
      let (f, first) ← holding [ov] (getMethod ov "__init__" pl)
      callWith p4 f first (backTo p4 (starEach [.Constant (.str msg) j p3] (envF G fI L))) []))
    (hN0 : N[0]? = some ("self" : Str)) (hN1 : N[1]? = some pn) (hno : findIn K (.ref C) f = some none)
    (hd1 : (pn == ("__debug__" : Str)) = false) (hd2 : (pn == ("__classdict__" : Str)) = false) :
    FnOk P w K mg base CX (k + 1) fI (G.fd doc pm ctv) [("self" : Str), pn] (sp1 C f) := by
  refine exinit_ok (pr := [pn]) (rest := [.Assign [.Attribute (.Name "self" q1) f q2] (.Name pn q3) q4]) D hfn S hbody hpar hks htop hs hi he (fun vs H Q E h => ?_) fun A outer s H vs Q E hr h => ?_
  · obtain ⟨a, y, rfl, e, _⟩ := h
    exact ⟨rfl, a, [y], rfl, e⟩
  · obtain ⟨a, y, rfl, e, q⟩ := h
    refine ⟨_, pss_one (ps_ost (pe_var (i := 0) hN0 (.inl (S.par _ (by simp)))) (pe_var (i := 1) hN1 (.inl (S.par _ (by simp))) hd1 hd2) (hs2 _)), ?_⟩
    exact ⟨y, rfl, .ref a, rfl, a, C, rfl, D.ox, hno, .inl ⟨e, fun dx hx ne => q dx hx ne⟩⟩
end
end LX
namespace VS
open PySem PySem.Spec PyProof.Rows L2 LX
/-- raise c(e) : the field i is e -/
def sRaise (c i : Nat) (te : TEv) : TSv := fun env st => (te env st).thenS fun w st1 => match w with
  | .f v => .exc c [(i, v)] st1
  | .loc _ => .stuck
section
variable {X : Cx} {T : Tab} {E : XK} {e : Expr} {te : TEv} {W : WX} {CX : CXT} {x : Str} {k c i : Nat} {fI : Addr} {fd : FuncData} {ps : List Str} {p pos pos' : Pos}
theorem SimS.xd {K : PySem.W.Frag} {Z H : Hp} {ι : List Addr} {st : Store} {d : Addr} {fs : List (Str × V)} (s : SimS K T Z ι st H) (hd : H d = none) : SimS K T Z ι st (upd H d (.xd fs)) :=
  s.grow ⟨Same.refl Z, same_new hd, s.sub.trans (same_new hd), fun _ _ _ => rfl, fun _ _ e => e⟩
theorem vs_raise (hc : X.calm = true) (tk : Takes X W) (hW : ∀ cls d σ H, E cls d H → W cls d σ H) (T1 : OexC X.K (T.ca X.K c)) (iC : PySem.W.findIn X.K (.ref (T.ca X.K c)) "__init__" = some (some (.ref fI))) (tI : PySem.W.typeIn X.K (.ref fI) = some (.type "function"))
    (F1 : FnOk X.prog X.w X.K X.mg X.base L2.CX0 k fI fd ps (sp1 (T.ca X.K c) (T.fn i))) (hr : Room (k + 1) X.A) (hb : Binds X.K fd ps []) (hg : Gl X x) (hm : X.mg x = some (.ref (T.ca X.K c))) (he : VE X T E e te)
    (hdb : (x == ("__debug__" : Str)) = false := by decide) (hse : starEach [e] X.env = (false, eval e X.env) :: starEach [] X.env := by rfl) :
    VS X T E (.Raise (some (.Call (.Name x p) [e] [] pos)) none pos') (sRaise c i te) := by
  refine ps_weak (ps_raise hc tk (pmk_oex T1 iC tI F1 hr hb .nil (fun _ _ _ _ _ _ _ h => h.elim) hg hm (va_cons he va_nil hse) hdb hse rfl)) fun D σ H h => ?_
  obtain ⟨Z, ι, env, st, s, re, p⟩ := h
  unfold sRaise at p
  refine ⟨Z, ι, env, st, s, re, ?_⟩
  unfold aCons
  cases q : te env st with
  | stuck => rw [q] at p; exact p.elim
  | exc c' fs st' =>
    rw [q] at p
    exact p
  | ok w st1 =>
    rw [q] at p
    simp only [Res.bind, aNil]
    intro H1 Z1 ι1 l1 s1 vs rvs
    cases rvs with
    | cons r1 r2 =>
      cases r2 with
      | nil =>
        cases r1 with
        | loc r1 => exact p.elim
        | f r1 =>
          rename_i v x
          have p : PX X.K T E Z ι c [(i, x)] st1 := p
          refine ⟨by simp, fun a ha => ⟨a, v, by simp, upd_same, fun dx hdx ne => ?_⟩⟩
          have hd : H1 dx = none := by rw [upd_ne ne] at hdx; exact hdx
          have e1 : upd (del (upd (upd (upd H1 a (exo a (T.ca X.K c) none)) dx (exd dx [(T.fn i, v)])) a (exo a (T.ca X.K c) (some dx))) a) dx (.xd [(T.fn i, v)]) = upd H1 dx (.xd [(T.fn i, v)]) := by
            funext b
            by_cases hb : b = dx
            · rw [hb, upd_same, upd_same]
            · rw [upd_ne hb, upd_ne hb]
              by_cases hba : b = a
              · rw [hba, del_same, ha]
              · rw [del_ne hba, upd_ne hba, upd_ne hb, upd_ne hba]
          refine ⟨rfl, dx, [(T.fn i, v)], upd_same, by rw [upd_ne ne, upd_same], hd, ?_⟩
          rw [e1]
          refine hW _ _ _ _ (p _ Z1 ι1 (some dx) l1 (s1.xd hd) ⟨_, upd_same, fun i' x' hm => ?_⟩)
          simp only [List.mem_singleton, Prod.mk.injEq] at hm
          obtain ⟨rfl, rfl⟩ := hm
          exact ⟨v, by simp [List.lookup], r1⟩
end
end VS

set_option Elab.async false
set_option linter.all false
set_option maxRecDepth 100000
set_option maxHeartbeats 1000000
set_option autoImplicit false
/-! XC: several clauses 'except X as e' of which one catches all that comes; the def that calls what it got. -/
namespace LX
open PySem PySem.Calls PySem.Spec PyProof.Rows L2 LamX NdefX
/-- what the clauses wish: one of them fits -/
def wAll (K : PySem.W.Frag) (D : Ends) : List (Value × (Addr → Value → Option Addr → TS)) → WX
  | [] => fun _ _ _ _ => False
  | (c, ts) :: r => fun cls d σ H => ∃ b, PySem.W.exmOne K cls c = some b ∧ (b = true → ∀ a, H a = none → ts a cls d D σ H) ∧ (b = false → wAll K D r cls d σ H)
/-- a clause with a name at i: the name goes behind it -/
def tAs (i : Nat) (ts : Addr → Value → Option Addr → TS) : Addr → Value → Option Addr → TS := fun a cls d D σ H =>
  ts a cls d { nx := fun σ' H' => D.nx (σ'.set i none) H', rt := D.rt, bk := fun σ' H' => D.bk (σ'.set i none) H', ct := fun σ' H' => D.ct (σ'.set i none) H' } (σ.set i (some (.ref a))) H
inductive HdsA (X : Cx) : List ExceptHandler → List (Value × (Addr → Value → Option Addr → TS)) → Prop
  | nil : HdsA X [] []
  | as_ {x n : Str} {i : Nat} {c : Value} {ts : Addr → Value → Option Addr → TS} {b₀ : Stmt} {suite : List Stmt} {np pos' : Pos} {hds : List ExceptHandler} {l : List (Value × (Addr → Value → Option Addr → TS))} (hN : X.N.Nodup) (hi : X.N[i]? = some n) (hln : X.env.kindOf n = some .local) (hc : Names X x c)
      (hsu : ∀ (a : Addr) (oe : Obj) (cls : Value) (d : Option Addr) (pn : List (Addr × Obj)), Zc cls d oe → (∃ vs, oe.data = .fields vs) → PSs (X.suite a ((a, oe) :: pn)) (b₀ :: suite) (ts a cls d)) (r : HdsA X hds l) :
      HdsA X (.ExceptHandler (some (.Name x np)) (some n) (b₀ :: suite) pos' :: hds) ((c, tAs i ts) :: l)
  | plain {x : Str} {c : Value} {ts : Addr → Value → Option Addr → TS} {b₀ : Stmt} {suite : List Stmt} {np pos' : Pos} {hds : List ExceptHandler} {l : List (Value × (Addr → Value → Option Addr → TS))} (hc : Names X x c)
      (hsu : ∀ (a : Addr) (oe : Obj) (cls : Value) (d : Option Addr) (pn : List (Addr × Obj)), Zc cls d oe → (∃ vs, oe.data = .fields vs) → PSs (X.suite a ((a, oe) :: pn)) (b₀ :: suite) (ts a cls d)) (r : HdsA X hds l) :
      HdsA X (.ExceptHandler (some (.Name x np)) none (b₀ :: suite) pos' :: hds) ((c, ts) :: l)
section
variable {X : Cx} {body : List Stmt} {h₀ : ExceptHandler} {hds : List ExceptHandler} {l : List (Value × (Addr → Value → Option Addr → TS))} {pos : Pos} {tb : WX → TS}
theorem ps_try_all (hs : X.stack = X.env :: X.outer) (hf : X.env.frame = some X.env.locals)
    (hb : ∀ (W : WX) (pn : List (Addr × Obj)) (xe : Value → Shared → Prop), Takes (X.tr pn xe) W → PassesOwn (model X.prog X.w) X.A X.env xe → PSs (X.tr pn xe) body (tb W))
    (hh : HdsA X (h₀ :: hds) l) : PS X (.Try body (h₀ :: hds) [] [] pos) (fun D σ H => tb (wAll X.K D l) D σ H) := by
  refine ⟨fun pins s σ H D I h => ?_⟩
  have ok := I.ok
  have hfr : X.A.frames = some (X.env :: X.outer) := by rw [ok.frames, hs]
  refine wpAny_Try_except ?_
  refine wpAny_mono ((hb (wAll X.K D l) (X.pn ++ pins) (fun e s₁ => wpAny (model X.prog X.w) X.A (noteFrame e X.env) (fun _ s₂ => wpAny (model X.prog X.w) X.A (setFlight e none) (fun _ s₃ =>
    wpAny (model X.prog X.w) X.A (handleBy e X.env (h₀ :: hds)) (SP X pins D) X.xe s₃) X.xe s₂) X.xe s₁) (fun u s' xx => ?_) PassesOwn.looking).run [] s σ H D (I.toTry _) h) (fun f s1 hsp => ?_) (fun e s1 he => he)
  · obtain ⟨a, B, sI, pins', σ', H', cls, d, rfl, J', nb, up, sky, na, os, ag, w⟩ := xx
    have J : Inv X pins σ' H' sI := J'.ofTry ok
    have sky' : Sky B (X.env :: X.outer) a (Zc cls d) X.env.locals s'.heap := by rw [← hs]; exact sky
    show wpAny (model X.prog X.w) X.A (noteFrame (.ref a) X.env) _ _ _
    refine Sky.land Zc.steady hfr hf sky' fun h3 fl3 up3 => ?_
    have J3 : Inv X pins σ' H' { s' with heap := h3 } := J.landed nb fl3.1 (up.trans up3) os ag
    obtain ⟨oe3, vs3, he3, hz3, hd3⟩ := fl3.there
    have nfr : a ∉ frs (X.env :: X.outer) := fun hm => by
      obtain ⟨_, o', e', hnf⟩ := fl3.2.2.1.mem hm
      rw [he3] at e'; cases e'
      exact hnf _ hd3
    have nL : a ≠ X.env.locals := fun z => nfr (List.mem_filterMap.mpr ⟨X.env, List.mem_cons_self, by rw [hf, z]⟩)
    have nF : a ∉ X.fs := fun hm => by
      obtain ⟨e, he, q⟩ := List.mem_filterMap.mp hm
      exact nfr (List.mem_filterMap.mpr ⟨e, List.mem_cons_of_mem _ he, q⟩)
    have S3 := J3.suite he3 hd3 na nL nF
    have LT : PySem.W.Looks (model X.prog X.w) h3 (typeOf (.ref a)) cls := fun A Q E s k q => wpAny_typeOf_ref (k _ _ he3) (by rw [hz3.1]; exact q)
    have test : ∀ {x : Str} {c : Value} {np : Pos} {Q : Value → Shared → Prop} {E : Value → Shared → Prop}, Names X x c → Q c { s' with heap := h3 } → wpAny (model X.prog X.w) (X.A.mark (some (.ref a))) (eval (.Name x np) X.env) Q E { s' with heap := h3 } := fun {x c np Q E} hc q => by
      obtain ⟨hg, hdbg, hm | ⟨hm, hv, hnn⟩⟩ := hc
      · exact ld_glob (X := X.suite a ((a, oe3) :: (X.pn ++ pins))) S3 hg hm q hdbg
      · exact ld_blt (X := X.suite a ((a, oe3) :: (X.pn ++ pins))) S3 hg hm hv q hnn hdbg
    have go : ∀ {hds' : List ExceptHandler} {l' : List (Value × (Addr → Value → Option Addr → TS))}, HdsA X hds' l' → wAll X.K D l' cls d σ' H' →
        wpAny (model X.prog X.w) X.A (handleBy (.ref a) X.env hds') (SP X pins D) X.xe { s' with heap := h3 } := by
      intro hds' l' hk
      induction hk with
      | nil => intro w; exact False.elim w
      | @as_ x n i c ts b₀ suite np pos' hds2 l2 hN hi hln hc hsu r ih =>
        intro w
        obtain ⟨b, hb1, hyes, hno⟩ := w
        have LM := PySem.W.exm_one (M := model X.prog X.w) (J3.kIn) LT hb1
        refine wpAny_handleBy_cons (codeAny_handlers_test ?_) (by intro q; cases q)
        refine test hc (LM.here ?_)
        cases b with
        | true =>
          refine codeAny_handlers_suite_as ?_
          refine HandSPX.lands_againZ fl3 fun h4 fl4 up4 => ?_
          have J4 : Inv X pins σ' H' { s' with heap := h4 } := J.landed nb fl4.1 ((up.trans up3).trans up4) os ag
          obtain ⟨oe4, vs4, he4, hz4, hd4⟩ := fl4.there
          have S4 := J4.suite he4 hd4 na nL nF
          refine store_ok (X := X.suite a ((a, oe4) :: (X.pn ++ pins))) (v := .ref a) S4 hN hi (.inl hln) rfl (fun s5 S5 => ?_) (.inr hln)
          refine wpAny_mono ((hsu a oe4 cls d (X.pn ++ pins) hz4 ⟨_, hd4⟩).run [] s5 _ H' _ S5 (hyes rfl a na)) (fun f s6 hsp => ?_) (fun _ _ z => False.elim z)
          have end_ : ∀ {σ6 : L2.St} {H6 : Hp} {Q : Shared → Prop}, Inv (X.suite a ((a, oe4) :: (X.pn ++ pins))) [] σ6 H6 s6 → (∀ s7, Inv X pins (σ6.set i none) H6 s7 → Q s7) →
              wpAny (model X.prog X.w) X.A (do bindName X.env n .none; unbindBehindTheSuite X.env n pos') (fun _ s7 => Q s7) X.xe s6 := fun {σ6 H6 Q} S6 hq => gone_ok (S6.unsuite ok) hN hi hln hq
          cases f with
          | next => obtain ⟨σ6, H6, S6, q6⟩ := hsp; exact end_ S6 fun s7 J7 => ⟨_, _, J7, q6⟩
          | brk => obtain ⟨σ6, H6, S6, q6⟩ := hsp; exact end_ S6 fun s7 J7 => ⟨_, _, J7, q6⟩
          | cont => obtain ⟨σ6, H6, S6, q6⟩ := hsp; exact end_ S6 fun s7 J7 => ⟨_, _, J7, q6⟩
          | ret u => obtain ⟨v6, σ6, H6, S6, r6, q6⟩ := hsp; exact end_ S6 fun s7 J7 => ⟨_, _, _, J7, r6, q6⟩
        | false => exact ih (hno rfl)
      | @plain x c ts b₀ suite np pos' hds2 l2 hc hsu r ih =>
        intro w
        obtain ⟨b, hb1, hyes, hno⟩ := w
        have LM := PySem.W.exm_one (M := model X.prog X.w) (J3.kIn) LT hb1
        refine wpAny_handleBy_cons (codeAny_handlers_test ?_) (by intro q; cases q)
        refine test hc (LM.here ?_)
        cases b with
        | true =>
          refine codeAny_handlers_suite ?_
          refine HandSPX.lands_againZ fl3 fun h4 fl4 up4 => ?_
          have J4 : Inv X pins σ' H' { s' with heap := h4 } := J.landed nb fl4.1 ((up.trans up3).trans up4) os ag
          obtain ⟨oe4, vs4, he4, hz4, hd4⟩ := fl4.there
          have S4 := J4.suite he4 hd4 na nL nF
          refine wpAny_mono ((hsu a oe4 cls d (X.pn ++ pins) hz4 ⟨_, hd4⟩).run [] _ _ H' _ S4 (hyes rfl a na)) (fun f s6 hsp => ?_) (fun _ _ z => False.elim z)
          cases f with
          | next => obtain ⟨σ6, H6, S6, q6⟩ := hsp; exact ⟨_, _, S6.unsuite ok, q6⟩
          | brk => obtain ⟨σ6, H6, S6, q6⟩ := hsp; exact ⟨_, _, S6.unsuite ok, q6⟩
          | cont => obtain ⟨σ6, H6, S6, q6⟩ := hsp; exact ⟨_, _, S6.unsuite ok, q6⟩
          | ret u => obtain ⟨v6, σ6, H6, S6, r6, q6⟩ := hsp; exact ⟨_, _, _, S6.unsuite ok, r6, q6⟩
        | false => exact ih (hno rfl)
    exact go hh w
  · cases f with
    | next => obtain ⟨σ', H', J', q⟩ := hsp; exact wpAny_execs_nil ⟨σ', H', J'.ofTry ok, q⟩
    | brk => obtain ⟨σ', H', J', q⟩ := hsp; exact ⟨σ', H', J'.ofTry ok, q⟩
    | cont => obtain ⟨σ', H', J', q⟩ := hsp; exact ⟨σ', H', J'.ofTry ok, q⟩
    | ret u => obtain ⟨v, σ', H', J', r, q⟩ := hsp; exact ⟨v, σ', H', J'.ofTry ok, r, q⟩
end

theorem takes_len {X : Cx} {W : WX} (tk : Takes X W) : Takes X (fun cls d σ H => σ.length = X.N.length → W cls d σ H) := fun u s' ⟨a, B, sI, pins, σ, H, cls, d, e, I, nb, up, sky, na, os, ag, w⟩ =>
  tk u s' ⟨a, B, sI, pins, σ, H, cls, d, e, I, nb, up, sky, na, os, ag, w I.len⟩
inductive TriH (K : PySem.W.Frag) (mg : Str → Option Value) (sg : Scope) (fd e : Str) : List ExceptHandler → List (Addr × Str × Str) → Prop
  | nil : TriH K mg sg fd e [] []
  | cons {x tag f : Str} {C : Addr} {np p1 p2 p3 p4 p5 p6 pos : Pos} {j k : Nat} {hds : List ExceptHandler} {r : List (Addr × Str × Str)} (hg : sg.names.lookup x = some .globalImplicit) (hd : (x == ("__debug__" : Str)) = false) (hm : mg x = some (.ref C)) (xf : XfC K C) (hno : PySem.W.findIn K (.ref C) f = some none)
      (hx : (f == ("__class__" : Str)) = false) (t : TriH K mg sg fd e hds r) :
      TriH K mg sg fd e (.ExceptHandler (some (.Name x np)) (some e) [.Assign [.Name fd p1] (.Tuple [.Constant (.str tag) j p2, .Attribute (.Name e p3) f p4] k p5) p6] pos :: hds) ((C, tag, f) :: r)
section
variable {X : Cx} {x a fd e q : Str} {sg : Scope} {g : Addr} {cdg : Value} {hds : List ExceptHandler} {hl : List (Addr × Str × Str)} {p1 p2 p3 p4 p5 p6 p7 p8 p9 : Pos} {j : Nat}
end
end LX

set_option Elab.async false
set_option linter.all false
set_option maxRecDepth 100000
set_option maxHeartbeats 1000000
set_option autoImplicit false
/-! XD: f(lambda: e) over plain data, where f tells what is refused. -/
namespace VS
open PySem PySem.Spec PyProof.Rows L2 LamX LX
/-- exception classes that are apart -/
def ExmOk (K : PySem.W.Frag) (T : Tab) (xs : List Nat) : Prop := ∀ c ∈ xs, ∀ c' ∈ xs, PySem.W.exmOne K (.ref (T.ca K c)) (.ref (T.ca K c')) = some (decide (c = c'))
def exmB (K : PySem.W.Frag) (T : Tab) (xs : List Nat) : Bool := xs.all fun c => xs.all fun c' => decide (PySem.W.exmOne K (.ref (T.ca K c)) (.ref (T.ca K c')) = some (decide (c = c')))
theorem exmB_ok {K : PySem.W.Frag} {T : Tab} {xs : List Nat} (h : exmB K T xs = true) : ExmOk K T xs := fun c hc c' hc' => of_decide_eq_true (List.all_eq_true.mp (List.all_eq_true.mp h c hc) c' hc')
def lookF2 : List (Nat × F) → Nat → Option F
  | [], _ => none
  | (j, x) :: r, i => if j = i then some x else lookF2 r i
theorem lookF2_mem {i : Nat} {x : F} : ∀ {fs : List (Nat × F)}, lookF2 fs i = some x → (i, x) ∈ fs
  | (j, y) :: r, h => by
    unfold lookF2 at h
    by_cases hj : j = i
    · rw [if_pos hj] at h
      cases h
      rw [hj]
      exact List.mem_cons_self
    · rw [if_neg hj] at h
      exact List.mem_cons_of_mem _ (lookF2_mem h)
section
variable {K : PySem.W.Frag} {T : Tab} {E : XK} {Z H H1 : Hp} {ι : List Addr} {st : Store}
end
section
variable {X : Cx} {T : Tab} {E : XK}
end
end VS

set_option Elab.async false
set_option linter.all false
set_option maxRecDepth 100000
set_option maxHeartbeats 1000000
set_option autoImplicit false
/-! XE: defs that may raise, defs that make lambdas; the end of such a law. -/
namespace VS
open PySem PySem.Spec PyProof.Rows L2 LamX LX
/-- the tables of the makers: what the machine has there -/
structure TbsOk (K : PySem.W.Frag) (mg : Str → Option Value) (base : Heap) (T : Tab) : Prop where
  tab : ∀ x ∈ T.mks, TabB base mg (codeAd K x) (tabAd K x)
  one : ∀ x ∈ T.mks, ∀ y ∈ T.mks, tabAd K x = tabAd K y → x = y
section
variable {P : Program} {w : World} {K : PySem.W.Frag} {mg : Str → Option Value} {base : Heap} {T : Tab} {x qual : Str} {params : Arguments} {body : List Stmt} {scope : Scope} {dvs : List V} {kws : List (Str × V)} {f : Addr} {fd : FuncData} {N ps : List Str} {k : Nat} {t : TSv}
theorem tk1 {f : Addr} {cdv : Value} {A : Around} {outer : List PySem.Env} {s : Shared} {H : Hp} {E : XK} : Takes (cxOf (L2.CX P w) P w K mg base N qual scope f cdv A outer s H E) (fun cls d _ H => E cls d H) := takes_of rfl rfl rfl rfl
theorem pass1 {f : Addr} {cdv : Value} {A : Around} {outer : List PySem.Env} {s : Shared} {H : Hp} {E : XK} : Passes (L2.CX P w) (cxOf (L2.CX P w) P w K mg base N qual scope f cdv A outer s H E) E := L2.passes_call tk1 fun _ _ _ _ h => h
theorem own1x {f : Addr} {cdv : Value} {A : Around} {outer : List PySem.Env} {s : Shared} {H : Hp} {E : XK} : PassesOwn (model P w) (cxOf (L2.CX P w) P w K mg base N qual scope f cdv A outer s H E).A (cxOf (L2.CX P w) P w K mg base N qual scope f cdv A outer s H E).env (cxOf (L2.CX P w) P w K mg base N qual scope f cdv A outer s H E).xe := passes_of rfl
theorem fn_v1 (F : FunD K x qual params body scope dvs kws f fd) (S : FnScope N ps scope)
    (hb : ∀ (cdv : Value) (A : Around) (outer : List PySem.Env) (s : Shared) (H : Hp) (E : XK), Room k (A.deeper (envOfC qual scope s.heap.objs.size f cdv)) → VB (cxOf (L2.CX P w) P w K mg base N qual scope f cdv A outer s H E) T E body t) :
    FnOk P w K mg base (L2.CX P w) (k + 1) f fd ps (spM K T (fnM ps.length N.length t)) := by
  refine F.ok S (fun vs H Q E h => spM_len h) (fun cdv A outer s H vs Q E hr h => ⟨_, hb cdv A outer s H E hr, ?_⟩)
  refine rd_fn (n := ps.length) ?_
  have hl := spM_len h
  obtain ⟨Z, ι, ws, st, s, r, p⟩ := h
  have hw : ws.length = ps.length := by rw [← r.length]; exact hl
  unfold fnM at p
  rw [if_pos hw] at p
  exact ⟨Z, ι, ws, st, s, r, hw, p⟩
end
section
variable {X : Cx} {T : Tab} {E : XK} {e : Expr} {te : TEv}
end
/-! ### what the head must have left: the tables empty -/
def emptyB : Option Obj → Bool
  | some ⟨.none, none, .fields vs, sl⟩ => decide (vs = #[]) && decide (sl = #[])
  | _ => false
theorem emptyB_ok {o : Option Obj} (h : emptyB o = true) : o = some { cls := .none, data := .fields #[] } := by
  unfold emptyB at h
  split at h
  · simp only [Bool.and_eq_true, decide_eq_true_eq] at h
    rw [h.1, h.2]
  · cases h
def codeHdB (K : PySem.W.Frag) (c P : Addr) : Bool := match K.lookup c with
  | some ⟨.type cn, _, .fields vs, _⟩ => decide (cn = "code") && decide (c ≠ P) && (match (vs[11]? : Option Value) with
    | some (Value.ref Q) => decide (Q = P)
    | _ => false) && (match vs.getD 18 .none with
    | .str _ _ => true
    | _ => false) && (match vs.getD 7 .none with
    | .int _ _ => true
    | _ => false) && (match vs.getD 9 .none with
    | .bool _ => true
    | _ => false) && (match vs.getD 10 .none with
    | .int _ _ => true
    | _ => false)
  | _ => false
theorem codeHdB_ok {K : PySem.W.Frag} {c P : Addr} {h : Heap} (X : K.In h) (q : codeHdB K c P = true) : PySem.W.CodeHd h c P := by
  unfold codeHdB at q
  split at q
  · rename_i cn dd vs sl hk
    simp only [Bool.and_eq_true, decide_eq_true_eq] at q
    obtain ⟨⟨⟨⟨⟨⟨h1, h2⟩, h3⟩, h4⟩, h5⟩, h6⟩, h7⟩ := q
    subst h1
    split at h3
    · rename_i Q e3
      have h3 := of_decide_eq_true h3
      subst h3
      split at h4
      · rename_i file tf e4
        split at h5
        · rename_i fl tg e5
          split at h6
          · rename_i b e6
            split at h7
            · rename_i t tt e7
              exact ⟨_, vs, file, tf, fl, tg, b, t, tt, X _ _ hk, rfl, rfl, e3, by rw [Array.getD_eq_getD_getElem?, e3]; rfl, e4, e5, e6, e7, h2⟩
            · cases h7
          · cases h6
        · cases h5
      · cases h4
    · cases h3
  · cases q
def tabsB (g : Addr → Option Obj) (K : PySem.W.Frag) (mks : List Str) : Bool := (mks.all fun x => codeHdB K (codeAd K x) (tabAd K x) && emptyB (g (tabAd K x)) && (K.lookup (tabAd K x)).isNone) &&
  mks.all fun x => mks.all fun y => decide (x = y) || !decide (tabAd K x = tabAd K y)
/-- the tables of the makers are empty -/
structure TabsE (K : PySem.W.Frag) (mks : List Str) (h : Heap) : Prop where
  at_ : ∀ x ∈ mks, PySem.W.CodeHd h (codeAd K x) (tabAd K x) ∧ h.get? (tabAd K x) = some { cls := .none, data := .fields #[] } ∧ K.lookup (tabAd K x) = none
  one : ∀ x ∈ mks, ∀ y ∈ mks, tabAd K x = tabAd K y → x = y
theorem tabsB_ok {K : PySem.W.Frag} {mks : List Str} {h : Heap} (X : K.In h) (q : tabsB h.get? K mks = true) : TabsE K mks h := by
  unfold tabsB at q
  rw [Bool.and_eq_true] at q
  refine ⟨fun x hx => ?_, fun x hx y hy e => ?_⟩
  · have := List.all_eq_true.mp q.1 x hx
    rw [Bool.and_eq_true, Bool.and_eq_true] at this
    exact ⟨codeHdB_ok X this.1.1, emptyB_ok this.1.2, Option.isNone_iff_eq_none.mp this.2⟩
  · have := List.all_eq_true.mp (List.all_eq_true.mp q.2 x hx) y hy
    rw [Bool.or_eq_true] at this
    rcases this with z | z
    · exact of_decide_eq_true z
    · simp [e] at z
def csOf (K : PySem.W.Frag) (T : Tab) : List (Addr × Addr) := T.mks.map fun x => (codeAd K x, tabAd K x)
/-- the end of a law whose defs make lambdas -/
theorem law_atT {l : PySem.W.OpenLaw} {w : World} {K : PySem.W.Frag} {k n : Nat} {x : Str} {mg : Str → Option Value} {fa : Addr} {h : Heap} {T : Tab} {fd : FuncData} {m : FnM} (t : TabsE K T.mks h) (hn : n = 63) (hb : ∀ (s : Shared) (u : Value), BindsTo s fd ⟨[u], []⟩ [(x, u)])
    (hm : ∀ ns : List Int, ns.length ≤ 63 → ∃ st, m [.f (.scr ns)] [] = .ok (.f (.bl true)) st) (F : ∀ base : Heap, TbsOk K mg base T → FnOk l.prog w K mg base CX0 k fa fd [x] (spM K T m)) : LawAtS l w K CX0 k n x mg fa h := by
  have mem : ∀ p ∈ csOf K T, ∃ x ∈ T.mks, p = (codeAd K x, tabAd K x) := fun p hp => by
    obtain ⟨y, hy, e⟩ := List.mem_map.mp hp
    exact ⟨y, hy, e.symm⟩
  refine ⟨fd, csOf K T, spM K T m, fun p hp => ?_, fun p hp => ?_, fun p hp => ?_, hb, fun H a ns hl _ hH hS => sp_lawT hm (by omega) hS fun p hp => ?_, fun base _ _ TB => F base ⟨fun y hy => TB (codeAd K y, tabAd K y) (List.mem_map.mpr ⟨y, hy, rfl⟩), t.one⟩⟩
  · obtain ⟨y, hy, rfl⟩ := mem p hp; exact (t.at_ y hy).2.1
  · obtain ⟨y, hy, rfl⟩ := mem p hp; exact (t.at_ y hy).2.2
  · obtain ⟨y, hy, rfl⟩ := mem p hp; exact (t.at_ y hy).1
  · obtain ⟨y, hy, rfl⟩ := List.mem_map.mp hp
    exact TabS.nil (hH (codeAd K y, tabAd K y) (List.mem_map.mpr ⟨y, hy, rfl⟩))
end VS

set_option Elab.async false
set_option linter.all false
set_option maxRecDepth 100000
set_option maxHeartbeats 1000000
set_option autoImplicit false
/-! XF: exception classes with one field, as the head has left them. -/
namespace VS
open PySem PySem.Spec PyProof.Rows L2 LamX LX NdefX
/-- an exception class: its name, its __init__, its field -/
structure XcD where
  cls : Str
  params : Arguments
  body : List Stmt
  scope : Scope
  fld : Str
def XcD.C (d : XcD) (K : PySem.W.Frag) : Addr := He.ga K d.cls
def XcD.fI (d : XcD) (K : PySem.W.Frag) : Addr := He.ma K (d.C K) "__init__"
def XcD.fd (d : XcD) (K : PySem.W.Frag) : Option FuncData := match K.lookup (d.fI K) with
  | some ⟨_, _, .func fd, _⟩ => some fd
  | _ => none
/-- what is written of the function -/
abbrev FnX : Type := Option (Str × Str × Arguments × FuncBody × Scope × Addr × List Str × Addr)
def XcD.got (d : XcD) (K : PySem.W.Frag) : FnX := (d.fd K).map fun fd => (fd.name, fd.qualname, fd.params, fd.body, fd.scope, fd.globals, fd.closure.map (·.1), fd.builtins)
def XcD.val (d : XcD) : FnX := some ("__init__", d.cls ++ ".__init__", d.params, .stmts d.body, d.scope, mainGlobals, ["__class__"], builtinsNs)
def oexB (K : PySem.W.Frag) (C : Addr) : Bool := (match K.lookup C with
  | some ⟨.type tn, _, .cls cd, sl⟩ => decide (tn = "type") && (match cd.mro, sl.toList with
    | .ref C' :: bm, [_, _, _, _, some (.builtin n), _] => decide (C' = C) && decide (n = "ValueError.__new__") && cd.hasDict && !cd.hasDel && PySem.HandSPX.refsVE bm
    | _, _ => false)
  | _ => false) && decide (PySem.W.findIn K (.ref C) "__setattr__" = some (some (.builtin "object.__setattr__"))) && decide (PySem.W.subIn K (.ref C) (.type "BaseException") = some true) && decide (PySem.W.typeIn K (.ref C) = some (.type "type")) && PySem.W.keepIn K (.ref C)
theorem oexB_ok {K : PySem.W.Frag} {C : Addr} (h : oexB K C = true) : OexC K C := by
  unfold oexB at h
  simp only [Bool.and_eq_true, decide_eq_true_eq] at h
  obtain ⟨⟨⟨⟨h1, h2⟩, h3⟩, h4⟩, h5⟩ := h
  refine ⟨?_, h2, h3, h4, h5⟩
  split at h1
  · rename_i tn dd cd sl hk
    obtain ⟨ht, h1⟩ := Bool.and_eq_true_iff.mp h1
    have ht := of_decide_eq_true ht
    subst ht
    split at h1
    · rename_i C' bm k0 k1 k2 k3 n k5 hm hs
      have h9 : (((C' = C ∧ n = "ValueError.__new__") ∧ cd.hasDict = true) ∧ cd.hasDel = false) ∧ PySem.HandSPX.refsVE bm = true := by
        simp only [Bool.and_eq_true, decide_eq_true_eq, Bool.not_eq_true'] at h1
        exact h1.2
      obtain ⟨⟨⟨⟨e1, e2⟩, hd⟩, hdel⟩, hr⟩ := h9
      subst e1 e2
      obtain ⟨nm, bs, mro, ns, qn, hdc, sn, sub, ab, col, del⟩ := cd
      dsimp only at hm
      subst hm
      cases hd
      cases hdel
      obtain ⟨l⟩ := sl
      simp only at hs
      subst hs
      exact ⟨nm, qn, ns, bs, bm, sn, sub, ab, col, dd, k0, k1, k2, k3, k5, hk, hr⟩
    · cases h1
  · cases h1
def xcB (prog : Program) (K : PySem.W.Frag) (d : XcD) : Bool := oexB K (d.C K) && (match d.fd K with
  | some fd => decide (fd.defaults = .none) && decide (fd.kwdefaults = .none) && decide (fd.annotations = none) && PySem.W.codeIn K fd.code (d.cls ++ ".__init__") && (match fd.code with
    | .ref c => (match K.lookup c with
      | some ⟨_, _, .fields vs, _⟩ => (match (vs[2]? : Option Value) with
        | some (Value.str file _) => (prog.main.file : Str) == file
        | _ => false)
      | _ => false)
    | _ => false) && (match fd.closure with
    | [(_, cc)] => (match K.lookup cc with
      | some ⟨_, _, .cell (some (Value.ref C')), _⟩ => decide (C' = d.C K)
      | _ => false)
    | _ => false)
  | none => false) && decide (PySem.W.mroIn K (d.C K) (.ref (d.C K)) = some true) && decide (PySem.W.ks_superIn K (d.C K) (d.C K) "__init__" = some (some (.builtin "ValueError.__init__"))) &&
  decide (PySem.W.nsIn K cStatics "thirdparty.any" = some none) && decide (PySem.W.subIn K (.ref (d.C K)) (.type "ValueError") = some true) && decide (PySem.W.nsIn K mainGlobals "super" = some none) &&
  decide (PySem.W.findIn K (.ref (d.C K)) "__init__" = some (some (.ref (d.fI K)))) && decide (PySem.W.typeIn K (.ref (d.fI K)) = some (.type "function")) && decide (PySem.W.findIn K (.ref (d.C K)) d.fld = some none) && xfB K (d.C K)
/-- all that is asked of an exception class -/
structure XcOk (prog : Program) (K : PySem.W.Frag) (d : XcD) : Prop where
  ex : ∃ (cc : Addr) (G : NF) (doc pm ctv oc : Value) (od : Option Addr) (osl : Array (Option Value)), SupC K prog (d.C K) (d.fI K) cc G ∧ K.lookup (d.fI K) = some ⟨oc, od, .func (G.fd doc pm ctv), osl⟩ ∧ G.params = d.params ∧ G.body = d.body ∧ G.scope = d.scope
  ox : OexC K (d.C K)
  ini : PySem.W.findIn K (.ref (d.C K)) "__init__" = some (some (.ref (d.fI K)))
  typ : PySem.W.typeIn K (.ref (d.fI K)) = some (.type "function")
  nof : PySem.W.findIn K (.ref (d.C K)) d.fld = some none
  xf : XfC K (d.C K)
theorem xcB_ok {prog : Program} {K : PySem.W.Frag} {d : XcD} (h : xcB prog K d = true) (hv : d.got K = d.val) : XcOk prog K d := by
  unfold xcB at h
  simp only [Bool.and_eq_true, decide_eq_true_eq] at h
  obtain ⟨⟨⟨⟨⟨⟨⟨⟨⟨⟨h1, h2⟩, h3⟩, h4⟩, h5⟩, h6⟩, h7⟩, h8⟩, h9⟩, h10⟩, h11⟩ := h
  have ox := oexB_ok h1
  refine ⟨?_, ox, h8, h9, h10, xfB_ok h11⟩
  unfold XcD.got at hv
  cases hf : d.fd K with
  | none => rw [hf] at h2; cases h2
  | some fd =>
    rw [hf] at h2 hv
    simp only [Bool.and_eq_true, decide_eq_true_eq] at h2
    obtain ⟨⟨⟨⟨⟨a1, a2⟩, a3⟩, a4⟩, a5⟩, a6⟩ := h2
    unfold XcD.fd at hf
    split at hf
    · rename_i oc od fd' osl hk
      have hf' := Option.some.inj hf
      subst hf'
      have hv : some (fd'.name, fd'.qualname, fd'.params, fd'.body, fd'.scope, fd'.globals, fd'.closure.map (·.1), fd'.builtins) = d.val := hv
      unfold XcD.val at hv
      simp only [Option.some.injEq, Prod.mk.injEq] at hv
      obtain ⟨b1, b2, b3, b4, b5, b6, b7, b8⟩ := hv
      obtain ⟨nm, qn, ps, bd, sc, gl, cl, df, kw, doc, pm, an, cd, ct, bt⟩ := fd'
      dsimp only at a1 a2 a3 a4 a5 a6 b1 b2 b3 b4 b5 b6 b7 b8
      subst a1 a2 a3 b1 b2 b3 b4 b5 b6 b8
      split at a5
      · rename_i c
        split at a5
        · rename_i o1 o2 vs o3 hkc
          split at a5
          · rename_i file tf hvs
            split at a6
            · rename_i nm2 cc
              have e7 : nm2 = "__class__" := by simpa using b7
              subst e7
              split at a6
              · rename_i c1 c2 C' c3 hkcc
                have a6 := of_decide_eq_true a6
                subst a6
                exact ⟨cc, ⟨"__init__", d.cls ++ ".__init__", d.params, d.body, d.scope, [("__class__", cc)], c⟩, doc, pm, ct, oc, od, osl, ⟨ox, ⟨oc, od, doc, pm, ct, osl, hk⟩, a4, ⟨o1, o2, vs, o3, file, tf, hkc, hvs, a5⟩, rfl, ⟨c1, c2, c3, hkcc⟩, h3, h4, h5, h6, h7⟩, hk, rfl, rfl, rfl⟩
              · cases a6
            · cases a6
          · cases a5
        · cases a5
      · cases a5
    · cases hf
end VS

set_option Elab.async false
set_option linter.all false
set_option maxRecDepth 100000
set_option maxHeartbeats 1000000
set_option autoImplicit false
/-! XG: what the printed texts use. -/
namespace VS
open PySem PySem.Spec PyProof.Rows L2 LamX LX NdefX
section
variable {P : Program} {w : World} {K : PySem.W.Frag} {mg : Str → Option Value} {base : Heap} {d : XcD} {N : List Str} {pn : Str}
theorem xc_fn {p0 p1 p2 p3 p4 p5 q1 q2 q3 q4 : Pos} {msg : Str} {j : Nat} {pl : Sem Bool} (h : XcOk P K d)
    (S : NScope N [("self" : Str), pn] ["__class__"] d.scope)
    (hbody : d.body = [.Expr (.Call (.Attribute (.Call (.Name "super" p0) [] [] p1) "__init__" p2) [.Constant (.str msg) j p3] [] p4) p5, .Assign [.Attribute (.Name "self" q1) d.fld q2] (.Name pn q3) q4])
    (hpar : ∃ ar, (d.params.posonlyargs ++ d.params.args).head? = some ar ∧ ar.arg = "self")
    (hks : d.scope.names.lookup ("super" : Str) = some .globalImplicit)
    (htop : (P.main.scope.names.lookup ("super" : Str)).isSome = false)
    (hs : ∀ env, swapsWith (.Call (.Attribute (.Call (.Name "super" p0) [] [] p1) "__init__" p2) [.Constant (.str msg) j p3] [] p4) none p5.line env = pure false)
    (hs2 : ∀ env, swapsWith (.Name pn q3) (some (.Attribute (.Name "self" q1) d.fld q2)) q4.line env = pure false)
    (hi : ∀ (nm ql : Str) (cl : List (Str × Addr)) (c L : Addr), interactive (envF ⟨nm, ql, d.params, d.body, d.scope, cl, c⟩ (d.fI K) L) = false)
    (he : ∀ (nm ql : Str) (cl : List (Str × Addr)) (c L : Addr), eval (.Call (.Attribute (.Call (.Name "super" p0) [] [] p1) "__init__" p2) [.Constant (.str msg) j p3] [] p4) (envF ⟨nm, ql, d.params, d.body, d.scope, cl, c⟩ (d.fI K) L) = (do
      let ov ← attributeBase (.Call (.Name "super" p0) [] [] p1) "__init__" (envF ⟨nm, ql, d.params, d.body, d.scope, cl, c⟩ (d.fI K) L) (eval (.Call (.Name "super" p0) [] [] p1) (envF ⟨nm, ql, d.params, d.body, d.scope, cl, c⟩ (d.fI K) L))
      standAt p2.atName
      let (f, first) ← holding [ov] (getMethod ov "__init__" pl)
      callWith p4 f first (backTo p4 (starEach [.Constant (.str msg) j p3] (envF ⟨nm, ql, d.params, d.body, d.scope, cl, c⟩ (d.fI K) L))) []))
    (hN0 : N[0]? = some ("self" : Str)) (hN1 : N[1]? = some pn)
    (hd1 : (pn == ("__debug__" : Str)) = false) (hd2 : (pn == ("__classdict__" : Str)) = false)
    (hbn : ∀ (nm ql : Str) (cl : List (Str × Addr)) (c : Addr) (us : List Value) (doc pm ctv : Value), us.length = 2 → bindArgs (NF.fd ⟨nm, ql, d.params, d.body, d.scope, cl, c⟩ doc pm ctv) ⟨us, []⟩ = pure ([("self" : Str), pn].zip us)) :
    ∃ fd, FnOk P w K mg base L2.CX0 1 (d.fI K) fd [("self" : Str), pn] (sp1 (d.C K) d.fld) ∧ L2.Binds K fd [("self" : Str), pn] [] := by
  obtain ⟨cc, ⟨nm, ql, pr, bd, sc, cl, c⟩, doc, pm, ctv, oc, od, osl, D, hk, e1, e2, e3⟩ := h.ex
  dsimp only at e1 e2 e3
  subst e1 e2 e3
  refine ⟨_, exinit1 (k := 0) (pl := pl) D hk S hbody hpar hks htop hs hs2 (hi nm ql cl c) (he nm ql cl c) hN0 hN1 h.nof hd1 hd2, ?_⟩
  exact L2.Binds.all fun us hl => hbn nm ql cl c us doc pm ctv hl
end
section
variable {X : Cx} {T : Tab} {E : XK}
end
theorem xv_at {K : PySem.W.Frag} {xl : List XcD} (h : xl.map (fun d => d.got K) = xl.map XcD.val) {i : Nat} {d : XcD} (e : xl[i]? = some d) : d.got K = d.val := by
  have e2 : (xl.map fun d => d.got K)[i]? = (xl.map XcD.val)[i]? := by rw [h]
  rw [List.getElem?_map, List.getElem?_map, e] at e2
  exact Option.some.inj e2
abbrev AlT : Type := ((He.AlD × Bool) × Bool) × List FnX
end VS

set_option Elab.async false
set_option linter.all false
set_option maxRecDepth 100000
set_option maxHeartbeats 1000000
set_option autoImplicit false
/-! XH: exceptions without a field; try: return ask() / except C: return text. -/
namespace LX
open PySem PySem.Calls PySem.Spec PyProof.Rows L2 LamX NdefX PySem.W
section
variable {CX : CXT} {P : Program} {w : World} {K : Frag} {mg : Str → Option Value} {base : Heap} {C fI cc : Addr} {G : NF} {N : List Str} {k : Nat} {doc pm ctv oc : Value} {od : Option Addr} {osl : Array (Option Value)}
end
end LX
namespace VS
open PySem PySem.Spec PyProof.Rows L2 LX LamX NdefX
section
variable {P : Program} {w : World} {K : PySem.W.Frag} {mg : Str → Option Value} {base : Heap} {d : XcD} {N : List Str}
end
section
variable {X : Cx} {T : Tab} {E : XK} {W : WX} {x : Str} {k c : Nat} {fI : Addr} {fd : FuncData} {ps : List Str} {p pos pos' : Pos}
end
section
variable {X : Cx} {T : Tab} {E : XK}
end
end VS
namespace VS
theorem exm_one {K : PySem.W.Frag} {T : Tab} {xs : List Nat} {c : Nat} (h : ExmOk K T xs) (hc : c ∈ xs) : ExmOk K T [c] := fun a ha b hb => by
  have ea : a = c := by simpa using ha
  have eb : b = c := by simpa using hb
  subst ea
  subst eb
  exact h _ hc _ hc
end VS

set_option Elab.async false
set_option linter.all false
set_option maxRecDepth 100000
set_option maxHeartbeats 1000000
set_option autoImplicit false
/-! XI: the Hook over written addresses, with exceptions. -/
namespace VS
open PySem PySem.Spec PyProof.Rows L2 LamX LX NdefX
def obsTL (as : List Addr) (ex : PySem.W.Frag → Bool) (fa : List He.Fa) (fn : List He.DefD) (xl : List XcD) (mks : List Str) (g : Addr → Option Obj) : AlT :=
  (((He.obsD fa fn (He.frG g as), ex (He.frG g as)), tabsB g (He.frG g as) mks), xl.map fun d => d.got (He.frG g as))
def hookTL (as : List Addr) (ex : PySem.W.Frag → Bool) (fa : List He.Fa) (fn : List He.DefD) (xl : List XcD) (mks : List Str) : PySem.W.Hook where
  α := AlT
  obs := fun s => obsTL as ex fa fn xl mks s.heap.get?
  val := fun _ => (((He.valD fn, true), true), xl.map XcD.val)
  says := fun _ h => ∃ K : PySem.W.Frag, K.In h ∧ SaysX ex fa fn K ∧ xl.map (fun d => d.got K) = xl.map XcD.val ∧ TabsE K mks h
  of := fun _ _ e => ⟨_, He.frG_in, ⟨(Prod.mk.inj (Prod.mk.inj (Prod.mk.inj e).1).1).1, (Prod.mk.inj (Prod.mk.inj (Prod.mk.inj e).1).1).2⟩, (Prod.mk.inj e).2, tabsB_ok He.frG_in (Prod.mk.inj (Prod.mk.inj e).1).2⟩
  keeps := fun _ _ _ ⟨K, hK, c, v, t⟩ k => ⟨K, PySem.W.Frag.In.keeps hK k, c, v, fun x hx => ⟨(t.at_ x hx).1.keeps k, k _ _ (t.at_ x hx).2.1, (t.at_ x hx).2.2⟩, t.one⟩
theorem obsTL_eq {as : List Addr} {ex : PySem.W.Frag → Bool} {fa : List He.Fa} {fn : List He.DefD} {xl : List XcD} {mks : List Str} {g : Addr → Option Obj} {s : Shared} (h : ∀ a, g a = s.heap.get? a) : obsTL as ex fa fn xl mks g = (hookTL as ex fa fn xl mks).obs s := by
  have e : g = s.heap.get? := funext h
  rw [e] <;> rfl
end VS

set_option Elab.async false
set_option linter.all false
set_option maxRecDepth 100000
set_option maxHeartbeats 1000000
set_option autoImplicit false
/-! WL: the Hook over written addresses. -/
namespace VS
open PySem PySem.Spec PyProof.Rows L2
section
variable {X : Cx} {T : Tab} {E : XK} {a : Expr} {ta : TEv} {p p2 pos pos2 : Pos}
end
end VS

set_option Elab.async false
set_option linter.all false
set_option maxRecDepth 100000
set_option maxHeartbeats 4000000
set_option autoImplicit false
/-! WM: an expression that only looks at live cells. -/
namespace VS
open PySem PySem.Spec PyProof.Rows L2
/-- the names' cells as data; what is no data is left out -/
def thawE (st : Store) (env : Env) : Env := env.map fun o => o.bind fun w => (deepF 0 st 3 w).map W.f
/-- te, all cells being data for the time of it; what it tells is flat -/
def eBor (te : TEv) : TEv := fun env st => match te (thawE st env) [] with
  | .ok (.f x) [] => if flat x = true then .ok (.f x) st else .stuck
  | _ => .stuck
section
variable {X : Cx} {T : Tab} {E : XK} {e : Expr} {te : TEv}
theorem sim_none {K : PySem.W.Frag} {T : Tab} {Z H : Hp} {ι : List Addr} {st : Store} (s : SimS K T Z ι st H) : SimS K T (zAll Z H ι 0) [] [] H := by
  refine ⟨fun a o e => ?_, rfl, List.nodup_nil, fun n a c h => (by simp at h), fun a h => (by simp at h), s.tab.step (fun a ps e => ?_) (fun a h => (by simp at h)) (fun _ _ e _ => e) fun a u e hn h0 => by
    unfold zAll
    rw [if_neg fun hd => hn (List.mem_of_mem_drop hd)]
    exact h0⟩
  rotate_right
  · unfold zAll at e
    by_cases ha : a ∈ ι.drop 0
    · rw [if_pos ha] at e
      exact absurd rfl ((s.tab.ct a (List.mem_of_mem_drop ha) _ e).1 ps)
    · rw [if_neg ha] at e
      exact e
  unfold zAll at e
  by_cases ha : a ∈ ι.drop 0
  · rw [if_pos ha] at e; exact e
  · rw [if_neg ha] at e; exact s.sub a o e
theorem ve_bor (h : VE X T E e te) : VE X T E e (eBor te) := pe_weak h fun σ H Q q => by
  obtain ⟨Z, ι, env, st, s, r, p⟩ := q
  have re : EnvR X.K T (zAll Z H ι 0) [] σ (thawE st env) := by
    refine ⟨by unfold thawE; rw [List.length_map]; exact r.len, fun i w hw => ?_⟩
    unfold thawE at hw
    rw [List.getElem?_map] at hw
    obtain ⟨o, ho, eo⟩ := Option.map_eq_some_iff.mp hw
    cases o with
    | none => cases eo
    | some u =>
      have eo : (deepF 0 st 3 u).map W.f = some w := eo
      obtain ⟨x, hx, rfl⟩ := Option.map_eq_some_iff.mp eo
      obtain ⟨v, e1, rv⟩ := r.get i u ho
      exact ⟨v, e1, .f (deepF_ok s 0 3 rv hx)⟩
  refine ⟨zAll Z H ι 0, [], thawE st env, [], sim_none s, re, ?_⟩
  unfold eBor at p
  cases e1 : te (thawE st env) [] with
  | stuck => rw [e1] at p; exact p.elim
  | exc c fs st' => rw [e1] at p; exact p.elim
  | ok u st' =>
    rw [e1] at p
    cases u with
    | loc n => exact p.elim
    | f x =>
      cases st' with
      | cons c t => exact p.elim
      | nil =>
        have p : Post X.K T E Z ι (if flat x = true then Res.ok (W.f x) st else .stuck) _ := p
        by_cases hx : flat x = true
        · rw [if_pos hx] at p
          intro H' Z' ι' l s' v rv
          obtain ⟨s2, l2, ht, _⟩ := back s l s'.sub s'.tab
          cases rv with
          | f rv => exact p H' _ ι l2 s2 v (.f (rv.flat ht hx))
        · rw [if_neg hx] at p; exact p.elim
end
end VS

set_option Elab.async false
set_option linter.all false
set_option maxRecDepth 100000
set_option maxHeartbeats 4000000
set_option autoImplicit false
/-! WN: xs.extend(ys), ys a tuple. -/
namespace VS
open PySem PySem.Spec PyProof.Rows L2 PySem.AutoSeq1
set_option maxRecDepth 8000 in
section
variable {X : Cx} {T : Tab} {E : XK} {e o : Expr} {te to : TEv}
end
end VS

set_option Elab.async false
set_option linter.all false
set_option maxRecDepth 100000
set_option maxHeartbeats 4000000
set_option autoImplicit false
/-! WO: sorted of tuples of ints, of any lengths. -/
namespace VS
open PySem PySem.Spec PyProof.Rows L2 SrtO PySem.W PySem.Calls
/-- v is a tuple of these numbers -/
def TupI (h : Heap) (v : Value) (ns : List Int) : Prop :=
  ∃ (a : Addr) (dd : Option Addr) (items : Array Value) (n : Nat) (sl : Array (Option Value)), v = .ref a ∧ h.get? a = some { cls := .type "tuple", dict := dd, data := .seq items n, slots := sl } ∧ IntsAre items.toList ns
theorem TupI.keeps {h h' : Heap} {v : Value} {ns : List Int} (x : TupI h v ns) (k : ∀ b o, v = .ref b → h.get? b = some o → h'.get? b = some o) : TupI h' v ns := by
  obtain ⟨a, dd, items, n, sl, e, g, i⟩ := x
  exact ⟨a, dd, items, n, sl, e, k _ _ e g, i⟩
theorem TupI.type {M : Model} {h : Heap} {v : Value} {ns : List Int} (x : TupI h v ns) : Looks M h (typeOf v) (.type "tuple") := by
  obtain ⟨a, dd, items, n, sl, rfl, g, i⟩ := x
  exact (Looks.ld g).andThen .now
section
variable {prog : Program} {w : World} {A : Around} {E : Value → Shared → Prop} {s : Shared}
end
end VS

set_option Elab.async false
set_option linter.all false
set_option maxRecDepth 100000
set_option maxHeartbeats 4000000
set_option autoImplicit false
/-! WP: sorted of data that are tuples of ints. -/
namespace VS
open PySem PySem.Spec PyProof.Rows L2 SrtO PySem.W PySem.Calls
/-! ### the order -/
def insR (x : List Int) : List (List Int) → List (List Int)
  | [] => [x]
  | y :: l => if HT.lexLt y x = true then y :: insR x l else x :: y :: l
def sortR : List (List Int) → List (List Int)
  | [] => []
  | x :: l => insR x (sortR l)
/-! ### over the heap -/
theorem ints_inj : ∀ {vs : List Value} {ns ms : List Int}, IntsAre vs ns → IntsAre vs ms → ns = ms
  | _, _, _, .nil, .nil => rfl
  | _, _, _, .cons n t h, .cons _ _ h' => by rw [ints_inj h h']
theorem TupI.inj {h : Heap} {v : Value} {ns ms : List Int} (x : TupI h v ns) (y : TupI h v ms) : ns = ms := by
  obtain ⟨a, dd, items, n, sl, rfl, g, i⟩ := x
  obtain ⟨b, dd2, items2, n2, sl2, e, g2, i2⟩ := y
  cases e
  rw [g] at g2
  cases g2
  exact ints_inj i i2
open Classical in
def okRows (rs : List (List Int)) : Bool := decide (rs.length < 2) || (rs.all (fun r => !r.isEmpty) || match rs with
  | [] :: _ => true
  | _ => false)
section
variable {X : Cx} {T : Tab} {E : XK}
/-! ### over data -/
end
end VS

set_option Elab.async false
set_option linter.all false
set_option maxRecDepth 100000
set_option maxHeartbeats 4000000
set_option autoImplicit false
/-! WQ: sorted by key=len of tuples: what it does to the heap. -/
namespace VS
open PySem PySem.Spec PyProof.Rows L2 SrtO PySem.W PySem.Calls
def insBy {α : Type} (k : α → Int) (x : α) : List α → List α
  | [] => [x]
  | y :: l => if k y < k x then y :: insBy k x l else x :: y :: l
def sortBy {α : Type} (k : α → Int) : List α → List α
  | [] => []
  | x :: l => insBy k x (sortBy k l)
section
variable {α β : Type}
end
/-- things in the order of their keys -/
def sortZ {α : Type} (ks : List Int) (xs : List α) : List α := (sortBy (fun p : Int × α => p.1) (ks.zip xs)).map (·.2)
section
variable {prog : Program} {w : World} {A : Around} {E : Value → Shared → Prop} {s : Shared} {a kS : Addr} {e1 : Nat} {vs : List Value} {kz : List Int} {P : PySem.Fin → Shared → Prop}
end
end VS

set_option Elab.async false
set_option linter.all false
set_option maxRecDepth 100000
set_option maxHeartbeats 4000000
set_option autoImplicit false
/-! WR: sorted(xs, key=len), xs tuples. -/
namespace VS
open PySem PySem.Spec PyProof.Rows L2 SrtO PySem.W PySem.Calls
section
variable {prog : Program} {w : World} {A : Around} {E : Value → Shared → Prop} {s : Shared} {a : Addr} {vs : List Value} {kz : List Int}
end
end VS

set_option Elab.async false
set_option linter.all false
set_option maxRecDepth 100000
set_option maxHeartbeats 4000000
set_option autoImplicit false
/-! WS: sorted(xs, key=len) over data. -/
namespace VS
open PySem PySem.Spec PyProof.Rows L2 PySem.W PySem.Calls
section
variable {X : Cx} {T : Tab} {E : XK} {e : Expr} {te : TEv} {t : TA}
theorem Paired.at {α β : Type} {R : α → β → Prop} : ∀ {l : List α} {m : List β} {i : Nat} {x : α} {y : β}, Paired R l m → l[i]? = some x → m[i]? = some y → R x y
  | _, _, _, _, _, .nil, h, _ => by simp at h
  | _, _, 0, _, _, .cons r _, h, h2 => by simp at h h2; subst h h2; exact r
  | _, _, i + 1, _, _, .cons _ t, h, h2 => Paired.at (i := i) t (by simpa using h) (by simpa using h2)
theorem Paired.len {α β : Type} {R : α → β → Prop} : ∀ {l : List α} {m : List β}, Paired R l m → l.length = m.length
  | _, _, .nil => rfl
  | _, _, .cons _ t => by rw [List.length_cons, List.length_cons, Paired.len t]
/-! ### over data -/
end
end VS

set_option Elab.async false
set_option linter.all false
set_option maxRecDepth 100000
set_option maxHeartbeats 4000000
set_option autoImplicit false
/-! WT: sorted(set(xs)) as a new cell. -/
namespace VS
open PySem PySem.Spec PyProof.Rows L2
section
variable {X : Cx} {T : Tab} {E : XK} {e : Expr} {te : TEv} {p p2 p3 pos : Pos}
end
end VS

set_option Elab.async false
set_option linter.all false
set_option maxRecDepth 100000
set_option maxHeartbeats 4000000
set_option autoImplicit false
/-! WU: sorted(set(xs)) where few things are in xs, however often. -/
namespace VS
open PySem PySem.Spec PyProof.Rows L2
section
variable {X : Cx} {T : Tab} {E : XK} {e : Expr} {te : TEv} {p p2 p3 pos : Pos}
end
end VS

set_option Elab.async false
set_option linter.all false
set_option maxRecDepth 100000
set_option maxHeartbeats 4000000
set_option autoImplicit false
/-! XR: texts taken apart; integers of texts; xs[i], xs[j] = ..; try: S / except C as e: x = .. e.f ... -/
namespace VS
open PySem PySem.Spec PyProof.Rows L2
section
variable {X : Cx} {T : Tab} {E : XK} {o e : Expr} {to te : TEv} {apos cpos : Pos}
/-! ### partition, split -/
def partL (b a : List Nat) : List Nat × List Nat × List Nat := match TL.par b [] a with
  | some (p, q) => (p, b, q)
  | none => (a, [], [])
def partF : F → List F → Option F
  | .str a, [.str b] => if b ≠ [] ∧ a.length ≤ 1000000 then some (.tup [.str (partL b a).1, .str (partL b a).2.1, .str (partL b a).2.2]) else none
  | _, _ => none
theorem part_S {a b : List Nat} (hb : b ≠ []) : Txt.partition (S a) (S b) = (S (partL b a).1, S (partL b a).2.1, S (partL b a).2.2) := by
  unfold partL
  cases e : TL.par b [] a with
  | none => exact SX.partition_none hb e
  | some p => exact SX.partition_some hb e
theorem om_part : OpM X T "str" (fun x xs H Q => ∃ a b, x = .str a ∧ xs = [.str b] ∧ (b.length == 0) = false ∧ a.length ≤ sizeLine ∧ ∀ p, H p = none → Q (.ref p) (upd H p (.tup [.str (Txt.partition a b).1, .str (Txt.partition a b).2.1, .str (Txt.partition a b).2.2]))) partF := by
  intro Z H x xs fx fs z Q s vx vs h g
  cases fx with
  | str a =>
    match fs, vs, h with
    | [.str b], vs, h =>
      obtain ⟨v, rfl, hv⟩ := vs.one
      cases vx.str; cases hv.str
      have h : (if b ≠ [] ∧ a.length ≤ 1000000 then some (F.tup [.str (partL b a).1, .str (partL b a).2.1, .str (partL b a).2.2]) else none) = some z := h
      obtain ⟨⟨h1, h2⟩, rfl⟩ := ifSome h
      refine ⟨_, _, rfl, rfl, ?_, by rw [S_len, sizeLine_eq]; omega, fun p hp => ?_⟩
      · rw [S_len]
        cases b with
        | nil => exact absurd rfl h1
        | cons _ _ => rfl
      · rw [part_S h1]
        exact g.new s hp (.tup (SqT.of upd_same) (.cons (.str _) (.cons (.str _) (.cons (.str _) .nil))))
  | _ => cases h
theorem ve_part (ho : VE X T E o to) (he : VE X T E e te) (hbase : attributeBase o "partition" X.env (eval o X.env) = eval o X.env := by rfl)
    (hline : (apos.endLine == cpos.line) = true := by rfl) (hs : starEach [e] X.env = [(false, eval e X.env)] := by rfl) :
    VE X T E (.Call (.Attribute o "partition" apos) [e] [] cpos) (eBM "str" partF to (aCons te aNil)) :=
  ve_bm (by decide) PySem.F.plainAttrs_str PySem.F.slot_str_partition PySem.F.type_str_partition mt_partition om_part ho (va_cons he va_nil hs) hbase (by rw [hs]; rfl) hline hs rfl
def splitL (b a : List Nat) : List (List Nat) := TL.spl b 0 [] a
def splitF : F → List F → Option F
  | .str a, [.str b] => if b ≠ [] ∧ a.length ≤ 1000000 ∧ b.all (· < 256) = true then some (.lst ((splitL b a).map F.str)) else none
  | _, _ => none
theorem repFs_strs {K : PySem.W.Frag} {Z : Hp} : ∀ (l : List (List Nat)), RepFs K T Z ((l.map S).map V.str) (l.map F.str)
  | [] => .nil
  | c :: s => .cons (RepF.str c) (repFs_strs s)
theorem om_split : OpM X T "str" (fun x xs H Q => ∃ a b, x = .str a ∧ xs = [.str b] ∧ (b.length == 0) = false ∧ a.length + 2 ≤ sizeLine ∧ rNewStrs (Txt.split a b) H Q) splitF := by
  intro Z H x xs fx fs z Q s vx vs h g
  cases fx with
  | str a =>
    match fs, vs, h with
    | [.str b], vs, h =>
      obtain ⟨v, rfl, hv⟩ := vs.one
      cases vx.str; cases hv.str
      have h : (if b ≠ [] ∧ a.length ≤ 1000000 ∧ b.all (· < 256) = true then some (F.lst ((splitL b a).map F.str)) else none) = some z := h
      obtain ⟨⟨h1, h2, h3⟩, rfl⟩ := ifSome h
      refine ⟨_, _, rfl, rfl, ?_, by rw [S_len, sizeLine_eq]; omega, fun p hp => ?_⟩
      · rw [S_len]
        cases b with
        | nil => exact absurd rfl h1
        | cons _ _ => rfl
      · rw [show Txt.split (S a) (S b) = (splitL b a).map S from SX.split_S h1 h3]
        exact g.new s hp (.lst upd_same (repFs_strs _))
  | _ => cases h
theorem ve_split (ho : VE X T E o to) (he : VE X T E e te) (hbase : attributeBase o "split" X.env (eval o X.env) = eval o X.env := by rfl)
    (hline : (apos.endLine == cpos.line) = true := by rfl) (hs : starEach [e] X.env = [(false, eval e X.env)] := by rfl) :
    VE X T E (.Call (.Attribute o "split" apos) [e] [] cpos) (eBM "str" splitF to (aCons te aNil)) :=
  ve_bm (by decide) PySem.F.plainAttrs_str PySem.F.slot_str_split PySem.F.type_str_split mt_split om_split ho (va_cons he va_nil hs) hbase (by rw [hs]; rfl) hline hs rfl
/-! ### int(text) -/
def digB (a : List Nat) : Bool := a.all fun c => decide (48 ≤ c) && decide (c ≤ 57)
def intSF : F → Option F
  | .str a => if digB a = true ∧ a ≠ [] ∧ a.length ≤ 640 then some (.int ((NumText.digitsVal a : Nat) : Int)) else none
  | _ => none
theorem on_intS : OpN X T (fun xs H Q => ∃ a n, xs = [.str a] ∧ PySem.intText? a = some n ∧ a.length ≤ 640 ∧ Q (.int n) H) (g1 intSF) := on1 fun Z H x fx z Q s vx h g => by
  cases fx with
  | str a =>
    cases vx.str
    have h : (if digB a = true ∧ a ≠ [] ∧ a.length ≤ 640 then some (F.int ((NumText.digitsVal a : Nat) : Int)) else none) = some z := h
    obtain ⟨⟨h1, h2, h3⟩, rfl⟩ := ifSome h
    exact ⟨_, _, rfl, SX.int_S h1 h2 (by omega), by rw [S_len]; exact h3, g.here s (.int _)⟩
  | _ => cases h
end
/-! ### xs[i] as a target among others -/
section
variable {X : Cx} {T : Tab} {E : XK} {pos' : Pos}
def mSub (to ti : TEv) : TM := fun w env st => match to env st with
  | .ok o st1 => match ti env st1 with
    | .ok i st2 => (setI w st2 o i).map fun st3 => (env, st3)
    | _ => none
  | _ => none
theorem vm_sub {x y : Str} {j k : Nat} {p1 p2 : Pos} (hN : X.N[j]? = some x) (hv : Vis X.env.scope x) (hN2 : X.N[k]? = some y) (hv2 : Vis X.env.scope y)
    (ha : ∀ v, assign (.Subscript (.Name x p1) (.Name y p2) pos') X.env v = (do
      let ov ← holding [v] (eval (.Name x p1) X.env)
      let iv ← holding [v, ov] (eval (.Name y p2) X.env)
      standAt pos'
      holding [v, ov, iv] (setItem ov iv v)
      release [v, ov, iv] []) := by intro _; rfl)
    (hd : (x == ("__debug__" : Str)) = false := by decide) (hcd : (x == ("__classdict__" : Str)) = false := by decide) (hd2 : (y == ("__debug__" : Str)) = false := by decide) (hcd2 : (y == ("__classdict__" : Str)) = false := by decide) :
    VM X T (.Subscript (.Name x p1) (.Name y p2) pos') (mSub (eVar j) (eVar k)) := by
  refine pg_weak (pg_sub (pe_var hN hv hd hcd) (pe_var hN2 hv2 hd2 hcd2) set_list ha) fun v σ H Q h => ?_
  obtain ⟨Z, ι, env, st, w, env', st', s, re, rv, e, q⟩ := h
  unfold mSub eVar at e
  cases q1 : env[j]? with
  | none => rw [q1] at e; cases e
  | some o =>
    cases o with
    | none => rw [q1] at e; cases e
    | some u =>
      rw [q1] at e
      cases q2 : env[k]? with
      | none => rw [q2] at e; cases e
      | some o2 =>
        cases o2 with
        | none => rw [q2] at e; cases e
        | some u2 =>
          rw [q2] at e
          obtain ⟨y1, ey1, ry1⟩ := re.get j u q1
          obtain ⟨y2, ey2, ry2⟩ := re.get k u2 q2
          have e : (setI w st u u2).map (fun st2 => (env, st2)) = some (env', st') := e
          obtain ⟨st2, e2, e3⟩ := opt_map_some e
          cases e3
          obtain ⟨pa, xs, kk, jj, e4, e5, e6, e7, s4⟩ := setI_ok s ry1 ry2 rv e2
          exact ⟨y1, ey1, y2, ey2, pa, xs, kk, jj, e4, e5, e6, e7, q σ _ s4 re⟩
end
/-! ### try -/
def tagF : Option (List Nat) → F → F
  | some t, y => .tup [.str t, y]
  | none, y => y
def envX (n : Nat) (x : F) : Env := (List.replicate n none).set 1 (some (.f x))
def sTry (c i : Nat) (tag : Option (List Nat)) (ts : TSv) : TSv := fun env st => match ts env st with
  | .exc c' fs st1 => if c' = c then match lookF2 fs i with
    | some y => .nx (envX 3 (tagF tag y)) st1
    | none => .stuck
    else .stuck
  | r => r
section
open LX
variable {X : Cx} {T : Tab} {E : XK}
def tagE (tag : Option (List Nat)) (j k : Nat) (p2 p5 : Pos) (e : Expr) : Expr := match tag with
  | some t => .Tuple [.Constant (.str (S t)) j p2, e] k p5
  | none => e
def tagT (tag : Option (List Nat)) (t : TE) : TE := match tag with
  | some g => tTup (tCons (tC (.str (S g))) (tCons t tNil))
  | none => t
theorem vs_try {c i : Nat} {tag : Option (List Nat)} {ts : TSv} {st : Stmt} {a fd e x : Str} {np p1 p2 p3 p4 p5 p6 hp pos : Pos} {jj kk : Nat} (hs : X.stack = X.env :: X.outer) (hf : X.env.frame = some X.env.locals)
    (hN : X.N = [a, fd, e]) (nd : [a, fd, e].Nodup) (hfd : X.env.scope.names.lookup fd = some .local) (he : X.env.scope.names.lookup e = some .local) (hfn : ∀ y, (X.suite 0 []).fn y = true)
    (hx : ExmOk X.K T [c]) (hg : Gl X x) (hdx : (x == ("__debug__" : Str)) = false) (hm : X.mg x = some (.ref (T.ca X.K c))) (xf : XfC X.K (T.ca X.K c)) (hno : PySem.W.findIn X.K (.ref (T.ca X.K c)) (T.fn i) = some none)
    (hb : ∀ (W : WX) (pn : List (Addr × Obj)) (xe : Value → Shared → Prop) (Ech : XK), Takes (X.tr pn xe) (fun cls d σ H => σ.length = X.N.length → W cls d σ H) → (∀ cls d σ' H', Ech cls d H' → σ'.length = X.N.length → W cls d σ' H') → VS (X.tr pn xe) T Ech st ts)
    (hsw : swapsWith (tagE tag jj kk p2 p5 (.Attribute (.Name e p3) (T.fn i) p4)) (some (.Name fd p1)) p6.line X.env = pure false)
    (hbase : ∀ (pn : List (Addr × Obj)), attributeBase (.Name e p3) (T.fn i) X.env (eval (.Name e p3) X.env) = eval (.Name e p3) X.env)
    (hd1 : (e == ("__debug__" : Str)) = false := by decide) (hd2 : (e == ("__classdict__" : Str)) = false := by decide) :
    VS X T E (.Try [st] [.ExceptHandler (some (.Name x np)) (some e) [.Assign [.Name fd p1] (tagE tag jj kk p2 p5 (.Attribute (.Name e p3) (T.fn i) p4)) p6] hp] [] [] pos) (sTry c i tag ts) := by
  have hN1 : X.N[1]? = some fd := by rw [hN]; rfl
  have hN2 : X.N[2]? = some e := by rw [hN]; rfl
  have hnd : X.N.Nodup := by rw [hN]; exact nd
  have hlen : X.N.length = 3 := by rw [hN]; rfl
  have hh : HdsA X [.ExceptHandler (some (.Name x np)) (some e) [.Assign [.Name fd p1] (tagE tag jj kk p2 p5 (.Attribute (.Name e p3) (T.fn i) p4)) p6] hp]
      [(.ref (T.ca X.K c), tAs 2 fun a cls d => tAsg (tagT tag (tXf a cls d (T.ca X.K c) (T.fn i) (tVar 2))) (gName 1))] := by
    refine .as_ hnd hN2 he ⟨hg, hdx, .inl hm⟩ (fun a oe cls d pn hz hf' => ?_) .nil
    have px : PE (X.suite a ((a, oe) :: pn)) (.Attribute (.Name e p3) (T.fn i) p4) (tXf a cls d (T.ca X.K c) (T.fn i) (tVar 2)) := pe_xf xf hno hz hf' (pe_var (i := 2) hN2 (.inl he) hd1 hd2) (hbase pn)
    cases tag with
    | none => exact pss_one (ps_set (i := 1) hnd hN1 (.inl hfd) px hsw (.inl (hfn _)))
    | some t => exact pss_one (ps_set (i := 1) hnd hN1 (.inl hfd) (pe_tup (pa_cons pe_str (pa_cons px pa_nil))) hsw (.inl (hfn _)))
  refine ps_weak (ps_try_all hs hf (tb := fun W D σ H => ∃ Ech : XK, (∀ cls d σ' H', Ech cls d H' → σ'.length = X.N.length → W cls d σ' H') ∧ RdS X.K T Ech ts D σ H) (fun W pn xe tk _ => ?_) hh) fun D σ H h => ?_
  · refine ⟨fun pins s' σ H' D I h' => ?_⟩
    obtain ⟨Ech, hW, h1⟩ := h'
    exact (pss_one (hb W pn xe Ech (takes_len tk) hW)).run pins s' σ H' D I h1
  · obtain ⟨Z, ι, env, st0, s, re, p⟩ := h
    unfold sTry at p
    have thru : (∀ c' fs st1, ts env st0 ≠ .exc c' fs st1) → PostS X.K T E Z ι (ts env st0) D → ∃ Ech : XK, (∀ cls d σ' H', Ech cls d H' → σ'.length = X.N.length → wAll X.K D [(.ref (T.ca X.K c), tAs 2 fun a cls d => tAsg (tagT tag (tXf a cls d (T.ca X.K c) (T.fn i) (tVar 2))) (gName 1))] cls d σ' H') ∧ RdS X.K T Ech ts D σ H := fun hn hp => by
      refine ⟨fun _ _ _ => False, fun _ _ _ _ h => h.elim, Z, ι, env, st0, s, re, ?_⟩
      cases q : ts env st0 with
      | exc c' fs st1 => exact absurd q (hn c' fs st1)
      | nx _ _ => rw [q] at hp; exact hp
      | rt _ _ => rw [q] at hp; exact hp
      | bk _ _ => rw [q] at hp; exact hp
      | ct _ _ => rw [q] at hp; exact hp
      | stuck => rw [q] at hp; exact hp
    cases q : ts env st0 with
    | nx e1 s1 => exact thru (fun _ _ _ z => by rw [q] at z; cases z) (by rw [q] at p ⊢; exact p)
    | rt e1 s1 => exact thru (fun _ _ _ z => by rw [q] at z; cases z) (by rw [q] at p ⊢; exact p)
    | bk e1 s1 => exact thru (fun _ _ _ z => by rw [q] at z; cases z) (by rw [q] at p ⊢; exact p)
    | ct e1 s1 => exact thru (fun _ _ _ z => by rw [q] at z; cases z) (by rw [q] at p ⊢; exact p)
    | stuck => rw [q] at p; exact p.elim
    | exc c' fs st1 =>
      rw [q] at p
      simp only at p
      by_cases hc : c' = c
      · subst hc
        rw [if_pos rfl] at p
        cases ql : lookF2 fs i with
        | none => rw [ql] at p; exact p.elim
        | some y =>
          rw [ql] at p
          have p : PostS X.K T E Z ι (.nx (envX 3 (tagF tag y)) st1) D := p
          refine ⟨fun cls d H' => cls = .ref (T.ca X.K c') ∧ ∃ (dd : Addr) (fvs : List (Str × V)) (v : V), d = some dd ∧ H' dd = some (.xd fvs) ∧ fvs.lookup (T.fn i) = some v ∧ ∃ Z' ι', Le Z ι Z' ι' ∧ SimS X.K T Z' ι' st1 H' ∧ RepF X.K T Z' v y, fun cls d σ' H' hE hl => ?_, Z, ι, env, st0, s, re, ?_⟩
          · obtain ⟨rfl, dd, fvs, v, rfl, e1, e2, Z', ι', l, s', rv⟩ := hE
            have h3 : σ'.length = 3 := hl.trans hlen
            refine ⟨true, (hx c' (by simp) c' (by simp)).trans (by simp), fun _ a na => ?_, fun h => by cases h⟩
            have fin : ∀ (v2 : V) (H2 : Hp) (Z2 : Hp), Le Z ι Z2 ι' → SimS X.K T Z2 ι' st1 H2 → RepF X.K T Z2 v2 (tagF tag y) → D.nx ((((σ'.set 2 (some (.ref a))).set 1 (some v2))).set 2 none) H2 := fun v2 H2 Z2 l2 s2 r2 => by
              refine p _ H2 Z2 ι' l2 s2 ⟨?_, fun n w hw => ?_⟩
              · simp only [List.length_set, h3, envX, List.length_replicate]
              · unfold envX at hw
                by_cases hn : n = 1
                · subst hn
                  rw [List.getElem?_set_self (by rw [List.length_replicate]; decide)] at hw
                  cases hw
                  exact ⟨v2, by rw [List.getElem?_set_ne (by decide), List.getElem?_set_self (by rw [List.length_set, h3]; decide)], .f r2⟩
                · rw [List.getElem?_set_ne (Ne.symm hn), List.getElem?_replicate] at hw
                  split at hw <;> cases hw
            cases tag with
            | none =>
              refine ⟨.ref a, by rw [List.getElem?_set_self (by rw [h3]; decide)], rfl, rfl, dd, fvs, v, rfl, e1, e2, ?_⟩
              exact fin v H' Z' l s' rv
            | some t =>
              refine ⟨.ref a, by rw [List.getElem?_set_self (by rw [h3]; decide)], rfl, rfl, dd, fvs, v, rfl, e1, e2, show (2 : Nat) ≤ sizeLine by rw [sizeLine_eq]; decide, fun p2 hp2 => ?_⟩
              have gr := Grow.laid (o := .tup [.str (S t), v]) s'.sub hp2
              exact fin (.ref p2) _ _ (l.trans gr.le) (s'.grow gr) (.tup (SqT.of upd_same) (.cons (.str t) (.cons (rv.mono gr.z) .nil)))
          · rw [q]
            intro H' Z' ι' d l s' xr
            have hin := lookF2_mem ql
            cases d with
            | none =>
              have xr : fs = [] := xr
              rw [xr] at hin
              cases hin
            | some dd =>
              obtain ⟨fvs, e1, e2⟩ := xr
              obtain ⟨v, e3, rv⟩ := e2 i y hin
              exact ⟨rfl, dd, fvs, v, rfl, e1, e3, Z', ι', l, s', rv⟩
      · rw [if_neg hc] at p; exact p.elim
theorem vs_tryT {c i : Nat} {tag : List Nat} {tg f : Str} {ts : TSv} {st : Stmt} {a fd e x : Str} {np p1 p2 p3 p4 p5 p6 hp pos : Pos} {jj kk : Nat} (htag : tg = S tag) (hff : f = T.fn i) (hs : X.stack = X.env :: X.outer) (hf : X.env.frame = some X.env.locals)
    (hN : X.N = [a, fd, e]) (nd : [a, fd, e].Nodup) (hfd : X.env.scope.names.lookup fd = some .local) (he : X.env.scope.names.lookup e = some .local) (hfn : ∀ y, (X.suite 0 []).fn y = true)
    (hx : ExmOk X.K T [c]) (hg : Gl X x) (hdx : (x == ("__debug__" : Str)) = false) (hm : X.mg x = some (.ref (T.ca X.K c))) (xf : XfC X.K (T.ca X.K c)) (hno : PySem.W.findIn X.K (.ref (T.ca X.K c)) f = some none)
    (hb : ∀ (W : WX) (pn : List (Addr × Obj)) (xe : Value → Shared → Prop) (Ech : XK), Takes (X.tr pn xe) (fun cls d σ H => σ.length = X.N.length → W cls d σ H) → (∀ cls d σ' H', Ech cls d H' → σ'.length = X.N.length → W cls d σ' H') → VS (X.tr pn xe) T Ech st ts)
    (hsw : swapsWith (.Tuple [.Constant (.str tg) jj p2, .Attribute (.Name e p3) f p4] kk p5) (some (.Name fd p1)) p6.line X.env = pure false)
    (hbase : ∀ (pn : List (Addr × Obj)), attributeBase (.Name e p3) f X.env (eval (.Name e p3) X.env) = eval (.Name e p3) X.env)
    (hd1 : (e == ("__debug__" : Str)) = false := by decide) (hd2 : (e == ("__classdict__" : Str)) = false := by decide) :
    VS X T E (.Try [st] [.ExceptHandler (some (.Name x np)) (some e) [.Assign [.Name fd p1] (.Tuple [.Constant (.str tg) jj p2, .Attribute (.Name e p3) f p4] kk p5) p6] hp] [] [] pos) (sTry c i (some tag) ts) := by
  subst htag hff
  exact vs_try (tag := some tag) (jj := jj) (kk := kk) (p2 := p2) (p5 := p5) hs hf hN nd hfd he hfn hx hg hdx hm xf hno hb hsw hbase hd1 hd2
theorem vs_tryN {c i : Nat} {f : Str} {ts : TSv} {st : Stmt} {a fd e x : Str} {np p1 p3 p4 p6 hp pos : Pos} (hff : f = T.fn i) (hs : X.stack = X.env :: X.outer) (hf : X.env.frame = some X.env.locals)
    (hN : X.N = [a, fd, e]) (nd : [a, fd, e].Nodup) (hfd : X.env.scope.names.lookup fd = some .local) (he : X.env.scope.names.lookup e = some .local) (hfn : ∀ y, (X.suite 0 []).fn y = true)
    (hx : ExmOk X.K T [c]) (hg : Gl X x) (hdx : (x == ("__debug__" : Str)) = false) (hm : X.mg x = some (.ref (T.ca X.K c))) (xf : XfC X.K (T.ca X.K c)) (hno : PySem.W.findIn X.K (.ref (T.ca X.K c)) f = some none)
    (hb : ∀ (W : WX) (pn : List (Addr × Obj)) (xe : Value → Shared → Prop) (Ech : XK), Takes (X.tr pn xe) (fun cls d σ H => σ.length = X.N.length → W cls d σ H) → (∀ cls d σ' H', Ech cls d H' → σ'.length = X.N.length → W cls d σ' H') → VS (X.tr pn xe) T Ech st ts)
    (hsw : swapsWith (.Attribute (.Name e p3) f p4) (some (.Name fd p1)) p6.line X.env = pure false)
    (hbase : ∀ (pn : List (Addr × Obj)), attributeBase (.Name e p3) f X.env (eval (.Name e p3) X.env) = eval (.Name e p3) X.env)
    (hd1 : (e == ("__debug__" : Str)) = false := by decide) (hd2 : (e == ("__classdict__" : Str)) = false := by decide) :
    VS X T E (.Try [st] [.ExceptHandler (some (.Name x np)) (some e) [.Assign [.Name fd p1] (.Attribute (.Name e p3) f p4) p6] hp] [] [] pos) (sTry c i none ts) := by
  subst hff
  exact vs_try (tag := none) (jj := 0) (kk := 0) (p2 := p1) (p5 := p1) hs hf hN nd hfd he hfn hx hg hdx hm xf hno hb hsw hbase hd1 hd2
end
end VS

set_option Elab.async false
set_option linter.all false
set_option maxRecDepth 100000
set_option maxHeartbeats 4000000
set_option autoImplicit false
namespace LB
open PySem PySem.Spec PyProof.Rows L2 VS LX LamX
/-! ### the text by places -/
def topS (i : Nat) : Stmt := PySem.Challenge.pw_longbough_k59_texts_refused.main.body.getD i (.Pass ⟨0, 0, 0, 0⟩)
abbrev sx_0 : Stmt := (inClass (topS 6) 0)
def xd_0 : XcD := ⟨"BadText", defArgs sx_0, defBody sx_0, defScope sx_0, "line"⟩
abbrev sx_1 : Stmt := (inClass (topS 3) 0)
def xd_1 : XcD := ⟨"BadKind", defArgs sx_1, defBody sx_1, defScope sx_1, "at"⟩
abbrev sx_2 : Stmt := (inClass (topS 5) 0)
def xd_2 : XcD := ⟨"BadBlock", defArgs sx_2, defBody sx_2, defScope sx_2, "block"⟩
abbrev PP : Program := PySem.Challenge.pw_longbough_k59_texts_refused
def T : Tab := ⟨[⟨"Pieces", [0]⟩, ⟨"Row", [1]⟩, ⟨"Tree", [0, 2, 3, 4]⟩], ["pairs", "pieces", "slots", "parents", "depths", "line", "at", "block"], [], ["BadText", "BadKind", "BadBlock"]⟩
/-! ### what the top has left -/
abbrev s__law_start : Stmt := (topS 35)
abbrev s__law_draw : Stmt := (topS 36)
abbrev s__law_pick : Stmt := (topS 37)
abbrev s__law_t_row : Stmt := (topS 32)
abbrev s__law_t_slot : Stmt := (topS 34)
abbrev s__law_t_drawn : Stmt := (topS 33)
abbrev s__law_lines : Stmt := (topS 42)
abbrev s__law_bent : Stmt := (topS 43)
abbrev s__law_number : Stmt := (topS 39)
abbrev s__law_row_fault : Stmt := (topS 40)
abbrev s__law_tree_fault : Stmt := (topS 41)
abbrev s__law_same : Stmt := (topS 38)
abbrev s_Tree_blocks : Stmt := (inClass (topS 23) 6)
abbrev s_Row_runs : Stmt := (inClass (topS 21) 12)
abbrev s_check_kinds : Stmt := (topS 14)
abbrev s_Row___init__ : Stmt := (inClass (topS 21) 0)
abbrev s_row_of : Stmt := (topS 15)
abbrev s_write : Stmt := (topS 26)
abbrev s_number_of : Stmt := (topS 27)
abbrev s_Pieces___init__ : Stmt := (inClass (topS 20) 0)
abbrev s_row_read : Stmt := (topS 28)
abbrev s_is_integer : Stmt := (topS 8)
abbrev s_Tree___contains__ : Stmt := (inClass (topS 23) 4)
abbrev s_Tree_can_stand : Stmt := (inClass (topS 23) 1)
abbrev s_is_list : Stmt := (topS 9)
abbrev s_Tree___init__ : Stmt := (inClass (topS 23) 0)
abbrev s_tree_read : Stmt := (topS 29)
abbrev s_read : Stmt := (topS 30)
abbrev s__law_tried : Stmt := (topS 44)
abbrev s__law_refused : Stmt := (topS 45)
abbrev s_law : Stmt := (topS 46)
structure Facts (K : PySem.W.Frag) (mg : Str → Option Value) : Prop where
  tab : TabOk K T
  isi : IsiOk K T
  exm : ExmOk K T [500, 501, 502]
  xc0 : XcOk PP K xd_0
  xc1 : XcOk PP K xd_1
  xc2 : XcOk PP K xd_2
  g0 : mg "_law_start" = some (.ref (He.ga K "_law_start"))
  g1 : mg "_law_lines" = some (.ref (He.ga K "_law_lines"))
  g2 : mg "_law_draw" = some (.ref (He.ga K "_law_draw"))
  g3 : mg "_law_t_row" = some (.ref (He.ga K "_law_t_row"))
  g4 : mg "_law_pick" = some (.ref (He.ga K "_law_pick"))
  g5 : mg "_law_t_drawn" = some (.ref (He.ga K "_law_t_drawn"))
  g6 : mg "_law_t_slot" = some (.ref (He.ga K "_law_t_slot"))
  g7 : mg "_law_bent" = some (.ref (He.ga K "_law_bent"))
  g8 : mg "_law_row_fault" = some (.ref (He.ga K "_law_row_fault"))
  g9 : mg "_law_number" = some (.ref (He.ga K "_law_number"))
  g10 : mg "_law_tree_fault" = some (.ref (He.ga K "_law_tree_fault"))
  g11 : mg "_law_same" = some (.ref (He.ga K "_law_same"))
  g12 : mg "_law_tried" = some (.ref (He.ga K "_law_tried"))
  g13 : mg "BadText" = some (.ref (He.ga K "BadText"))
  g14 : mg "write" = some (.ref (He.ga K "write"))
  g15 : mg "Tree" = some (.ref (He.ga K "Tree"))
  g16 : mg "row_of" = some (.ref (He.ga K "row_of"))
  g17 : mg "Row" = some (.ref (He.ga K "Row"))
  g18 : mg "Pieces" = some (.ref (He.ga K "Pieces"))
  g19 : mg "check_kinds" = some (.ref (He.ga K "check_kinds"))
  g20 : mg "BadKind" = some (.ref (He.ga K "BadKind"))
  g21 : mg "read" = some (.ref (He.ga K "read"))
  g22 : mg "row_read" = some (.ref (He.ga K "row_read"))
  g23 : mg "number_of" = some (.ref (He.ga K "number_of"))
  g24 : mg "tree_read" = some (.ref (He.ga K "tree_read"))
  g25 : mg "is_integer" = some (.ref (He.ga K "is_integer"))
  g26 : mg "is_list" = some (.ref (He.ga K "is_list"))
  g27 : mg "BadBlock" = some (.ref (He.ga K "BadBlock"))
  g28 : mg "_law_refused" = some (.ref (He.ga K "_law_refused"))
  n0 : mg "list" = none
  n1 : mg "range" = none
  n2 : mg "int" = none
  n3 : mg "len" = none
  n4 : mg "str" = none
  n5 : mg "enumerate" = none
  n6 : mg "all" = none
  n7 : mg "isinstance" = none
  n8 : mg "tuple" = none
  n9 : mg "zip" = none
  n10 : mg "bool" = none
  cs0 : ∃ t, mg "KINDS" = some (.str "hH.A" t)
  cs1 : ∃ t, mg "FIGURES" = some (.str "0123456789" t)
  me0 : Meth K (He.ga K "Tree") "blocks" (He.ma K (He.ga K "Tree") "blocks")
  me1 : Meth K (He.ga K "Row") "runs" (He.ma K (He.ga K "Row") "runs")
  me2 : Meth K (He.ga K "Tree") "__contains__" (He.ma K (He.ga K "Tree") "__contains__")
  me3 : Meth K (He.ga K "Tree") "can_stand" (He.ma K (He.ga K "Tree") "can_stand")
  mk0 : Mk K (He.ga K "Row") (He.ma K (He.ga K "Row") "__init__")
  mk1 : Mk K (He.ga K "Pieces") (He.ma K (He.ga K "Pieces") "__init__")
  mk2 : Mk K (He.ga K "Tree") (He.ma K (He.ga K "Tree") "__init__")
  d__law_start : ∃ fd, FunD K "_law_start" "_law_start" (defArgs s__law_start) (defBody s__law_start) (defScope s__law_start) [] [] (He.ga K "_law_start") fd
  d__law_draw : ∃ fd, FunD K "_law_draw" "_law_draw" (defArgs s__law_draw) (defBody s__law_draw) (defScope s__law_draw) [] [] (He.ga K "_law_draw") fd
  d__law_pick : ∃ fd, FunD K "_law_pick" "_law_pick" (defArgs s__law_pick) (defBody s__law_pick) (defScope s__law_pick) [] [] (He.ga K "_law_pick") fd
  d__law_t_row : ∃ fd, FunD K "_law_t_row" "_law_t_row" (defArgs s__law_t_row) (defBody s__law_t_row) (defScope s__law_t_row) [] [] (He.ga K "_law_t_row") fd
  d__law_t_slot : ∃ fd, FunD K "_law_t_slot" "_law_t_slot" (defArgs s__law_t_slot) (defBody s__law_t_slot) (defScope s__law_t_slot) [] [] (He.ga K "_law_t_slot") fd
  d__law_t_drawn : ∃ fd, FunD K "_law_t_drawn" "_law_t_drawn" (defArgs s__law_t_drawn) (defBody s__law_t_drawn) (defScope s__law_t_drawn) [] [] (He.ga K "_law_t_drawn") fd
  d__law_lines : ∃ fd, FunD K "_law_lines" "_law_lines" (defArgs s__law_lines) (defBody s__law_lines) (defScope s__law_lines) [] [] (He.ga K "_law_lines") fd
  d__law_bent : ∃ fd, FunD K "_law_bent" "_law_bent" (defArgs s__law_bent) (defBody s__law_bent) (defScope s__law_bent) [] [] (He.ga K "_law_bent") fd
  d__law_number : ∃ fd, FunD K "_law_number" "_law_number" (defArgs s__law_number) (defBody s__law_number) (defScope s__law_number) [] [] (He.ga K "_law_number") fd
  d__law_row_fault : ∃ fd, FunD K "_law_row_fault" "_law_row_fault" (defArgs s__law_row_fault) (defBody s__law_row_fault) (defScope s__law_row_fault) [] [] (He.ga K "_law_row_fault") fd
  d__law_tree_fault : ∃ fd, FunD K "_law_tree_fault" "_law_tree_fault" (defArgs s__law_tree_fault) (defBody s__law_tree_fault) (defScope s__law_tree_fault) [] [] (He.ga K "_law_tree_fault") fd
  d__law_same : ∃ fd, FunD K "_law_same" "_law_same" (defArgs s__law_same) (defBody s__law_same) (defScope s__law_same) [] [] (He.ga K "_law_same") fd
  d_Tree_blocks : ∃ fd, FunD K "blocks" "Tree.blocks" (defArgs s_Tree_blocks) (defBody s_Tree_blocks) (defScope s_Tree_blocks) [] [] (He.ma K (He.ga K "Tree") "blocks") fd
  d_Row_runs : ∃ fd, FunD K "runs" "Row.runs" (defArgs s_Row_runs) (defBody s_Row_runs) (defScope s_Row_runs) [] [] (He.ma K (He.ga K "Row") "runs") fd
  d_check_kinds : ∃ fd, FunD K "check_kinds" "check_kinds" (defArgs s_check_kinds) (defBody s_check_kinds) (defScope s_check_kinds) [] [] (He.ga K "check_kinds") fd
  d_Row___init__ : ∃ fd, FunD K "__init__" "Row.__init__" (defArgs s_Row___init__) (defBody s_Row___init__) (defScope s_Row___init__) [(.str "")] [] (He.ma K (He.ga K "Row") "__init__") fd
  d_row_of : ∃ fd, FunD K "row_of" "row_of" (defArgs s_row_of) (defBody s_row_of) (defScope s_row_of) [] [] (He.ga K "row_of") fd
  d_write : ∃ fd, FunD K "write" "write" (defArgs s_write) (defBody s_write) (defScope s_write) [] [] (He.ga K "write") fd
  d_number_of : ∃ fd, FunD K "number_of" "number_of" (defArgs s_number_of) (defBody s_number_of) (defScope s_number_of) [] [] (He.ga K "number_of") fd
  d_Pieces___init__ : ∃ fd, FunD K "__init__" "Pieces.__init__" (defArgs s_Pieces___init__) (defBody s_Pieces___init__) (defScope s_Pieces___init__) [] [] (He.ma K (He.ga K "Pieces") "__init__") fd
  d_row_read : ∃ fd, FunD K "row_read" "row_read" (defArgs s_row_read) (defBody s_row_read) (defScope s_row_read) [] [] (He.ga K "row_read") fd
  d_is_integer : ∃ fd, FunD K "is_integer" "is_integer" (defArgs s_is_integer) (defBody s_is_integer) (defScope s_is_integer) [] [] (He.ga K "is_integer") fd
  d_Tree___contains__ : ∃ fd, FunD K "__contains__" "Tree.__contains__" (defArgs s_Tree___contains__) (defBody s_Tree___contains__) (defScope s_Tree___contains__) [] [] (He.ma K (He.ga K "Tree") "__contains__") fd
  d_Tree_can_stand : ∃ fd, FunD K "can_stand" "Tree.can_stand" (defArgs s_Tree_can_stand) (defBody s_Tree_can_stand) (defScope s_Tree_can_stand) [] [] (He.ma K (He.ga K "Tree") "can_stand") fd
  d_is_list : ∃ fd, FunD K "is_list" "is_list" (defArgs s_is_list) (defBody s_is_list) (defScope s_is_list) [] [] (He.ga K "is_list") fd
  d_Tree___init__ : ∃ fd, FunD K "__init__" "Tree.__init__" (defArgs s_Tree___init__) (defBody s_Tree___init__) (defScope s_Tree___init__) [(.ref (He.dflAt ("Tree", some "__init__") 0 K))] [] (He.ma K (He.ga K "Tree") "__init__") fd
  d_tree_read : ∃ fd, FunD K "tree_read" "tree_read" (defArgs s_tree_read) (defBody s_tree_read) (defScope s_tree_read) [] [] (He.ga K "tree_read") fd
  d_read : ∃ fd, FunD K "read" "read" (defArgs s_read) (defBody s_read) (defScope s_read) [] [] (He.ga K "read") fd
  d__law_tried : ∃ fd, FunD K "_law_tried" "_law_tried" (defArgs s__law_tried) (defBody s__law_tried) (defScope s__law_tried) [] [] (He.ga K "_law_tried") fd
  d__law_refused : ∃ fd, FunD K "_law_refused" "_law_refused" (defArgs s__law_refused) (defBody s__law_refused) (defScope s__law_refused) [] [] (He.ga K "_law_refused") fd
  d_law : ∃ fd, FunD K "law" "law" (defArgs s_law) (defBody s_law) (defScope s_law) [] [] (He.ga K "law") fd
theorem xf_0 {w : World} {K : PySem.W.Frag} {mg : Str → Option Value} {base : Heap} (D : Facts K mg) : ∃ fd, FnOk PP w K mg base L2.CX0 1 (He.ma K (He.ga K "BadText") "__init__") fd ["self", "line"] (sp1 (T.ca K 500) (T.fn 5)) ∧ L2.Binds K fd ["self", "line"] [] :=
  xc_fn (N := ["self", "line", "__class__"]) (D.xc0) (NdefX.nscope_by (by decide +kernel)) rfl ⟨_, rfl, rfl⟩ rfl (by decide +kernel) (fun _ => rfl) (fun _ => rfl) (fun _ _ _ _ _ => rfl) (fun _ _ _ _ _ => rfl) rfl rfl (by decide) (by decide) (fun _ _ _ _ us _ _ _ hl => match us, hl with | [_, _], _ => rfl)
theorem xf_1 {w : World} {K : PySem.W.Frag} {mg : Str → Option Value} {base : Heap} (D : Facts K mg) : ∃ fd, FnOk PP w K mg base L2.CX0 1 (He.ma K (He.ga K "BadKind") "__init__") fd ["self", "at"] (sp1 (T.ca K 501) (T.fn 6)) ∧ L2.Binds K fd ["self", "at"] [] :=
  xc_fn (N := ["self", "at", "__class__"]) (D.xc1) (NdefX.nscope_by (by decide +kernel)) rfl ⟨_, rfl, rfl⟩ rfl (by decide +kernel) (fun _ => rfl) (fun _ => rfl) (fun _ _ _ _ _ => rfl) (fun _ _ _ _ _ => rfl) rfl rfl (by decide) (by decide) (fun _ _ _ _ us _ _ _ hl => match us, hl with | [_, _], _ => rfl)
theorem xf_2 {w : World} {K : PySem.W.Frag} {mg : Str → Option Value} {base : Heap} (D : Facts K mg) : ∃ fd, FnOk PP w K mg base L2.CX0 1 (He.ma K (He.ga K "BadBlock") "__init__") fd ["self", "block"] (sp1 (T.ca K 502) (T.fn 7)) ∧ L2.Binds K fd ["self", "block"] [] :=
  xc_fn (N := ["self", "block", "__class__"]) (D.xc2) (NdefX.nscope_by (by decide +kernel)) rfl ⟨_, rfl, rfl⟩ rfl (by decide +kernel) (fun _ => rfl) (fun _ => rfl) (fun _ _ _ _ _ => rfl) (fun _ _ _ _ _ => rfl) rfl rfl (by decide) (by decide) (fun _ _ _ _ us _ _ _ hl => match us, hl with | [_, _], _ => rfl)
/-! _law_start -/
theorem sc__law_start : FnScope ["_law_script"] ["_law_script"] (defScope s__law_start) := ⟨rfl, rfl, rfl, by decide +kernel, rfl, by decide +kernel, by decide +kernel⟩
def t__law_start : TSv :=
  (sRet (eLstM (aCons (eListM (aCons (eVar 0) aNil)) (aCons (eC (.int 0)) (aCons (eC (.int 0)) (aCons (eC (.int 11)) aNil))))))
def m__law_start : FnM := fnM 1 1 t__law_start
theorem fo__law_start {w : World} {K : PySem.W.Frag} {mg : Str → Option Value} {base : Heap} (D : Facts K mg) (TB : TbsOk K mg base T) {fd : FuncData} (F : FunD K "_law_start" "_law_start" (defArgs s__law_start) (defBody s__law_start) (defScope s__law_start) [] [] (He.ga K "_law_start") fd) : FnOk PP w K mg base CX0 1 (He.ga K "_law_start") fd ["_law_script"] (spM K T m__law_start) := fn_v0 F sc__law_start fun cdv A outer s H E E' hr =>
    (vb_one (vs_ret (ve_lstM (va_cons (ve_listM rfl (D.n0) (va_cons (ve_var (i := 0) rfl (Or.inl rfl)) va_nil)) (va_cons ve_int (va_cons ve_int (va_cons ve_int va_nil)))))))
theorem ok__law_start {w : World} {K : PySem.W.Frag} {mg : Str → Option Value} {base : Heap} (D : Facts K mg) (TB : TbsOk K mg base T) : Fn PP w K mg base T CX0 1 (He.ga K "_law_start") m__law_start := by
  obtain ⟨fd, F⟩ := D.d__law_start
  exact Fn.plain (fo__law_start D TB F) (F.bindsN fun _ _ _ _ _ _ us hl => match us, hl with | [_], _ => rfl) F.kp
/-! _law_draw -/
theorem sc__law_draw : FnScope ["_law_stream", "_law_many", "_law_cell", "_law_digit", "_law_mixed"] ["_law_stream", "_law_many"] (defScope s__law_draw) := ⟨rfl, rfl, rfl, by decide +kernel, rfl, by decide +kernel, by decide +kernel⟩
def t__law_draw : TSv :=
  (bCons (sSub (eVar 0) (eC (.int 2)) (eOp2 addF (eIx (eVar 0) (eC (.int 2))) (eC (.int 1))))
    (bCons (sIf (tAndV (tVal (eOp2 eqF (eIx (eVar 0) (eC (.int 1))) (eC (.int 0)))) (tVal (eOp2 neF (eIx (eVar 0) (eC (.int 0))) (eLst aNil)))) (bCons (sSet 2 (eMut false cPopAt (eIx (eVar 0) (eC (.int 0))) (aCons (eC (.int 0)) aNil)))
    (bCons (sSub (eVar 0) (eC (.int 3)) (eOp2 modF (eCB (g1 intF) (aCons (eOp2 addF (eOp2 addF (eOp2 mulF (eIx (eVar 0) (eC (.int 3))) (eC (.int 8191))) (eVar 2)) (eC (.int 3))) aNil)) (eC (.int 2147483647))))
    (sSub (eVar 0) (eC (.int 1)) (eIf (tVal (eOp2 geF (eVar 2) (eOp2 powF (eC (.int 10)) (eC (.int 18))))) (eVar 2) (eC (.int 0)))))) bNil)
    (bCons (sIf (tVal (eOp2 gtF (eIx (eVar 0) (eC (.int 1))) (eC (.int 0)))) (bCons (sSet 3 (eOp2 modF (eCB (g1 intF) (aCons (eIx (eVar 0) (eC (.int 1))) aNil)) (eVar 1)))
    (bCons (sSub (eVar 0) (eC (.int 1)) (eOp2 fdivF (eIx (eVar 0) (eC (.int 1))) (eVar 1)))
    (sRet (eVar 3)))) bNil)
    (bCons (sSet 4 (eOp2 modF (eCB (g1 intF) (aCons (eOp2 powF (eOp2 addF (eOp2 addF (eIx (eVar 0) (eC (.int 3))) (eOp2 mulF (eC (.int 7919)) (eIx (eVar 0) (eC (.int 2))))) (eC (.int 104729))) (eC (.int 5))) aNil)) (eC (.int 2147483629))))
    (sRet (eOp2 modF (eOp2 modF (eCB (g1 intF) (aCons (eOp2 powF (eOp2 addF (eOp2 addF (eOp2 mulF (eVar 4) (eC (.int 48271))) (eOp2 mulF (eC (.int 30011)) (eIx (eVar 0) (eC (.int 2))))) (eC (.int 29))) (eC (.int 3))) aNil)) (eC (.int 1000000007))) (eVar 1)))))))
def m__law_draw : FnM := fnM 2 5 t__law_draw
theorem fo__law_draw {w : World} {K : PySem.W.Frag} {mg : Str → Option Value} {base : Heap} (D : Facts K mg) (TB : TbsOk K mg base T) {fd : FuncData} (F : FunD K "_law_draw" "_law_draw" (defArgs s__law_draw) (defBody s__law_draw) (defScope s__law_draw) [] [] (He.ga K "_law_draw") fd) : FnOk PP w K mg base CX0 1 (He.ga K "_law_draw") fd ["_law_stream", "_law_many"] (spM K T m__law_draw) := fn_v0 F sc__law_draw fun cdv A outer s H E E' hr =>
    (vb_cons (vs_sub (ve_var (i := 0) rfl (Or.inl rfl)) ve_int (ve_op or_add o2_add (ve_ix (ve_var (i := 0) rfl (Or.inl rfl)) ve_int) ve_int))
    (vb_cons (vs_if (VW.vt (vw_and (vt_cmp (or_eq (hu64 hr)) o2_eq (ve_ix (ve_var (i := 0) rfl (Or.inl rfl)) ve_int) ve_int (nomark _)) (vw_and1 (vt_cmp (or_ne (hu64 hr)) o2_ne (ve_ix (ve_var (i := 0) rfl (Or.inl rfl)) ve_int) (ve_lst va_nil) (nomark _))))) (vb_cons (vs_set (i := 2) sc__law_draw.nd rfl (Or.inl rfl) (ve_popAt (ve_ix (ve_var (i := 0) rfl (Or.inl rfl)) ve_int) ve_int))
    (vb_cons (vs_sub (ve_var (i := 0) rfl (Or.inl rfl)) ve_int (ve_op op_mod o2_mod (ve_callTy call_int1 on_int rfl (D.n2) (by decide +kernel) (va_cons (ve_op or_add o2_add (ve_op or_add o2_add (ve_op or_mul o2_mul (ve_ix (ve_var (i := 0) rfl (Or.inl rfl)) ve_int) ve_int) (ve_var (i := 2) rfl (Or.inl rfl))) ve_int) va_nil)) ve_int))
    (vb_one (vs_sub (ve_var (i := 0) rfl (Or.inl rfl)) ve_int (ve_if (vt_cmp op_ge (o2_cmp (p := fun i j => decide (j ≤ i))) (ve_var (i := 2) rfl (Or.inl rfl)) (ve_op op_pow o2_pow ve_int ve_int) (nomark _)) (ve_var (i := 2) rfl (Or.inl rfl)) ve_int))))) vb_nil)
    (vb_cons (vs_if (vt_cmp op_gt (o2_cmp (p := fun i j => decide (j < i))) (ve_ix (ve_var (i := 0) rfl (Or.inl rfl)) ve_int) ve_int (nomark _)) (vb_cons (vs_set (i := 3) sc__law_draw.nd rfl (Or.inl rfl) (ve_op op_mod o2_mod (ve_callTy call_int1 on_int rfl (D.n2) (by decide +kernel) (va_cons (ve_ix (ve_var (i := 0) rfl (Or.inl rfl)) ve_int) va_nil)) (ve_var (i := 1) rfl (Or.inl rfl))))
    (vb_cons (vs_sub (ve_var (i := 0) rfl (Or.inl rfl)) ve_int (ve_op op_fdivW o2_fdiv (ve_ix (ve_var (i := 0) rfl (Or.inl rfl)) ve_int) (ve_var (i := 1) rfl (Or.inl rfl))))
    (vb_one (vs_ret (ve_var (i := 3) rfl (Or.inl rfl)))))) vb_nil)
    (vb_cons (vs_set (i := 4) sc__law_draw.nd rfl (Or.inl rfl) (ve_op op_mod o2_mod (ve_callTy call_int1 on_int rfl (D.n2) (by decide +kernel) (va_cons (ve_op op_pow o2_pow (ve_op or_add o2_add (ve_op or_add o2_add (ve_ix (ve_var (i := 0) rfl (Or.inl rfl)) ve_int) (ve_op or_mul o2_mul ve_int (ve_ix (ve_var (i := 0) rfl (Or.inl rfl)) ve_int))) ve_int) ve_int) va_nil)) ve_int))
    (vb_one (vs_ret (ve_op op_mod o2_mod (ve_op op_mod o2_mod (ve_callTy call_int1 on_int rfl (D.n2) (by decide +kernel) (va_cons (ve_op op_pow o2_pow (ve_op or_add o2_add (ve_op or_add o2_add (ve_op or_mul o2_mul (ve_var (i := 4) rfl (Or.inl rfl)) ve_int) (ve_op or_mul o2_mul ve_int (ve_ix (ve_var (i := 0) rfl (Or.inl rfl)) ve_int))) ve_int) ve_int) va_nil)) ve_int) (ve_var (i := 1) rfl (Or.inl rfl)))))))))
theorem ok__law_draw {w : World} {K : PySem.W.Frag} {mg : Str → Option Value} {base : Heap} (D : Facts K mg) (TB : TbsOk K mg base T) : Fn PP w K mg base T CX0 1 (He.ga K "_law_draw") m__law_draw := by
  obtain ⟨fd, F⟩ := D.d__law_draw
  exact Fn.plain (fo__law_draw D TB F) (F.bindsN fun _ _ _ _ _ _ us hl => match us, hl with | [_, _], _ => rfl) F.kp
/-! _law_pick -/
theorem sc__law_pick : FnScope ["_law_stream", "_law_some"] ["_law_stream", "_law_some"] (defScope s__law_pick) := ⟨rfl, rfl, rfl, by decide +kernel, rfl, by decide +kernel, by decide +kernel⟩
def t__law_pick : TSv :=
  (sRet (eIx (eVar 1) (eCall m__law_draw (aCons (eVar 0) (aCons (eCB (g1 lenF) (aCons (eVar 1) aNil)) aNil)))))
def m__law_pick : FnM := fnM 2 2 t__law_pick
theorem fo__law_pick {w : World} {K : PySem.W.Frag} {mg : Str → Option Value} {base : Heap} (D : Facts K mg) (TB : TbsOk K mg base T) {fd : FuncData} (F : FunD K "_law_pick" "_law_pick" (defArgs s__law_pick) (defBody s__law_pick) (defScope s__law_pick) [] [] (He.ga K "_law_pick") fd) : FnOk PP w K mg base CX0 2 (He.ga K "_law_pick") fd ["_law_stream", "_law_some"] (spM K T m__law_pick) := fn_v0 F sc__law_pick fun cdv A outer s H E E' hr =>
    (vb_one (vs_ret (ve_ix (ve_var (i := 1) rfl (Or.inl rfl)) (ve_call (ok__law_draw D TB) (hr.mono (by first | decide | omega)) rfl (D.g2) passV (va_cons (ve_var (i := 0) rfl (Or.inl rfl)) (va_cons (ve_callB cr_len on_len rfl (D.n3) (by decide +kernel) (va_cons (ve_var (i := 1) rfl (Or.inl rfl)) va_nil)) va_nil))))))
theorem ok__law_pick {w : World} {K : PySem.W.Frag} {mg : Str → Option Value} {base : Heap} (D : Facts K mg) (TB : TbsOk K mg base T) : Fn PP w K mg base T CX0 2 (He.ga K "_law_pick") m__law_pick := by
  obtain ⟨fd, F⟩ := D.d__law_pick
  exact Fn.plain (fo__law_pick D TB F) (F.bindsN fun _ _ _ _ _ _ us hl => match us, hl with | [_, _], _ => rfl) F.kp
/-! _law_t_row -/
theorem sc__law_t_row : FnScope ["_law_stream", "_law_most", "_law_menu", "_law_k"] ["_law_stream", "_law_most"] (defScope s__law_t_row) := ⟨rfl, rfl, rfl, by decide +kernel, rfl, by decide +kernel, by decide +kernel⟩
def t__law_t_row : TSv :=
  (bCons (sSet 2 (eCall m__law_pick (aCons (eVar 0) (aCons (eLst (aCons (eC (.str [104, 72, 46, 65])) (aCons (eC (.str [104, 65])) (aCons (eC (.str [104, 104, 65])) (aCons (eC (.str [104, 72, 65])) (aCons (eC (.str [72, 65])) (aCons (eC (.str [104, 46, 65])) (aCons (eC (.str [104, 104, 104, 72, 46, 65])) (aCons (eC (.str [65, 46])) (aCons (eC (.str [104, 72])) (aCons (eC (.str [104, 65, 65])) (aCons (eC (.str [72, 72, 65, 65])) aNil)))))))))))) aNil))))
    (sRet (eBM "str" joinF (eC (.str [])) (aCons (eFrz (eLc (iRange1 (aCons (eCall m__law_draw (aCons (eVar 0) (aCons (eOp2 addF (eVar 1) (eC (.int 1))) aNil))) aNil)) (gNm 3) tYesV (eCall m__law_pick (aCons (eVar 0) (aCons (eVar 2) aNil))) [3])) aNil))))
def m__law_t_row : FnM := fnM 2 4 t__law_t_row
theorem fo__law_t_row {w : World} {K : PySem.W.Frag} {mg : Str → Option Value} {base : Heap} (D : Facts K mg) (TB : TbsOk K mg base T) {fd : FuncData} (F : FunD K "_law_t_row" "_law_t_row" (defArgs s__law_t_row) (defBody s__law_t_row) (defScope s__law_t_row) [] [] (He.ga K "_law_t_row") fd) : FnOk PP w K mg base CX0 3 (He.ga K "_law_t_row") fd ["_law_stream", "_law_most"] (spM K T m__law_t_row) := fn_v0 F sc__law_t_row fun cdv A outer s H E E' hr =>
    (vb_cons (vs_set (i := 2) sc__law_t_row.nd rfl (Or.inr rfl) (ve_call (ok__law_pick D TB) (hr.mono (by first | decide | omega)) rfl (D.g4) passV (va_cons (ve_var (i := 0) rfl (Or.inr (Or.inl rfl))) (va_cons (ve_lst (va_cons (ve_str (by decide +kernel)) (va_cons (ve_str (by decide +kernel)) (va_cons (ve_str (by decide +kernel)) (va_cons (ve_str (by decide +kernel)) (va_cons (ve_str (by decide +kernel)) (va_cons (ve_str (by decide +kernel)) (va_cons (ve_str (by decide +kernel)) (va_cons (ve_str (by decide +kernel)) (va_cons (ve_str (by decide +kernel)) (va_cons (ve_str (by decide +kernel)) (va_cons (ve_str (by decide +kernel)) va_nil)))))))))))) va_nil))))
    (vb_one (vs_ret (ve_join (ve_str (by decide +kernel)) (ve_frz (ve_lc (own := [("_law_k", 3)]) rfl sc__law_t_row.nd (vi_range1 rfl (D.n1) (va_cons (ve_call (ok__law_draw D TB) (hr.mono (by first | decide | omega)) rfl (D.g2) passV (va_cons (ve_var (i := 0) rfl (Or.inr (Or.inl rfl))) (va_cons (ve_op or_add o2_add (ve_var (i := 1) rfl (Or.inl rfl)) ve_int) va_nil))) va_nil)) (blkOk_by (by kernel_rfl)) (by decide) (fun _ _ _ _ _ => (vgw_name (i := 3) sc__law_t_row.nd rfl (Or.inl rfl))) (fun _ _ _ _ _ => vts_nil) (fun _ _ _ _ _ => (ve_call (ok__law_pick D TB) (hr.mono (by first | decide | omega)) rfl (D.g4) passV (va_cons (ve_var (i := 0) rfl (Or.inr (Or.inl rfl))) (va_cons (ve_var (i := 2) rfl (Or.inr (Or.inl rfl))) va_nil))))))))))
theorem ok__law_t_row {w : World} {K : PySem.W.Frag} {mg : Str → Option Value} {base : Heap} (D : Facts K mg) (TB : TbsOk K mg base T) : Fn PP w K mg base T CX0 3 (He.ga K "_law_t_row") m__law_t_row := by
  obtain ⟨fd, F⟩ := D.d__law_t_row
  exact Fn.plain (fo__law_t_row D TB F) (F.bindsN fun _ _ _ _ _ _ us hl => match us, hl with | [_, _], _ => rfl) F.kp
/-! _law_t_slot -/
theorem sc__law_t_slot : FnScope ["_law_blocks", "_law_block"] ["_law_blocks", "_law_block"] (defScope s__law_t_slot) := ⟨rfl, rfl, rfl, by decide +kernel, rfl, by decide +kernel, by decide +kernel⟩
def t__law_t_slot : TSv :=
  (sRet (eIf (tVal (eOp2 gtF (eVar 1) (eC (.int 0)))) (eIx (eIx (eVar 0) (eOp2 subF (eVar 1) (eC (.int 1)))) (eC (.int 0))) (eC (.int 0))))
def m__law_t_slot : FnM := fnM 2 2 t__law_t_slot
theorem fo__law_t_slot {w : World} {K : PySem.W.Frag} {mg : Str → Option Value} {base : Heap} (D : Facts K mg) (TB : TbsOk K mg base T) {fd : FuncData} (F : FunD K "_law_t_slot" "_law_t_slot" (defArgs s__law_t_slot) (defBody s__law_t_slot) (defScope s__law_t_slot) [] [] (He.ga K "_law_t_slot") fd) : FnOk PP w K mg base CX0 1 (He.ga K "_law_t_slot") fd ["_law_blocks", "_law_block"] (spM K T m__law_t_slot) := fn_v0 F sc__law_t_slot fun cdv A outer s H E E' hr =>
    (vb_one (vs_ret (ve_if (vt_cmp op_gt (o2_cmp (p := fun i j => decide (j < i))) (ve_var (i := 1) rfl (Or.inl rfl)) ve_int (nomark _)) (ve_ix (ve_ix (ve_var (i := 0) rfl (Or.inl rfl)) (ve_op op_sub o2_sub (ve_var (i := 1) rfl (Or.inl rfl)) ve_int)) ve_int) ve_int)))
theorem ok__law_t_slot {w : World} {K : PySem.W.Frag} {mg : Str → Option Value} {base : Heap} (D : Facts K mg) (TB : TbsOk K mg base T) : Fn PP w K mg base T CX0 1 (He.ga K "_law_t_slot") m__law_t_slot := by
  obtain ⟨fd, F⟩ := D.d__law_t_slot
  exact Fn.plain (fo__law_t_slot D TB F) (F.bindsN fun _ _ _ _ _ _ us hl => match us, hl with | [_, _], _ => rfl) F.kp
/-! _law_t_drawn -/
theorem sc__law_t_drawn : FnScope ["_law_stream", "_law_most", "_law_blocks", "_law_k", "_law_parent"] ["_law_stream", "_law_most"] (defScope s__law_t_drawn) := ⟨rfl, rfl, rfl, by decide +kernel, rfl, by decide +kernel, by decide +kernel⟩
def t__law_t_drawn : TSv :=
  (bCons (sSet 2 (eLstM aNil))
    (bCons (sFor (iRange1 (aCons (eCall m__law_draw (aCons (eVar 0) (aCons (eOp2 addF (eVar 1) (eC (.int 1))) aNil))) aNil)) (gNm 3) (bCons (sSet 4 (eCall m__law_pick (aCons (eVar 0) (aCons (eLst (aCons (eCall m__law_draw (aCons (eVar 0) (aCons (eOp2 addF (eCB (g1 lenF) (aCons (eVar 2) aNil)) (eC (.int 1))) aNil))) (aCons (eCB (g1 lenF) (aCons (eVar 2) aNil)) aNil))) aNil))))
    (sExpr (eMut false cAppend (eVar 2) (aCons (eTup (aCons (eOp2 addF (eOp2 addF (eCall (bor m__law_t_slot) (aCons (eVar 2) (aCons (eVar 4) aNil))) (eC (.int 1))) (eCall m__law_pick (aCons (eVar 0) (aCons (eLst (aCons (eC (.int 0)) (aCons (eC (.int 0)) (aCons (eC (.int 1)) (aCons (eC (.int 2)) (aCons (eOp2 powF (eC (.int 10)) (eC (.int 6))) aNil)))))) aNil)))) (aCons (eVar 4) aNil))) aNil)))))
    (sRet (eFrzC (eVar 2)))))
def m__law_t_drawn : FnM := fnM 2 5 t__law_t_drawn
theorem fo__law_t_drawn {w : World} {K : PySem.W.Frag} {mg : Str → Option Value} {base : Heap} (D : Facts K mg) (TB : TbsOk K mg base T) {fd : FuncData} (F : FunD K "_law_t_drawn" "_law_t_drawn" (defArgs s__law_t_drawn) (defBody s__law_t_drawn) (defScope s__law_t_drawn) [] [] (He.ga K "_law_t_drawn") fd) : FnOk PP w K mg base CX0 3 (He.ga K "_law_t_drawn") fd ["_law_stream", "_law_most"] (spM K T m__law_t_drawn) := fn_v0 F sc__law_t_drawn fun cdv A outer s H E E' hr =>
    (vb_cons (vs_set (i := 2) sc__law_t_drawn.nd rfl (Or.inl rfl) (ve_lstM va_nil))
    (vb_cons (vs_for PassesOwn.never rfl (vi_range1 rfl (D.n1) (va_cons (ve_call (ok__law_draw D TB) (hr.mono (by first | decide | omega)) rfl (D.g2) passV (va_cons (ve_var (i := 0) rfl (Or.inl rfl)) (va_cons (ve_op or_add o2_add (ve_var (i := 1) rfl (Or.inl rfl)) ve_int) va_nil))) va_nil)) (vg_name (i := 3) sc__law_t_drawn.nd rfl (Or.inl rfl)) (vb_cons (vs_set (i := 4) sc__law_t_drawn.nd rfl (Or.inl rfl) (ve_call (ok__law_pick D TB) (hr.mono (by first | decide | omega)) rfl (D.g4) passV (va_cons (ve_var (i := 0) rfl (Or.inl rfl)) (va_cons (ve_lst (va_cons (ve_call (ok__law_draw D TB) (hr.mono (by first | decide | omega)) rfl (D.g2) passV (va_cons (ve_var (i := 0) rfl (Or.inl rfl)) (va_cons (ve_op or_add o2_add (ve_callB cr_len on_len rfl (D.n3) (by decide +kernel) (va_cons (ve_var (i := 2) rfl (Or.inl rfl)) va_nil)) ve_int) va_nil))) (va_cons (ve_callB cr_len on_len rfl (D.n3) (by decide +kernel) (va_cons (ve_var (i := 2) rfl (Or.inl rfl)) va_nil)) va_nil))) va_nil))))
    (vb_one (vs_expr (ve_append (ve_var (i := 2) rfl (Or.inl rfl)) (ve_tup (va_cons (ve_op or_add o2_add (ve_op or_add o2_add (ve_call (Fn.bor (ok__law_t_slot D TB)) (hr.mono (by first | decide | omega)) rfl (D.g6) passV (va_cons (ve_var (i := 2) rfl (Or.inl rfl)) (va_cons (ve_var (i := 4) rfl (Or.inl rfl)) va_nil))) ve_int) (ve_call (ok__law_pick D TB) (hr.mono (by first | decide | omega)) rfl (D.g4) passV (va_cons (ve_var (i := 0) rfl (Or.inl rfl)) (va_cons (ve_lst (va_cons ve_int (va_cons ve_int (va_cons ve_int (va_cons ve_int (va_cons (ve_op op_pow o2_pow ve_int ve_int) va_nil)))))) va_nil)))) (va_cons (ve_var (i := 4) rfl (Or.inl rfl)) va_nil))))))))
    (vb_one (vs_ret (ve_frzC (ve_var (i := 2) rfl (Or.inl rfl)))))))
theorem ok__law_t_drawn {w : World} {K : PySem.W.Frag} {mg : Str → Option Value} {base : Heap} (D : Facts K mg) (TB : TbsOk K mg base T) : Fn PP w K mg base T CX0 3 (He.ga K "_law_t_drawn") m__law_t_drawn := by
  obtain ⟨fd, F⟩ := D.d__law_t_drawn
  exact Fn.plain (fo__law_t_drawn D TB F) (F.bindsN fun _ _ _ _ _ _ us hl => match us, hl with | [_, _], _ => rfl) F.kp
/-! _law_lines -/
theorem sc__law_lines : FnScope ["_law_stream", "_law_found", "_law_sign", "_law_blocks", "_law_many", "_law_slot", "_law_parent"] ["_law_stream"] (defScope s__law_lines) := ⟨rfl, rfl, rfl, by decide +kernel, rfl, by decide +kernel, by decide +kernel⟩
def t__law_lines : TSv :=
  (bCons (sIf (tVal (eOp2 eqF (eCall m__law_draw (aCons (eVar 0) (aCons (eC (.int 2)) aNil))) (eC (.int 0)))) (bCons (sSet 1 (eLstM aNil))
    (bCons (sFor (iAny (eCall m__law_t_row (aCons (eVar 0) (aCons (eC (.int 8)) aNil)))) (gNm 2) (sIf (tOrV (tVal (eOp2 eqF (eVar 1) (eLst aNil))) (tVal (eOp2 neF (eIx (eIx (eVar 1) (eOp1 negF (eC (.int 1)))) (eC (.int 0))) (eVar 2)))) (sExpr (eMut false cAppend (eVar 1) (aCons (eTup (aCons (eVar 2) (aCons (eOp2 addF (eC (.int 1)) (eCall m__law_draw (aCons (eVar 0) (aCons (eC (.int 30)) aNil)))) aNil))) aNil))) bNil))
    (bCons (sSet 1 (eFrzC (eVar 1)))
    (sRet (eOp2 addF (eLst (aCons (eC (.str [114, 111, 119])) aNil)) (eFrz (eLc (iAny (eVar 1)) (gTp (gsCons (gNm 2) (gsCons (gNm 4) gsNil))) tYesV (eOp2 addF (eOp2 addF (eVar 2) (eC (.str [32]))) (eCB (g1 strF) (aCons (eVar 4) aNil))) [2, 4]))))))) bNil)
    (bCons (sSet 3 (eCall m__law_t_drawn (aCons (eVar 0) (aCons (eC (.int 7)) aNil))))
    (sRet (eOp2 addF (eLst (aCons (eC (.str [116, 114, 101, 101])) aNil)) (eFrz (eLc (iAny (eVar 3)) (gTp (gsCons (gNm 5) (gsCons (gNm 6) gsNil))) tYesV (eOp2 addF (eOp2 addF (eCB (g1 strF) (aCons (eVar 5) aNil)) (eC (.str [32]))) (eCB (g1 strF) (aCons (eVar 6) aNil))) [5, 6]))))))
def m__law_lines : FnM := fnM 1 7 t__law_lines
theorem fo__law_lines {w : World} {K : PySem.W.Frag} {mg : Str → Option Value} {base : Heap} (D : Facts K mg) (TB : TbsOk K mg base T) {fd : FuncData} (F : FunD K "_law_lines" "_law_lines" (defArgs s__law_lines) (defBody s__law_lines) (defScope s__law_lines) [] [] (He.ga K "_law_lines") fd) : FnOk PP w K mg base CX0 4 (He.ga K "_law_lines") fd ["_law_stream"] (spM K T m__law_lines) := fn_v0 F sc__law_lines fun cdv A outer s H E E' hr =>
    (vb_cons (vs_if (vt_cmp (or_eq (hu64 hr)) o2_eq (ve_call (ok__law_draw D TB) (hr.mono (by first | decide | omega)) rfl (D.g2) passV (va_cons (ve_var (i := 0) rfl (Or.inl rfl)) (va_cons ve_int va_nil))) ve_int (nomark _)) (vb_cons (vs_set (i := 1) sc__law_lines.nd rfl (Or.inl rfl) (ve_lstM va_nil))
    (vb_cons (vs_for PassesOwn.never rfl (vi_any (ve_call (ok__law_t_row D TB) (hr.mono (by first | decide | omega)) rfl (D.g3) passV (va_cons (ve_var (i := 0) rfl (Or.inl rfl)) (va_cons ve_int va_nil)))) (vg_name (i := 2) sc__law_lines.nd rfl (Or.inl rfl)) (vb_one (vs_if (VW.vt (vw_or (vt_cmp (or_eq (hu64 hr)) o2_eq (ve_var (i := 1) rfl (Or.inl rfl)) (ve_lst va_nil) (nomark _)) (vw_or1 (vt_cmp (or_ne (hu64 hr)) o2_ne (ve_ix (ve_ix (ve_var (i := 1) rfl (Or.inl rfl)) (ve_un un_neg o1_neg ve_int)) ve_int) (ve_var (i := 2) rfl (Or.inl rfl)) (nomark _))))) (vb_one (vs_expr (ve_append (ve_var (i := 1) rfl (Or.inl rfl)) (ve_tup (va_cons (ve_var (i := 2) rfl (Or.inl rfl)) (va_cons (ve_op or_add o2_add ve_int (ve_call (ok__law_draw D TB) (hr.mono (by first | decide | omega)) rfl (D.g2) passV (va_cons (ve_var (i := 0) rfl (Or.inl rfl)) (va_cons ve_int va_nil)))) va_nil)))))) vb_nil)))
    (vb_fz (i := 1) (vb_one (vs_ret (ve_op or_add o2_add (ve_lst (va_cons (ve_str (by decide +kernel)) va_nil)) (ve_frz (ve_lc (own := [("_law_sign", 2), ("_law_many", 4)]) rfl sc__law_lines.nd (vi_any (ve_var (i := 1) rfl (Or.inl rfl))) (blkOk_by (by kernel_rfl)) (by decide) (fun _ _ _ _ _ => (vgw_tup rfl (vgsw_cons (vgw_name (i := 2) sc__law_lines.nd rfl (Or.inl rfl)) (vgsw_cons (vgw_name (i := 4) sc__law_lines.nd rfl (Or.inl rfl)) vgsw_nil)) (gsCons_len (gsCons_len (fun _ _ _ h => gsNil_len h))))) (fun _ _ _ _ _ => vts_nil) (fun _ _ _ _ _ => (ve_op or_add o2_add (ve_op or_add o2_add (ve_var (i := 2) rfl (Or.inl rfl)) (ve_str (by decide +kernel))) (ve_callTy cr_str on_str rfl (D.n4) (by decide +kernel) (va_cons (ve_var (i := 4) rfl (Or.inl rfl)) va_nil)))))))))))) vb_nil)
    (vb_cons (vs_set (i := 3) sc__law_lines.nd rfl (Or.inl rfl) (ve_call (ok__law_t_drawn D TB) (hr.mono (by first | decide | omega)) rfl (D.g5) passV (va_cons (ve_var (i := 0) rfl (Or.inl rfl)) (va_cons ve_int va_nil))))
    (vb_one (vs_ret (ve_op or_add o2_add (ve_lst (va_cons (ve_str (by decide +kernel)) va_nil)) (ve_frz (ve_lc (own := [("_law_slot", 5), ("_law_parent", 6)]) rfl sc__law_lines.nd (vi_any (ve_var (i := 3) rfl (Or.inl rfl))) (blkOk_by (by kernel_rfl)) (by decide) (fun _ _ _ _ _ => (vgw_tup rfl (vgsw_cons (vgw_name (i := 5) sc__law_lines.nd rfl (Or.inl rfl)) (vgsw_cons (vgw_name (i := 6) sc__law_lines.nd rfl (Or.inl rfl)) vgsw_nil)) (gsCons_len (gsCons_len (fun _ _ _ h => gsNil_len h))))) (fun _ _ _ _ _ => vts_nil) (fun _ _ _ _ _ => (ve_op or_add o2_add (ve_op or_add o2_add (ve_callTy cr_str on_str rfl (D.n4) (by decide +kernel) (va_cons (ve_var (i := 5) rfl (Or.inl rfl)) va_nil)) (ve_str (by decide +kernel))) (ve_callTy cr_str on_str rfl (D.n4) (by decide +kernel) (va_cons (ve_var (i := 6) rfl (Or.inl rfl)) va_nil)))))))))))
theorem ok__law_lines {w : World} {K : PySem.W.Frag} {mg : Str → Option Value} {base : Heap} (D : Facts K mg) (TB : TbsOk K mg base T) : Fn PP w K mg base T CX0 4 (He.ga K "_law_lines") m__law_lines := by
  obtain ⟨fd, F⟩ := D.d__law_lines
  exact Fn.plain (fo__law_lines D TB F) (F.bindsN fun _ _ _ _ _ _ us hl => match us, hl with | [_], _ => rfl) F.kp
/-! _law_bent -/
theorem sc__law_bent : FnScope ["_law_stream", "_law_lines_here", "_law_way", "_law_k", "_law_j", "_law_some", "_law_odd", "_law_line", "_law_at", "_law_sign", "_law_cut", "_law_bent_here"] ["_law_stream", "_law_lines_here"] (defScope s__law_bent) := ⟨rfl, rfl, rfl, by decide +kernel, rfl, by decide +kernel, by decide +kernel⟩
def t__law_bent : TSv :=
  (bCons (sPar2 2 3 (aCons (eCall m__law_draw (aCons (eVar 0) (aCons (eC (.int 8)) aNil))) (aCons (eCall m__law_draw (aCons (eVar 0) (aCons (eCB (g1 lenF) (aCons (eVar 1) aNil)) aNil))) aNil)))
    (bCons (sIf (tVal (eOp2 eqF (eVar 2) (eC (.int 0)))) (sRet (eIf (tVal (eOp2 gtF (eCB (g1 lenF) (aCons (eVar 1) aNil)) (eC (.int 1)))) (eOp2 addF (eSl (eVar 1) oNone (oSome (eVar 3))) (eSl (eVar 1) (oSome (eOp2 addF (eVar 3) (eC (.int 1)))) oNone)) (eLst (aCons (eC (.str [])) aNil)))) bNil)
    (bCons (sIf (tVal (eOp2 eqF (eVar 2) (eC (.int 1)))) (sRet (eOp2 addF (eOp2 addF (eSl (eVar 1) oNone (oSome (eVar 3))) (eSl (eVar 1) (oSome (eVar 3)) (oSome (eOp2 addF (eVar 3) (eC (.int 1)))))) (eSl (eVar 1) (oSome (eVar 3)) oNone))) bNil)
    (bCons (sIf (tVal (eOp2 eqF (eVar 2) (eC (.int 2)))) (bCons (sPar2 4 5 (aCons (eCall m__law_draw (aCons (eVar 0) (aCons (eCB (g1 lenF) (aCons (eVar 1) aNil)) aNil))) (aCons (eListM (aCons (eVar 1) aNil)) aNil)))
    (bCons (sUnp ((mSub (eVar 5) (eVar 3)) :: ((mSub (eVar 5) (eVar 4)) :: [])) (aCons (eIx (eVar 1) (eVar 4)) (aCons (eIx (eVar 1) (eVar 3)) aNil)))
    (sRet (eFrzC (eVar 5))))) bNil)
    (bCons (sIf (tVal (eOp2 eqF (eVar 2) (eC (.int 3)))) (bCons (sSet 6 (eLst (aCons (eC (.str [])) (aCons (eC (.str [114, 111, 119])) (aCons (eC (.str [116, 114, 101, 101])) (aCons (eC (.str [104, 32, 49])) (aCons (eC (.str [65, 32, 48])) (aCons (eC (.str [49, 32, 48])) (aCons (eC (.str [48, 32, 48])) (aCons (eC (.str [104])) (aCons (eC (.str [49])) (aCons (eC (.str [50, 32, 49, 32, 48])) aNil))))))))))))
    (bCons (sSet 6 (eOp2 addF (eVar 6) (eLst (aCons (eC (.str [72, 32, 32, 50])) (aCons (eC (.str [104, 32, 45, 49])) (aCons (eC (.str [120, 32, 51])) (aCons (eC (.str [48, 49, 32, 48])) (aCons (eC (.str [53, 32, 52])) (aCons (eC (.str [32])) (aCons (eC (.str [104, 65, 32, 49])) (aCons (eC (.str [49, 32, 48, 48])) (aCons (eC (.str [32, 51])) (aCons (eC (.str [104, 72, 32, 49])) aNil)))))))))))))
    (sRet (eOp2 addF (eOp2 addF (eSl (eVar 1) oNone (oSome (eVar 3))) (eLst (aCons (eCall m__law_pick (aCons (eVar 0) (aCons (eVar 6) aNil))) aNil))) (eSl (eVar 1) (oSome (eVar 3)) oNone))))) bNil)
    (bCons (sSet 7 (eIx (eVar 1) (eVar 3)))
    (bCons (sSet 8 (eCall m__law_draw (aCons (eVar 0) (aCons (eOp2 addF (eCB (g1 lenF) (aCons (eVar 7) aNil)) (eC (.int 1))) aNil))))
    (bCons (sSet 9 (eCall m__law_pick (aCons (eVar 0) (aCons (eLst (aCons (eC (.str [32])) (aCons (eC (.str [97])) (aCons (eC (.str [48])) (aCons (eC (.str [49])) (aCons (eC (.str [50])) (aCons (eC (.str [104])) (aCons (eC (.str [45])) (aCons (eC (.str [65])) (aCons (eC (.str [])) (aCons (eC (.str [57])) (aCons (eC (.str [46])) aNil)))))))))))) aNil))))
    (bCons (sSet 10 (eOp2 addF (eVar 8) (eCall m__law_draw (aCons (eVar 0) (aCons (eC (.int 2)) aNil)))))
    (bCons (sSet 11 (eOp2 addF (eOp2 addF (eSl (eVar 7) oNone (oSome (eVar 8))) (eVar 9)) (eSl (eVar 7) (oSome (eVar 10)) oNone)))
    (sRet (eOp2 addF (eOp2 addF (eSl (eVar 1) oNone (oSome (eVar 3))) (eLst (aCons (eVar 11) aNil))) (eSl (eVar 1) (oSome (eOp2 addF (eVar 3) (eC (.int 1)))) oNone)))))))))))))
def m__law_bent : FnM := fnM 2 12 t__law_bent
theorem fo__law_bent {w : World} {K : PySem.W.Frag} {mg : Str → Option Value} {base : Heap} (D : Facts K mg) (TB : TbsOk K mg base T) {fd : FuncData} (F : FunD K "_law_bent" "_law_bent" (defArgs s__law_bent) (defBody s__law_bent) (defScope s__law_bent) [] [] (He.ga K "_law_bent") fd) : FnOk PP w K mg base CX0 3 (He.ga K "_law_bent") fd ["_law_stream", "_law_lines_here"] (spM K T m__law_bent) := fn_v0 F sc__law_bent fun cdv A outer s H E E' hr =>
    (vb_cons (vs_par2 (i := 2) (j := 3) rfl sc__law_bent.nd rfl rfl (by decide) rfl rfl (va_cons (ve_call (ok__law_draw D TB) (hr.mono (by first | decide | omega)) rfl (D.g2) passV (va_cons (ve_var (i := 0) rfl (Or.inl rfl)) (va_cons ve_int va_nil))) (va_cons (ve_call (ok__law_draw D TB) (hr.mono (by first | decide | omega)) rfl (D.g2) passV (va_cons (ve_var (i := 0) rfl (Or.inl rfl)) (va_cons (ve_callB cr_len on_len rfl (D.n3) (by decide +kernel) (va_cons (ve_var (i := 1) rfl (Or.inl rfl)) va_nil)) va_nil))) va_nil)) (by kernel_rfl))
    (vb_cons (vs_if (vt_cmp (or_eq (hu64 hr)) o2_eq (ve_var (i := 2) rfl (Or.inl rfl)) ve_int (nomark _)) (vb_one (vs_ret (ve_if (vt_cmp op_gt (o2_cmp (p := fun i j => decide (j < i))) (ve_callB cr_len on_len rfl (D.n3) (by decide +kernel) (va_cons (ve_var (i := 1) rfl (Or.inl rfl)) va_nil)) ve_int (nomark _)) (ve_op or_add o2_add (ve_sl (ve_var (i := 1) rfl (Or.inl rfl)) vo_none (vo_some (ve_var (i := 3) rfl (Or.inl rfl)))) (ve_sl (ve_var (i := 1) rfl (Or.inl rfl)) (vo_some (ve_op or_add o2_add (ve_var (i := 3) rfl (Or.inl rfl)) ve_int)) vo_none)) (ve_lst (va_cons (ve_str (by decide +kernel)) va_nil))))) vb_nil)
    (vb_cons (vs_if (vt_cmp (or_eq (hu64 hr)) o2_eq (ve_var (i := 2) rfl (Or.inl rfl)) ve_int (nomark _)) (vb_one (vs_ret (ve_op or_add o2_add (ve_op or_add o2_add (ve_sl (ve_var (i := 1) rfl (Or.inl rfl)) vo_none (vo_some (ve_var (i := 3) rfl (Or.inl rfl)))) (ve_sl (ve_var (i := 1) rfl (Or.inl rfl)) (vo_some (ve_var (i := 3) rfl (Or.inl rfl))) (vo_some (ve_op or_add o2_add (ve_var (i := 3) rfl (Or.inl rfl)) ve_int)))) (ve_sl (ve_var (i := 1) rfl (Or.inl rfl)) (vo_some (ve_var (i := 3) rfl (Or.inl rfl))) vo_none)))) vb_nil)
    (vb_cons (vs_if (vt_cmp (or_eq (hu64 hr)) o2_eq (ve_var (i := 2) rfl (Or.inl rfl)) ve_int (nomark _)) (vb_cons (vs_par2 (i := 4) (j := 5) rfl sc__law_bent.nd rfl rfl (by decide) rfl rfl (va_cons (ve_call (ok__law_draw D TB) (hr.mono (by first | decide | omega)) rfl (D.g2) passV (va_cons (ve_var (i := 0) rfl (Or.inl rfl)) (va_cons (ve_callB cr_len on_len rfl (D.n3) (by decide +kernel) (va_cons (ve_var (i := 1) rfl (Or.inl rfl)) va_nil)) va_nil))) (va_cons (ve_listM rfl (D.n0) (va_cons (ve_var (i := 1) rfl (Or.inl rfl)) va_nil)) va_nil)) (by kernel_rfl))
    (vb_cons (vs_unp rfl (va_cons (ve_ix (ve_var (i := 1) rfl (Or.inl rfl)) (ve_var (i := 4) rfl (Or.inl rfl))) (va_cons (ve_ix (ve_var (i := 1) rfl (Or.inl rfl)) (ve_var (i := 3) rfl (Or.inl rfl))) va_nil)) (vms_cons (vm_sub (j := 5) (k := 3) rfl (Or.inl rfl) rfl (Or.inl rfl)) (vms_cons (vm_sub (j := 5) (k := 4) rfl (Or.inl rfl) rfl (Or.inl rfl)) vms_nil)))
    (vb_one (vs_ret (ve_frzC (ve_var (i := 5) rfl (Or.inl rfl))))))) vb_nil)
    (vb_cons (vs_if (vt_cmp (or_eq (hu64 hr)) o2_eq (ve_var (i := 2) rfl (Or.inl rfl)) ve_int (nomark _)) (vb_cons (vs_set (i := 6) sc__law_bent.nd rfl (Or.inl rfl) (ve_lst (va_cons (ve_str (by decide +kernel)) (va_cons (ve_str (by decide +kernel)) (va_cons (ve_str (by decide +kernel)) (va_cons (ve_str (by decide +kernel)) (va_cons (ve_str (by decide +kernel)) (va_cons (ve_str (by decide +kernel)) (va_cons (ve_str (by decide +kernel)) (va_cons (ve_str (by decide +kernel)) (va_cons (ve_str (by decide +kernel)) (va_cons (ve_str (by decide +kernel)) va_nil))))))))))))
    (vb_cons (vs_set (i := 6) sc__law_bent.nd rfl (Or.inl rfl) (ve_op or_add o2_add (ve_var (i := 6) rfl (Or.inl rfl)) (ve_lst (va_cons (ve_str (by decide +kernel)) (va_cons (ve_str (by decide +kernel)) (va_cons (ve_str (by decide +kernel)) (va_cons (ve_str (by decide +kernel)) (va_cons (ve_str (by decide +kernel)) (va_cons (ve_str (by decide +kernel)) (va_cons (ve_str (by decide +kernel)) (va_cons (ve_str (by decide +kernel)) (va_cons (ve_str (by decide +kernel)) (va_cons (ve_str (by decide +kernel)) va_nil)))))))))))))
    (vb_one (vs_ret (ve_op or_add o2_add (ve_op or_add o2_add (ve_sl (ve_var (i := 1) rfl (Or.inl rfl)) vo_none (vo_some (ve_var (i := 3) rfl (Or.inl rfl)))) (ve_lst (va_cons (ve_call (ok__law_pick D TB) (hr.mono (by first | decide | omega)) rfl (D.g4) passV (va_cons (ve_var (i := 0) rfl (Or.inl rfl)) (va_cons (ve_var (i := 6) rfl (Or.inl rfl)) va_nil))) va_nil))) (ve_sl (ve_var (i := 1) rfl (Or.inl rfl)) (vo_some (ve_var (i := 3) rfl (Or.inl rfl))) vo_none)))))) vb_nil)
    (vb_cons (vs_set (i := 7) sc__law_bent.nd rfl (Or.inl rfl) (ve_ix (ve_var (i := 1) rfl (Or.inl rfl)) (ve_var (i := 3) rfl (Or.inl rfl))))
    (vb_cons (vs_set (i := 8) sc__law_bent.nd rfl (Or.inl rfl) (ve_call (ok__law_draw D TB) (hr.mono (by first | decide | omega)) rfl (D.g2) passV (va_cons (ve_var (i := 0) rfl (Or.inl rfl)) (va_cons (ve_op or_add o2_add (ve_callB cr_len on_len rfl (D.n3) (by decide +kernel) (va_cons (ve_var (i := 7) rfl (Or.inl rfl)) va_nil)) ve_int) va_nil))))
    (vb_cons (vs_set (i := 9) sc__law_bent.nd rfl (Or.inl rfl) (ve_call (ok__law_pick D TB) (hr.mono (by first | decide | omega)) rfl (D.g4) passV (va_cons (ve_var (i := 0) rfl (Or.inl rfl)) (va_cons (ve_lst (va_cons (ve_str (by decide +kernel)) (va_cons (ve_str (by decide +kernel)) (va_cons (ve_str (by decide +kernel)) (va_cons (ve_str (by decide +kernel)) (va_cons (ve_str (by decide +kernel)) (va_cons (ve_str (by decide +kernel)) (va_cons (ve_str (by decide +kernel)) (va_cons (ve_str (by decide +kernel)) (va_cons (ve_str (by decide +kernel)) (va_cons (ve_str (by decide +kernel)) (va_cons (ve_str (by decide +kernel)) va_nil)))))))))))) va_nil))))
    (vb_cons (vs_set (i := 10) sc__law_bent.nd rfl (Or.inl rfl) (ve_op or_add o2_add (ve_var (i := 8) rfl (Or.inl rfl)) (ve_call (ok__law_draw D TB) (hr.mono (by first | decide | omega)) rfl (D.g2) passV (va_cons (ve_var (i := 0) rfl (Or.inl rfl)) (va_cons ve_int va_nil)))))
    (vb_cons (vs_set (i := 11) sc__law_bent.nd rfl (Or.inl rfl) (ve_op or_add o2_add (ve_op or_add o2_add (ve_sl (ve_var (i := 7) rfl (Or.inl rfl)) vo_none (vo_some (ve_var (i := 8) rfl (Or.inl rfl)))) (ve_var (i := 9) rfl (Or.inl rfl))) (ve_sl (ve_var (i := 7) rfl (Or.inl rfl)) (vo_some (ve_var (i := 10) rfl (Or.inl rfl))) vo_none)))
    (vb_one (vs_ret (ve_op or_add o2_add (ve_op or_add o2_add (ve_sl (ve_var (i := 1) rfl (Or.inl rfl)) vo_none (vo_some (ve_var (i := 3) rfl (Or.inl rfl)))) (ve_lst (va_cons (ve_var (i := 11) rfl (Or.inl rfl)) va_nil))) (ve_sl (ve_var (i := 1) rfl (Or.inl rfl)) (vo_some (ve_op or_add o2_add (ve_var (i := 3) rfl (Or.inl rfl)) ve_int)) vo_none))))))))))))))
theorem ok__law_bent {w : World} {K : PySem.W.Frag} {mg : Str → Option Value} {base : Heap} (D : Facts K mg) (TB : TbsOk K mg base T) : Fn PP w K mg base T CX0 3 (He.ga K "_law_bent") m__law_bent := by
  obtain ⟨fd, F⟩ := D.d__law_bent
  exact Fn.plain (fo__law_bent D TB F) (F.bindsN fun _ _ _ _ _ _ us hl => match us, hl with | [_, _], _ => rfl) F.kp
/-! _law_number -/
theorem sc__law_number : FnScope ["_law_word", "_law_sign"] ["_law_word"] (defScope s__law_number) := ⟨rfl, rfl, rfl, by decide +kernel, rfl, by decide +kernel, by decide +kernel⟩
def t__law_number : TSv :=
  (bCons (sIf (tOrV (tVal (eOp2 eqF (eVar 0) (eC (.str [])))) (tNotV (tVal (eCB (g1 allB) (aCons (eFrz (eLc (iAny (eVar 0)) (gNm 1) tYesV (eOp2 inF (eVar 1) (eC (.str [48, 49, 50, 51, 52, 53, 54, 55, 56, 57]))) [1])) aNil))))) (sRet (eC .non)) bNil)
    (sRet (eIf (tOrV (tVal (eOp2 neF (eIx (eVar 0) (eC (.int 0))) (eC (.str [48])))) (tVal (eOp2 eqF (eVar 0) (eC (.str [48]))))) (eCB (g1 intSF) (aCons (eVar 0) aNil)) (eC .non))))
def m__law_number : FnM := fnM 1 2 t__law_number
theorem fo__law_number {w : World} {K : PySem.W.Frag} {mg : Str → Option Value} {base : Heap} (D : Facts K mg) (TB : TbsOk K mg base T) {fd : FuncData} (F : FunD K "_law_number" "_law_number" (defArgs s__law_number) (defBody s__law_number) (defScope s__law_number) [] [] (He.ga K "_law_number") fd) : FnOk PP w K mg base CX0 1 (He.ga K "_law_number") fd ["_law_word"] (spM K T m__law_number) := fn_v0 F sc__law_number fun cdv A outer s H E E' hr =>
    (vb_cons (vs_if (VW.vt (vw_or (vt_cmp (or_eq (hu64 hr)) o2_eq (ve_var (i := 0) rfl (Or.inl rfl)) (ve_str (by decide +kernel)) (nomark _)) (vw_or1 (vt_not (vt_val (ve_callB (cr_all rfl) on_all rfl (D.n6) (by decide +kernel) (va_cons (ve_frz (ve_lc (own := [("_law_sign", 1)]) rfl sc__law_number.nd (vi_any (ve_var (i := 0) rfl (Or.inl rfl))) (blkOk_by (by kernel_rfl)) (by decide) (fun _ _ _ _ _ => (vgw_name (i := 1) sc__law_number.nd rfl (Or.inl rfl))) (fun _ _ _ _ _ => vts_nil) (fun _ _ _ _ _ => (ve_cmp (or_in (hu65 hr)) o2_in (ve_var (i := 1) rfl (Or.inl rfl)) (ve_str (by decide +kernel)) (by with_unfolding_all rfl))))) va_nil))))))) (vb_one (vs_ret ve_non)) vb_nil)
    (vb_one (vs_ret (ve_if (VW.vt (vw_or (vt_cmp (or_ne (hu64 hr)) o2_ne (ve_ix (ve_var (i := 0) rfl (Or.inl rfl)) ve_int) (ve_str (by decide +kernel)) (nomark _)) (vw_or1 (vt_cmp (or_eq (hu64 hr)) o2_eq (ve_var (i := 0) rfl (Or.inl rfl)) (ve_str (by decide +kernel)) (nomark _))))) (ve_callTy call_int_str on_intS rfl (D.n2) (by decide +kernel) (va_cons (ve_var (i := 0) rfl (Or.inl rfl)) va_nil)) ve_non))))
theorem ok__law_number {w : World} {K : PySem.W.Frag} {mg : Str → Option Value} {base : Heap} (D : Facts K mg) (TB : TbsOk K mg base T) : Fn PP w K mg base T CX0 1 (He.ga K "_law_number") m__law_number := by
  obtain ⟨fd, F⟩ := D.d__law_number
  exact Fn.plain (fo__law_number D TB F) (F.bindsN fun _ _ _ _ _ _ us hl => match us, hl with | [_], _ => rfl) F.kp
/-! _law_row_fault -/
theorem sc__law_row_fault : FnScope ["_law_lines_here", "_law_last", "_law_at", "_law_line", "_law_words"] ["_law_lines_here"] (defScope s__law_row_fault) := ⟨rfl, rfl, rfl, by decide +kernel, rfl, by decide +kernel, by decide +kernel⟩
def t__law_row_fault : TSv :=
  (bCons (sSet 1 (eC (.str [])))
    (bCons (sFor (iEnum (aCons (eSl (eVar 0) (oSome (eC (.int 1))) oNone) aNil)) (gTp (gsCons (gNm 2) (gsCons (gNm 3) gsNil))) (bCons (sSet 4 (eBM "str" splitF (eVar 3) (aCons (eC (.str [32])) aNil)))
    (bCons (sIf (tOrV (tVal (eOp2 neF (eCB (g1 lenF) (aCons (eVar 4) aNil)) (eC (.int 2)))) (tOrV (tVal (eOp2 ninF (eIx (eVar 4) (eC (.int 0))) (eTup (aCons (eC (.str [104])) (aCons (eC (.str [72])) (aCons (eC (.str [46])) (aCons (eC (.str [65])) aNil))))))) (tVal (eOp2 eqF (eIx (eVar 4) (eC (.int 0))) (eVar 1))))) (sRet (eOp2 addF (eVar 2) (eC (.int 2)))) bNil)
    (bCons (sIf (tVal (eOp2 inF (eCall m__law_number (aCons (eIx (eVar 4) (eC (.int 1))) aNil)) (eTup (aCons (eC .non) (aCons (eC (.int 0)) aNil))))) (sRet (eOp2 addF (eVar 2) (eC (.int 2)))) bNil)
    (sSet 1 (eIx (eVar 4) (eC (.int 0))))))))
    (sRet (eC .non))))
def m__law_row_fault : FnM := fnM 1 5 t__law_row_fault
theorem fo__law_row_fault {w : World} {K : PySem.W.Frag} {mg : Str → Option Value} {base : Heap} (D : Facts K mg) (TB : TbsOk K mg base T) {fd : FuncData} (F : FunD K "_law_row_fault" "_law_row_fault" (defArgs s__law_row_fault) (defBody s__law_row_fault) (defScope s__law_row_fault) [] [] (He.ga K "_law_row_fault") fd) : FnOk PP w K mg base CX0 2 (He.ga K "_law_row_fault") fd ["_law_lines_here"] (spM K T m__law_row_fault) := fn_v0 F sc__law_row_fault fun cdv A outer s H E E' hr =>
    (vb_cons (vs_set (i := 1) sc__law_row_fault.nd rfl (Or.inl rfl) (ve_str (by decide +kernel)))
    (vb_cons (vs_for PassesOwn.never rfl (vi_enum rfl (D.n5) (va_cons (ve_sl (ve_var (i := 0) rfl (Or.inl rfl)) (vo_some ve_int) vo_none) va_nil)) (vg_tup rfl (vgs_cons (vg_name (i := 2) sc__law_row_fault.nd rfl (Or.inl rfl)) (vgs_cons (vg_name (i := 3) sc__law_row_fault.nd rfl (Or.inl rfl)) vgs_nil)) (gsCons_len (gsCons_len (fun _ _ _ h => gsNil_len h)))) (vb_cons (vs_set (i := 4) sc__law_row_fault.nd rfl (Or.inl rfl) (ve_split (ve_var (i := 3) rfl (Or.inl rfl)) (ve_str (by decide +kernel))))
    (vb_cons (vs_if (VW.vt (vw_or (vt_cmp (or_ne (hu64 hr)) o2_ne (ve_callB cr_len on_len rfl (D.n3) (by decide +kernel) (va_cons (ve_var (i := 4) rfl (Or.inl rfl)) va_nil)) ve_int (nomark _)) (vw_or (vt_cmp (or_nin (hu65 hr)) o2_nin (ve_ix (ve_var (i := 4) rfl (Or.inl rfl)) ve_int) (ve_tup (va_cons (ve_str (by decide +kernel)) (va_cons (ve_str (by decide +kernel)) (va_cons (ve_str (by decide +kernel)) (va_cons (ve_str (by decide +kernel)) va_nil))))) (by with_unfolding_all rfl)) (vw_or1 (vt_cmp (or_eq (hu64 hr)) o2_eq (ve_ix (ve_var (i := 4) rfl (Or.inl rfl)) ve_int) (ve_var (i := 1) rfl (Or.inl rfl)) (nomark _)))))) (vb_one (vs_ret (ve_op or_add o2_add (ve_var (i := 2) rfl (Or.inl rfl)) ve_int))) vb_nil)
    (vb_cons (vs_if (vt_cmp (or_in (hu65 hr)) o2_in (ve_call (ok__law_number D TB) (hr.mono (by first | decide | omega)) rfl (D.g9) passV (va_cons (ve_ix (ve_var (i := 4) rfl (Or.inl rfl)) ve_int) va_nil)) (ve_tup (va_cons ve_non (va_cons ve_int va_nil))) (by with_unfolding_all rfl)) (vb_one (vs_ret (ve_op or_add o2_add (ve_var (i := 2) rfl (Or.inl rfl)) ve_int))) vb_nil)
    (vb_one (vs_set (i := 1) sc__law_row_fault.nd rfl (Or.inl rfl) (ve_ix (ve_var (i := 4) rfl (Or.inl rfl)) ve_int)))))))
    (vb_one (vs_ret ve_non))))
theorem ok__law_row_fault {w : World} {K : PySem.W.Frag} {mg : Str → Option Value} {base : Heap} (D : Facts K mg) (TB : TbsOk K mg base T) : Fn PP w K mg base T CX0 2 (He.ga K "_law_row_fault") m__law_row_fault := by
  obtain ⟨fd, F⟩ := D.d__law_row_fault
  exact Fn.plain (fo__law_row_fault D TB F) (F.bindsN fun _ _ _ _ _ _ us hl => match us, hl with | [_], _ => rfl) F.kp
/-! _law_tree_fault -/
theorem sc__law_tree_fault : FnScope ["_law_lines_here", "_law_slots", "_law_at", "_law_line", "_law_words", "_law_slot", "_law_parent", "_law_word"] ["_law_lines_here"] (defScope s__law_tree_fault) := ⟨rfl, rfl, rfl, by decide +kernel, rfl, by decide +kernel, by decide +kernel⟩
def t__law_tree_fault : TSv :=
  (bCons (sSet 1 (eLstM (aCons (eC (.int 0)) aNil)))
    (bCons (sFor (iEnum (aCons (eSl (eVar 0) (oSome (eC (.int 1))) oNone) aNil)) (gTp (gsCons (gNm 2) (gsCons (gNm 3) gsNil))) (bCons (sSet 4 (eBM "str" splitF (eVar 3) (aCons (eC (.str [32])) aNil)))
    (bCons (sIf (tOrV (tVal (eOp2 neF (eCB (g1 lenF) (aCons (eVar 4) aNil)) (eC (.int 2)))) (tVal (eOp2 inF (eC .non) (eFrz (eLc (iAny (eVar 4)) (gNm 7) tYesV (eCall m__law_number (aCons (eVar 7) aNil)) [7]))))) (sRet (eOp2 addF (eVar 2) (eC (.int 2)))) bNil)
    (bCons (sAsg (eFrz (eLc (iAny (eVar 4)) (gNm 7) tYesV (eCall m__law_number (aCons (eVar 7) aNil)) [7])) (gLs (gsCons (gNm 5) (gsCons (gNm 6) gsNil))))
    (bCons (sIf (tOrV (tVal (eOp2 gtF (eVar 6) (eVar 2))) (tVal (eOp2 leF (eVar 5) (eIx (eVar 1) (eVar 6))))) (sRet (eOp2 addF (eVar 2) (eC (.int 2)))) bNil)
    (sExpr (eMut false cAppend (eVar 1) (aCons (eVar 5) aNil))))))))
    (sRet (eC .non))))
def m__law_tree_fault : FnM := fnM 1 8 t__law_tree_fault
theorem fo__law_tree_fault {w : World} {K : PySem.W.Frag} {mg : Str → Option Value} {base : Heap} (D : Facts K mg) (TB : TbsOk K mg base T) {fd : FuncData} (F : FunD K "_law_tree_fault" "_law_tree_fault" (defArgs s__law_tree_fault) (defBody s__law_tree_fault) (defScope s__law_tree_fault) [] [] (He.ga K "_law_tree_fault") fd) : FnOk PP w K mg base CX0 2 (He.ga K "_law_tree_fault") fd ["_law_lines_here"] (spM K T m__law_tree_fault) := fn_v0 F sc__law_tree_fault fun cdv A outer s H E E' hr =>
    (vb_cons (vs_set (i := 1) sc__law_tree_fault.nd rfl (Or.inl rfl) (ve_lstM (va_cons ve_int va_nil)))
    (vb_cons (vs_for PassesOwn.never rfl (vi_enum rfl (D.n5) (va_cons (ve_sl (ve_var (i := 0) rfl (Or.inl rfl)) (vo_some ve_int) vo_none) va_nil)) (vg_tup rfl (vgs_cons (vg_name (i := 2) sc__law_tree_fault.nd rfl (Or.inl rfl)) (vgs_cons (vg_name (i := 3) sc__law_tree_fault.nd rfl (Or.inl rfl)) vgs_nil)) (gsCons_len (gsCons_len (fun _ _ _ h => gsNil_len h)))) (vb_cons (vs_set (i := 4) sc__law_tree_fault.nd rfl (Or.inl rfl) (ve_split (ve_var (i := 3) rfl (Or.inl rfl)) (ve_str (by decide +kernel))))
    (vb_cons (vs_if (VW.vt (vw_or (vt_cmp (or_ne (hu64 hr)) o2_ne (ve_callB cr_len on_len rfl (D.n3) (by decide +kernel) (va_cons (ve_var (i := 4) rfl (Or.inl rfl)) va_nil)) ve_int (nomark _)) (vw_or1 (vt_cmp (or_in (hu65 hr)) o2_in ve_non (ve_frz (ve_lc (own := [("_law_word", 7)]) rfl sc__law_tree_fault.nd (vi_any (ve_var (i := 4) rfl (Or.inl rfl))) (blkOk_by (by kernel_rfl)) (by decide) (fun _ _ _ _ _ => (vgw_name (i := 7) sc__law_tree_fault.nd rfl (Or.inl rfl))) (fun _ _ _ _ _ => vts_nil) (fun _ _ _ _ _ => (ve_call (ok__law_number D TB) (hr.mono (by first | decide | omega)) rfl (D.g9) passV (va_cons (ve_var (i := 7) rfl (Or.inl rfl)) va_nil))))) (by with_unfolding_all rfl))))) (vb_one (vs_ret (ve_op or_add o2_add (ve_var (i := 2) rfl (Or.inl rfl)) ve_int))) vb_nil)
    (vb_cons (vs_asg (ve_frz (ve_lc (own := [("_law_word", 7)]) rfl sc__law_tree_fault.nd (vi_any (ve_var (i := 4) rfl (Or.inl rfl))) (blkOk_by (by kernel_rfl)) (by decide) (fun _ _ _ _ _ => (vgw_name (i := 7) sc__law_tree_fault.nd rfl (Or.inl rfl))) (fun _ _ _ _ _ => vts_nil) (fun _ _ _ _ _ => (ve_call (ok__law_number D TB) (hr.mono (by first | decide | omega)) rfl (D.g9) passV (va_cons (ve_var (i := 7) rfl (Or.inl rfl)) va_nil))))) (vg_ls rfl (vgs_cons (vg_name (i := 5) sc__law_tree_fault.nd rfl (Or.inl rfl)) (vgs_cons (vg_name (i := 6) sc__law_tree_fault.nd rfl (Or.inl rfl)) vgs_nil)) (gsCons_len (gsCons_len (fun _ _ _ h => gsNil_len h)))))
    (vb_cons (vs_if (VW.vt (vw_or (vt_cmp op_gt (o2_cmp (p := fun i j => decide (j < i))) (ve_var (i := 6) rfl (Or.inl rfl)) (ve_var (i := 2) rfl (Or.inl rfl)) (nomark _)) (vw_or1 (vt_cmp op_le (o2_cmp (p := fun i j => decide (i ≤ j))) (ve_var (i := 5) rfl (Or.inl rfl)) (ve_ix (ve_var (i := 1) rfl (Or.inl rfl)) (ve_var (i := 6) rfl (Or.inl rfl))) (nomark _))))) (vb_one (vs_ret (ve_op or_add o2_add (ve_var (i := 2) rfl (Or.inl rfl)) ve_int))) vb_nil)
    (vb_one (vs_expr (ve_append (ve_var (i := 1) rfl (Or.inl rfl)) (ve_var (i := 5) rfl (Or.inl rfl))))))))))
    (vb_one (vs_ret ve_non))))
theorem ok__law_tree_fault {w : World} {K : PySem.W.Frag} {mg : Str → Option Value} {base : Heap} (D : Facts K mg) (TB : TbsOk K mg base T) : Fn PP w K mg base T CX0 2 (He.ga K "_law_tree_fault") m__law_tree_fault := by
  obtain ⟨fd, F⟩ := D.d__law_tree_fault
  exact Fn.plain (fo__law_tree_fault D TB F) (F.bindsN fun _ _ _ _ _ _ us hl => match us, hl with | [_], _ => rfl) F.kp
/-! _law_same -/
theorem sc__law_same : FnScope ["_law_found", "_law_due", "_law_x", "_law_y"] ["_law_found", "_law_due"] (defScope s__law_same) := ⟨rfl, rfl, rfl, by decide +kernel, rfl, by decide +kernel, by decide +kernel⟩
def t__law_same (r : FnM) : TSv :=
  (bCons (sIf (tVal (eIsi [.lst, .tup] (eVar 1))) (bCons (sIf (tOrV (tVal (eOp2 neF (eIsi [.lst] (eVar 0)) (eIsi [.lst] (eVar 1)))) (tVal (eOp2 neF (eIsi [.tup] (eVar 0)) (eIsi [.tup] (eVar 1))))) (sRet (eC (.bl false))) bNil)
    (sRet (eAnd (eOp2 eqF (eCB (g1 lenF) (aCons (eVar 0) aNil)) (eCB (g1 lenF) (aCons (eVar 1) aNil))) (eCB (g1 allB) (aCons (eFrz (eLc (iZip (aCons (eVar 0) (aCons (eVar 1) aNil))) (gTp (gsCons (gNm 2) (gsCons (gNm 3) gsNil))) tYesV (eCall r (aCons (eVar 2) (aCons (eVar 3) aNil))) [2, 3])) aNil))))) bNil)
    (bCons (sIf (tVal (eIsi [.int] (eVar 1))) (sRet (eAnd (eIsi [.int] (eVar 0)) (eAnd (eOp2 eqF (eIsi [.bl] (eVar 0)) (eIsi [.bl] (eVar 1))) (eOp2 eqF (eVar 0) (eVar 1))))) bNil)
    (sRet (eAnd (eOp2 isNF (eIsi [.int, .lst, .tup] (eVar 0)) (eC (.bl false))) (eOp2 eqF (eVar 0) (eVar 1))))))
def m__law_same : Nat → FnM
  | 0 => fnM 2 4 bStuck
  | n + 1 => fnM 2 4 (t__law_same (m__law_same n))
theorem ok__law_same {w : World} {K : PySem.W.Frag} {mg : Str → Option Value} {base : Heap} (D : Facts K mg) (TB : TbsOk K mg base T) : ∀ n, Fn PP w K mg base T CX0 (1 + n) (He.ga K "_law_same") (m__law_same n)
  | 0 => by
    obtain ⟨fd, F⟩ := D.d__law_same
    have h : FnOk PP w K mg base CX0 1 (He.ga K "_law_same") fd ["_law_found", "_law_due"] (spM K T (m__law_same 0)) := fn_v0 F sc__law_same fun cdv A outer s H E E' hr => vb_stuck
    exact Fn.plain h (F.bindsN fun _ _ _ _ _ _ us hl => match us, hl with | [_, _], _ => rfl) F.kp
  | n + 1 => by
    have ih := ok__law_same (w := w) (base := base) D TB n
    obtain ⟨fd, F⟩ := D.d__law_same
    generalize hm : m__law_same n = r at ih
    have h : FnOk PP w K mg base CX0 (1 + n + 1) (He.ga K "_law_same") fd ["_law_found", "_law_due"] (spM K T (fnM 2 4 (t__law_same r))) := fn_v0 F sc__law_same fun cdv A outer s H E E' hr =>
    (vb_cons (vs_if (vt_val (ve_isiT D.tab D.isi rfl (D.n7) (ve_var (i := 1) rfl (Or.inl rfl)) (.cons (tg_ty rfl (D.n0) (by decide +kernel)) rfl (.cons (tg_ty rfl (D.n8) (by decide +kernel)) rfl .nil)))) (vb_cons (vs_if (VW.vt (vw_or (vt_cmp (or_ne (hu64 hr)) o2_ne (ve_isi D.tab D.isi rfl (D.n7) (ve_var (i := 0) rfl (Or.inl rfl)) (tg_ty rfl (D.n0) (by decide +kernel))) (ve_isi D.tab D.isi rfl (D.n7) (ve_var (i := 1) rfl (Or.inl rfl)) (tg_ty rfl (D.n0) (by decide +kernel))) (nomark _)) (vw_or1 (vt_cmp (or_ne (hu64 hr)) o2_ne (ve_isi D.tab D.isi rfl (D.n7) (ve_var (i := 0) rfl (Or.inl rfl)) (tg_ty rfl (D.n8) (by decide +kernel))) (ve_isi D.tab D.isi rfl (D.n7) (ve_var (i := 1) rfl (Or.inl rfl)) (tg_ty rfl (D.n8) (by decide +kernel))) (nomark _))))) (vb_one (vs_ret ve_bl)) vb_nil)
    (vb_one (vs_ret (ve_and (ve_cmp (or_eq (hu64 hr)) o2_eq (ve_callB cr_len on_len rfl (D.n3) (by decide +kernel) (va_cons (ve_var (i := 0) rfl (Or.inl rfl)) va_nil)) (ve_callB cr_len on_len rfl (D.n3) (by decide +kernel) (va_cons (ve_var (i := 1) rfl (Or.inl rfl)) va_nil)) (nomark _)) (ve_one (ve_callB (cr_all rfl) on_all rfl (D.n6) (by decide +kernel) (va_cons (ve_frz (ve_lc (own := [("_law_x", 2), ("_law_y", 3)]) rfl sc__law_same.nd (vi_zip rfl (D.n9) (va_cons (ve_var (i := 0) rfl (Or.inl rfl)) (va_cons (ve_var (i := 1) rfl (Or.inl rfl)) va_nil))) (blkOk_by (by kernel_rfl)) (by decide) (fun _ _ _ _ _ => (vgw_tup rfl (vgsw_cons (vgw_name (i := 2) sc__law_same.nd rfl (Or.inl rfl)) (vgsw_cons (vgw_name (i := 3) sc__law_same.nd rfl (Or.inl rfl)) vgsw_nil)) (gsCons_len (gsCons_len (fun _ _ _ h => gsNil_len h))))) (fun _ _ _ _ _ => vts_nil) (fun _ _ _ _ _ => (ve_call (ih) hr rfl (D.g11) passV (va_cons (ve_var (i := 2) rfl (Or.inl rfl)) (va_cons (ve_var (i := 3) rfl (Or.inl rfl)) va_nil)))))) va_nil))))))) vb_nil)
    (vb_cons (vs_if (vt_val (ve_isi D.tab D.isi rfl (D.n7) (ve_var (i := 1) rfl (Or.inl rfl)) (tg_ty rfl (D.n2) (by decide +kernel)))) (vb_one (vs_ret (ve_and (ve_isi D.tab D.isi rfl (D.n7) (ve_var (i := 0) rfl (Or.inl rfl)) (tg_ty rfl (D.n2) (by decide +kernel))) (ve_and (ve_cmp (or_eq (hu64 hr)) o2_eq (ve_isi D.tab D.isi rfl (D.n7) (ve_var (i := 0) rfl (Or.inl rfl)) (tg_ty rfl (D.n10) (by decide +kernel))) (ve_isi D.tab D.isi rfl (D.n7) (ve_var (i := 1) rfl (Or.inl rfl)) (tg_ty rfl (D.n10) (by decide +kernel))) (nomark _)) (ve_one (ve_cmp (or_eq (hu64 hr)) o2_eq (ve_var (i := 0) rfl (Or.inl rfl)) (ve_var (i := 1) rfl (Or.inl rfl)) (nomark _))))))) vb_nil)
    (vb_one (vs_ret (ve_and (ve_cmp or_is o2_is (ve_isiT D.tab D.isi rfl (D.n7) (ve_var (i := 0) rfl (Or.inl rfl)) (.cons (tg_ty rfl (D.n2) (by decide +kernel)) rfl (.cons (tg_ty rfl (D.n0) (by decide +kernel)) rfl (.cons (tg_ty rfl (D.n8) (by decide +kernel)) rfl .nil)))) ve_bl (nomark _)) (ve_one (ve_cmp (or_eq (hu64 hr)) o2_eq (ve_var (i := 0) rfl (Or.inl rfl)) (ve_var (i := 1) rfl (Or.inl rfl)) (nomark _))))))))
    have e : m__law_same (n + 1) = fnM 2 4 (t__law_same r) := by rw [← hm]; rfl
    rw [e]
    exact Fn.plain h (F.bindsN fun _ _ _ _ _ _ us hl => match us, hl with | [_, _], _ => rfl) F.kp
/-! Tree.blocks -/
theorem sc_Tree_blocks : FnScope ["self"] ["self"] (defScope s_Tree_blocks) := ⟨rfl, rfl, rfl, by decide +kernel, rfl, by decide +kernel, by decide +kernel⟩
def t_Tree_blocks : TSv :=
  (sRet (eCB (g1 list2F) (aCons (eAttr 0 (eVar 0)) aNil)))
def m_Tree_blocks : FnM := fnM 1 1 t_Tree_blocks
theorem fo_Tree_blocks {w : World} {K : PySem.W.Frag} {mg : Str → Option Value} {base : Heap} (D : Facts K mg) (TB : TbsOk K mg base T) {fd : FuncData} (F : FunD K "blocks" "Tree.blocks" (defArgs s_Tree_blocks) (defBody s_Tree_blocks) (defScope s_Tree_blocks) [] [] (He.ma K (He.ga K "Tree") "blocks") fd) : FnOk PP w K mg base CX0 1 (He.ma K (He.ga K "Tree") "blocks") fd ["self"] (spM K T m_Tree_blocks) := fn_v0 F sc_Tree_blocks fun cdv A outer s H E E' hr =>
    (vb_one (vs_ret (ve_callTy (cr_list2 rfl) on_list2 rfl (D.n0) (by decide +kernel) (va_cons (ve_attr (i := 0) D.tab (ve_var (i := 0) rfl (Or.inl rfl)) (by decide +kernel)) va_nil))))
theorem ok_Tree_blocks {w : World} {K : PySem.W.Frag} {mg : Str → Option Value} {base : Heap} (D : Facts K mg) (TB : TbsOk K mg base T) : Fn PP w K mg base T CX0 1 (He.ma K (He.ga K "Tree") "blocks") m_Tree_blocks := by
  obtain ⟨fd, F⟩ := D.d_Tree_blocks
  exact Fn.plain (fo_Tree_blocks D TB F) (F.bindsN fun _ _ _ _ _ _ us hl => match us, hl with | [_], _ => rfl) F.kp
/-! Row.runs -/
theorem sc_Row_runs : FnScope ["self", "found", "word", "times", "is_even", "kind", "many"] ["self"] (defScope s_Row_runs) := ⟨rfl, rfl, rfl, by decide +kernel, rfl, by decide +kernel, by decide +kernel⟩
def t_Row_runs : TSv :=
  (bCons (sSet 1 (eLstM aNil))
    (bCons (sFor (iAny (eAttr 1 (eVar 0))) (gTp (gsCons (gNm 2) (gsCons (gNm 3) gsNil))) (bCons (sSet 4 (eOp2 eqF (eVar 2) (eOp2 mulF (eIx (eVar 2) (eC (.int 0))) (eCB (g1 lenF) (aCons (eVar 2) aNil)))))
    (sFor (iAny (eIf (tVal (eVar 4)) (eLst (aCons (eTup (aCons (eIx (eVar 2) (eC (.int 0))) (aCons (eOp2 mulF (eCB (g1 lenF) (aCons (eVar 2) aNil)) (eVar 3)) aNil))) aNil)) (eFrz (eLc (iAny (eOp2 mulF (eVar 2) (eVar 3))) (gNm 5) tYesV (eTup (aCons (eVar 5) (aCons (eC (.int 1)) aNil))) [5])))) (gTp (gsCons (gNm 5) (gsCons (gNm 6) gsNil))) (sIf (tAndV (tVal (eOp2 neF (eVar 1) (eLst aNil))) (tVal (eOp2 eqF (eIx (eIx (eVar 1) (eOp1 negF (eC (.int 1)))) (eC (.int 0))) (eVar 5)))) (sSub (eVar 1) (eOp1 negF (eC (.int 1))) (eTup (aCons (eVar 5) (aCons (eOp2 addF (eIx (eIx (eVar 1) (eOp1 negF (eC (.int 1)))) (eC (.int 1))) (eVar 6)) aNil)))) (sExpr (eMut false cAppend (eVar 1) (aCons (eTup (aCons (eVar 5) (aCons (eVar 6) aNil))) aNil)))))))
    (sRet (eFrzC (eVar 1)))))
def m_Row_runs : FnM := fnM 1 7 t_Row_runs
theorem fo_Row_runs {w : World} {K : PySem.W.Frag} {mg : Str → Option Value} {base : Heap} (D : Facts K mg) (TB : TbsOk K mg base T) {fd : FuncData} (F : FunD K "runs" "Row.runs" (defArgs s_Row_runs) (defBody s_Row_runs) (defScope s_Row_runs) [] [] (He.ma K (He.ga K "Row") "runs") fd) : FnOk PP w K mg base CX0 1 (He.ma K (He.ga K "Row") "runs") fd ["self"] (spM K T m_Row_runs) := fn_v0 F sc_Row_runs fun cdv A outer s H E E' hr =>
    (vb_cons (vs_set (i := 1) sc_Row_runs.nd rfl (Or.inl rfl) (ve_lstM va_nil))
    (vb_cons (vs_for PassesOwn.never rfl (vi_any (ve_attr (i := 1) D.tab (ve_var (i := 0) rfl (Or.inl rfl)) (by decide +kernel))) (vg_tup rfl (vgs_cons (vg_name (i := 2) sc_Row_runs.nd rfl (Or.inl rfl)) (vgs_cons (vg_name (i := 3) sc_Row_runs.nd rfl (Or.inl rfl)) vgs_nil)) (gsCons_len (gsCons_len (fun _ _ _ h => gsNil_len h)))) (vb_cons (vs_set (i := 4) sc_Row_runs.nd rfl (Or.inl rfl) (ve_cmp (or_eq (hu64 hr)) o2_eq (ve_var (i := 2) rfl (Or.inl rfl)) (ve_op or_mul o2_mul (ve_ix (ve_var (i := 2) rfl (Or.inl rfl)) ve_int) (ve_callB cr_len on_len rfl (D.n3) (by decide +kernel) (va_cons (ve_var (i := 2) rfl (Or.inl rfl)) va_nil))) (nomark _)))
    (vb_one (vs_for PassesOwn.never rfl (vi_any (ve_if (vt_val (ve_var (i := 4) rfl (Or.inl rfl))) (ve_lst (va_cons (ve_tup (va_cons (ve_ix (ve_var (i := 2) rfl (Or.inl rfl)) ve_int) (va_cons (ve_op or_mul o2_mul (ve_callB cr_len on_len rfl (D.n3) (by decide +kernel) (va_cons (ve_var (i := 2) rfl (Or.inl rfl)) va_nil)) (ve_var (i := 3) rfl (Or.inl rfl))) va_nil))) va_nil)) (ve_frz (ve_lc (own := [("kind", 5)]) rfl sc_Row_runs.nd (vi_any (ve_op or_mul o2_mul (ve_var (i := 2) rfl (Or.inl rfl)) (ve_var (i := 3) rfl (Or.inl rfl)))) (blkOk_by (by kernel_rfl)) (by decide) (fun _ _ _ _ _ => (vgw_name (i := 5) sc_Row_runs.nd rfl (Or.inl rfl))) (fun _ _ _ _ _ => vts_nil) (fun _ _ _ _ _ => (ve_tup (va_cons (ve_var (i := 5) rfl (Or.inl rfl)) (va_cons ve_int va_nil)))))))) (vg_tup rfl (vgs_cons (vg_name (i := 5) sc_Row_runs.nd rfl (Or.inl rfl)) (vgs_cons (vg_name (i := 6) sc_Row_runs.nd rfl (Or.inl rfl)) vgs_nil)) (gsCons_len (gsCons_len (fun _ _ _ h => gsNil_len h)))) (vb_one (vs_if (VW.vt (vw_and (vt_cmp (or_ne (hu64 hr)) o2_ne (ve_var (i := 1) rfl (Or.inl rfl)) (ve_lst va_nil) (nomark _)) (vw_and1 (vt_cmp (or_eq (hu64 hr)) o2_eq (ve_ix (ve_ix (ve_var (i := 1) rfl (Or.inl rfl)) (ve_un un_neg o1_neg ve_int)) ve_int) (ve_var (i := 5) rfl (Or.inl rfl)) (nomark _))))) (vb_one (vs_sub (ve_var (i := 1) rfl (Or.inl rfl)) (ve_un un_neg o1_neg ve_int) (ve_tup (va_cons (ve_var (i := 5) rfl (Or.inl rfl)) (va_cons (ve_op or_add o2_add (ve_ix (ve_ix (ve_var (i := 1) rfl (Or.inl rfl)) (ve_un un_neg o1_neg ve_int)) ve_int) (ve_var (i := 6) rfl (Or.inl rfl))) va_nil))))) (vb_one (vs_expr (ve_append (ve_var (i := 1) rfl (Or.inl rfl)) (ve_tup (va_cons (ve_var (i := 5) rfl (Or.inl rfl)) (va_cons (ve_var (i := 6) rfl (Or.inl rfl)) va_nil))))))))))))
    (vb_one (vs_ret (ve_frzC (ve_var (i := 1) rfl (Or.inl rfl)))))))
theorem ok_Row_runs {w : World} {K : PySem.W.Frag} {mg : Str → Option Value} {base : Heap} (D : Facts K mg) (TB : TbsOk K mg base T) : Fn PP w K mg base T CX0 1 (He.ma K (He.ga K "Row") "runs") m_Row_runs := by
  obtain ⟨fd, F⟩ := D.d_Row_runs
  exact Fn.plain (fo_Row_runs D TB F) (F.bindsN fun _ _ _ _ _ _ us hl => match us, hl with | [_], _ => rfl) F.kp
/-! check_kinds -/
theorem sc_check_kinds : FnScope ["kinds", "index", "kind"] ["kinds"] (defScope s_check_kinds) := ⟨rfl, rfl, rfl, by decide +kernel, rfl, by decide +kernel, by decide +kernel⟩
def t_check_kinds : TSv :=
  (bCons (sIf (tNotV (tVal (eIsi [.str] (eVar 0)))) (sRaise 501 6 (eC (.int 0))) bNil)
    (sFor (iEnum (aCons (eVar 0) aNil)) (gTp (gsCons (gNm 1) (gsCons (gNm 2) gsNil))) (sIf (tVal (eOp2 ninF (eVar 2) (eC (.str [104, 72, 46, 65])))) (sRaise 501 6 (eVar 1)) bNil)))
def m_check_kinds : FnM := fnM 1 3 t_check_kinds
theorem fo_check_kinds {w : World} {K : PySem.W.Frag} {mg : Str → Option Value} {base : Heap} (D : Facts K mg) (TB : TbsOk K mg base T) {fd : FuncData} (F : FunD K "check_kinds" "check_kinds" (defArgs s_check_kinds) (defBody s_check_kinds) (defScope s_check_kinds) [] [] (He.ga K "check_kinds") fd) : FnOk PP w K mg base (L2.CX PP w) 3 (He.ga K "check_kinds") fd ["kinds"] (spM K T m_check_kinds) := fn_v1 F sc_check_kinds fun cdv A outer s H E hr =>
    (vb_cons (vs_if (vt_not (vt_val (ve_isi D.tab D.isi rfl (D.n7) (ve_var (i := 0) rfl (Or.inl rfl)) (tg_ty rfl (D.n4) (by decide +kernel))))) (vb_one ((xf_1 (w := w) (base := base) D).elim fun _ F1 => vs_raise (c := 501) (i := 6) rfl tk1 (fun _ _ _ _ h => h) (D.xc1).ox (D.xc1).ini (D.xc1).typ F1.1 (hr.mono (by first | decide | omega)) F1.2 rfl (D.g20) ve_int)) vb_nil)
    (vb_one (vs_for own1x rfl (vi_enum rfl (D.n5) (va_cons (ve_var (i := 0) rfl (Or.inl rfl)) va_nil)) (vg_tup rfl (vgs_cons (vg_name (i := 1) sc_check_kinds.nd rfl (Or.inl rfl)) (vgs_cons (vg_name (i := 2) sc_check_kinds.nd rfl (Or.inl rfl)) vgs_nil)) (gsCons_len (gsCons_len (fun _ _ _ h => gsNil_len h)))) (vb_one (vs_if (vt_cmp (or_nin (hu65 hr)) o2_nin (ve_var (i := 2) rfl (Or.inl rfl)) (g_str (D.cs0) rfl (by decide +kernel)) (by with_unfolding_all rfl)) (vb_one ((xf_1 (w := w) (base := base) D).elim fun _ F1 => vs_raise (c := 501) (i := 6) rfl tk1 (fun _ _ _ _ h => h) (D.xc1).ox (D.xc1).ini (D.xc1).typ F1.1 (hr.mono (by first | decide | omega)) F1.2 rfl (D.g20) (ve_var (i := 1) rfl (Or.inl rfl)))) vb_nil)))))
theorem ok_check_kinds {w : World} {K : PySem.W.Frag} {mg : Str → Option Value} {base : Heap} (D : Facts K mg) (TB : TbsOk K mg base T) : Fn PP w K mg base T (L2.CX PP w) 3 (He.ga K "check_kinds") m_check_kinds := by
  obtain ⟨fd, F⟩ := D.d_check_kinds
  exact Fn.plain (fo_check_kinds D TB F) (F.bindsN fun _ _ _ _ _ _ us hl => match us, hl with | [_], _ => rfl) F.kp
/-! Row.__init__ -/
theorem sc_Row___init__ : FnScope ["self", "text"] ["self", "text"] (defScope s_Row___init__) := ⟨rfl, rfl, rfl, by decide +kernel, rfl, by decide +kernel, by decide +kernel⟩
def t_Row___init__ : TSv :=
  (sIf (tVal (eIsi [(.own 0)] (eVar 1))) (sAttr T 1 (eVar 0) (eAttr 0 (eVar 1))) (bCons (sExpr (eCall m_check_kinds (aCons (eVar 1) aNil)))
    (sAttr T 1 (eVar 0) (eIf (tVal (eOp2 neF (eVar 1) (eC (.str [])))) (eLst (aCons (eTup (aCons (eVar 1) (aCons (eC (.int 1)) aNil))) aNil)) (eLst aNil)))))
def m_Row___init__ : FnM := fnM 2 2 t_Row___init__
theorem fo_Row___init__ {w : World} {K : PySem.W.Frag} {mg : Str → Option Value} {base : Heap} (D : Facts K mg) (TB : TbsOk K mg base T) {fd : FuncData} (F : FunD K "__init__" "Row.__init__" (defArgs s_Row___init__) (defBody s_Row___init__) (defScope s_Row___init__) [(.str "")] [] (He.ma K (He.ga K "Row") "__init__") fd) : FnOk PP w K mg base (L2.CX PP w) 4 (He.ma K (He.ga K "Row") "__init__") fd ["self", "text"] (spM K T m_Row___init__) := fn_v1 F sc_Row___init__ fun cdv A outer s H E hr =>
    (vb_one (vs_if (vt_val (ve_isi D.tab D.isi rfl (D.n7) (ve_var (i := 1) rfl (Or.inl rfl)) (tg_own (c := 0) rfl rfl (D.g18)))) (vb_one (vs_attr (i := 1) D.tab (by decide +kernel) (ve_var (i := 0) rfl (Or.inl rfl)) (ve_attr (i := 0) D.tab (ve_var (i := 1) rfl (Or.inl rfl)) (by decide +kernel)))) (vb_cons (vs_expr (ve_call (ok_check_kinds D TB) (hr.mono (by first | decide | omega)) rfl (D.g19) pass1 (va_cons (ve_var (i := 1) rfl (Or.inl rfl)) va_nil)))
    (vb_one (vs_attr (i := 1) D.tab (by decide +kernel) (ve_var (i := 0) rfl (Or.inl rfl)) (ve_if (vt_cmp (or_ne (hu64 hr)) o2_ne (ve_var (i := 1) rfl (Or.inl rfl)) (ve_str (by decide +kernel)) (nomark _)) (ve_lst (va_cons (ve_tup (va_cons (ve_var (i := 1) rfl (Or.inl rfl)) (va_cons ve_int va_nil))) va_nil)) (ve_lst va_nil)))))))
theorem ok_Row___init__ {w : World} {K : PySem.W.Frag} {mg : Str → Option Value} {base : Heap} (D : Facts K mg) (TB : TbsOk K mg base T) : Fn PP w K mg base T (L2.CX PP w) 4 (He.ma K (He.ga K "Row") "__init__") m_Row___init__ := by
  obtain ⟨fd, F⟩ := D.d_Row___init__
  obtain ⟨ds, hv, hb⟩ := F.binds1 (ps := ["self", "text"]) 2 1 (by simp) rfl (fun _ _ _ _ _ _ _ us its hu hi => match us, hu, its, hi with | [_, _], _, [_], _ => ⟨_, rfl, rfl⟩)
  exact Fn.full (fo_Row___init__ D TB F) hb hv F.kp
/-! row_of -/
theorem sc_row_of : FnScope ["thing"] ["thing"] (defScope s_row_of) := ⟨rfl, rfl, rfl, by decide +kernel, rfl, by decide +kernel, by decide +kernel⟩
def t_row_of : TSv :=
  (sRet (eIf (tVal (eIsi [(.own 1)] (eVar 0))) (eVar 0) (eCall (mkF 1 m_Row___init__) (aCons (eVar 0) aNil))))
def m_row_of : FnM := fnM 1 1 t_row_of
theorem fo_row_of {w : World} {K : PySem.W.Frag} {mg : Str → Option Value} {base : Heap} (D : Facts K mg) (TB : TbsOk K mg base T) {fd : FuncData} (F : FunD K "row_of" "row_of" (defArgs s_row_of) (defBody s_row_of) (defScope s_row_of) [] [] (He.ga K "row_of") fd) : FnOk PP w K mg base (L2.CX PP w) 6 (He.ga K "row_of") fd ["thing"] (spM K T m_row_of) := fn_v1 F sc_row_of fun cdv A outer s H E hr =>
    (vb_one (vs_ret (ve_if (vt_val (ve_isi D.tab D.isi rfl (D.n7) (ve_var (i := 0) rfl (Or.inl rfl)) (tg_own (c := 1) rfl rfl (D.g17)))) (ve_var (i := 0) rfl (Or.inl rfl)) (ve_mkF (c := 1) rfl (D.mk0) (ok_Row___init__ D TB) (hr.mono (by first | decide | omega)) rfl (D.g17) pass1 (va_cons (ve_var (i := 0) rfl (Or.inl rfl)) va_nil)))))
theorem ok_row_of {w : World} {K : PySem.W.Frag} {mg : Str → Option Value} {base : Heap} (D : Facts K mg) (TB : TbsOk K mg base T) : Fn PP w K mg base T (L2.CX PP w) 6 (He.ga K "row_of") m_row_of := by
  obtain ⟨fd, F⟩ := D.d_row_of
  exact Fn.plain (fo_row_of D TB F) (F.bindsN fun _ _ _ _ _ _ us hl => match us, hl with | [_], _ => rfl) F.kp
/-! write -/
theorem sc_write : FnScope ["thing", "slot", "parent", "kind", "many"] ["thing"] (defScope s_write) := ⟨rfl, rfl, rfl, by decide +kernel, rfl, by decide +kernel, by decide +kernel⟩
def t_write : TSv :=
  (bCons (sIf (tVal (eIsi [(.own 2)] (eVar 0))) (sRet (eBM "str" joinF (eC (.str [10])) (aCons (eOp2 addF (eLst (aCons (eC (.str [116, 114, 101, 101])) aNil)) (eFrz (eLc (iAny (eMeth 2 m_Tree_blocks (eVar 0) aNil)) (gTp (gsCons (gNm 1) (gsCons (gNm 2) gsNil))) tYesV (eOp2 addF (eOp2 addF (eCB (g1 strF) (aCons (eVar 1) aNil)) (eC (.str [32]))) (eCB (g1 strF) (aCons (eVar 2) aNil))) [1, 2]))) aNil))) bNil)
    (sRet (eBM "str" joinF (eC (.str [10])) (aCons (eOp2 addF (eLst (aCons (eC (.str [114, 111, 119])) aNil)) (eFrz (eLc (iAny (eMeth 1 m_Row_runs (eCall m_row_of (aCons (eVar 0) aNil)) aNil)) (gTp (gsCons (gNm 3) (gsCons (gNm 4) gsNil))) tYesV (eOp2 addF (eOp2 addF (eVar 3) (eC (.str [32]))) (eCB (g1 strF) (aCons (eVar 4) aNil))) [3, 4]))) aNil))))
def m_write : FnM := fnM 1 5 t_write
theorem fo_write {w : World} {K : PySem.W.Frag} {mg : Str → Option Value} {base : Heap} (D : Facts K mg) (TB : TbsOk K mg base T) {fd : FuncData} (F : FunD K "write" "write" (defArgs s_write) (defBody s_write) (defScope s_write) [] [] (He.ga K "write") fd) : FnOk PP w K mg base (L2.CX PP w) 7 (He.ga K "write") fd ["thing"] (spM K T m_write) := fn_v1 F sc_write fun cdv A outer s H E hr =>
    (vb_cons (vs_if (vt_val (ve_isi D.tab D.isi rfl (D.n7) (ve_var (i := 0) rfl (Or.inl rfl)) (tg_own (c := 2) rfl rfl (D.g15)))) (vb_one (vs_ret (ve_join (ve_str (by decide +kernel)) (ve_op or_add o2_add (ve_lst (va_cons (ve_str (by decide +kernel)) va_nil)) (ve_frz (ve_lc (own := [("slot", 1), ("parent", 2)]) rfl sc_write.nd (vi_any (ve_meth0 (c := 2) D.tab rfl (by decide +kernel) (ve_var (i := 0) rfl (Or.inl rfl)) (D.me0) (ok_Tree_blocks D TB) (hr.mono (by first | decide | omega)) passV)) (blkOk_by (by kernel_rfl)) (by decide) (fun _ _ _ _ _ => (vgw_tup rfl (vgsw_cons (vgw_name (i := 1) sc_write.nd rfl (Or.inl rfl)) (vgsw_cons (vgw_name (i := 2) sc_write.nd rfl (Or.inl rfl)) vgsw_nil)) (gsCons_len (gsCons_len (fun _ _ _ h => gsNil_len h))))) (fun _ _ _ _ _ => vts_nil) (fun _ _ _ _ _ => (ve_op or_add o2_add (ve_op or_add o2_add (ve_callTy cr_str on_str rfl (D.n4) (by decide +kernel) (va_cons (ve_var (i := 1) rfl (Or.inl rfl)) va_nil)) (ve_str (by decide +kernel))) (ve_callTy cr_str on_str rfl (D.n4) (by decide +kernel) (va_cons (ve_var (i := 2) rfl (Or.inl rfl)) va_nil)))))))))) vb_nil)
    (vb_one (vs_ret (ve_join (ve_str (by decide +kernel)) (ve_op or_add o2_add (ve_lst (va_cons (ve_str (by decide +kernel)) va_nil)) (ve_frz (ve_lc (own := [("kind", 3), ("many", 4)]) rfl sc_write.nd (vi_any (ve_meth0 (c := 1) D.tab rfl (by decide +kernel) (ve_call (ok_row_of D TB) (hr.mono (by first | decide | omega)) rfl (D.g16) pass1 (va_cons (ve_var (i := 0) rfl (Or.inl rfl)) va_nil)) (D.me1) (ok_Row_runs D TB) (hr.mono (by first | decide | omega)) passV)) (blkOk_by (by kernel_rfl)) (by decide) (fun _ _ _ _ _ => (vgw_tup rfl (vgsw_cons (vgw_name (i := 3) sc_write.nd rfl (Or.inl rfl)) (vgsw_cons (vgw_name (i := 4) sc_write.nd rfl (Or.inl rfl)) vgsw_nil)) (gsCons_len (gsCons_len (fun _ _ _ h => gsNil_len h))))) (fun _ _ _ _ _ => vts_nil) (fun _ _ _ _ _ => (ve_op or_add o2_add (ve_op or_add o2_add (ve_var (i := 3) rfl (Or.inl rfl)) (ve_str (by decide +kernel))) (ve_callTy cr_str on_str rfl (D.n4) (by decide +kernel) (va_cons (ve_var (i := 4) rfl (Or.inl rfl)) va_nil)))))))))))
theorem ok_write {w : World} {K : PySem.W.Frag} {mg : Str → Option Value} {base : Heap} (D : Facts K mg) (TB : TbsOk K mg base T) : Fn PP w K mg base T (L2.CX PP w) 7 (He.ga K "write") m_write := by
  obtain ⟨fd, F⟩ := D.d_write
  exact Fn.plain (fo_write D TB F) (F.bindsN fun _ _ _ _ _ _ us hl => match us, hl with | [_], _ => rfl) F.kp
/-! number_of -/
theorem sc_number_of : FnScope ["word", "sign"] ["word"] (defScope s_number_of) := ⟨rfl, rfl, rfl, by decide +kernel, rfl, by decide +kernel, by decide +kernel⟩
def t_number_of : TSv :=
  (bCons (sIf (tOrV (tVal (eOp2 eqF (eVar 0) (eC (.str [])))) (tOrV (tNotV (tVal (eCB (g1 allB) (aCons (eFrz (eLc (iAny (eVar 0)) (gNm 1) tYesV (eOp2 inF (eVar 1) (eC (.str [48, 49, 50, 51, 52, 53, 54, 55, 56, 57]))) [1])) aNil)))) (tAndV (tVal (eOp2 eqF (eIx (eVar 0) (eC (.int 0))) (eC (.str [48])))) (tVal (eOp2 neF (eVar 0) (eC (.str [48]))))))) (sRet (eC .non)) bNil)
    (sRet (eCB (g1 intSF) (aCons (eVar 0) aNil))))
def m_number_of : FnM := fnM 1 2 t_number_of
theorem fo_number_of {w : World} {K : PySem.W.Frag} {mg : Str → Option Value} {base : Heap} (D : Facts K mg) (TB : TbsOk K mg base T) {fd : FuncData} (F : FunD K "number_of" "number_of" (defArgs s_number_of) (defBody s_number_of) (defScope s_number_of) [] [] (He.ga K "number_of") fd) : FnOk PP w K mg base CX0 1 (He.ga K "number_of") fd ["word"] (spM K T m_number_of) := fn_v0 F sc_number_of fun cdv A outer s H E E' hr =>
    (vb_cons (vs_if (VW.vt (vw_or (vt_cmp (or_eq (hu64 hr)) o2_eq (ve_var (i := 0) rfl (Or.inl rfl)) (ve_str (by decide +kernel)) (nomark _)) (vw_or (vt_not (vt_val (ve_callB (cr_all rfl) on_all rfl (D.n6) (by decide +kernel) (va_cons (ve_frz (ve_lc (own := [("sign", 1)]) rfl sc_number_of.nd (vi_any (ve_var (i := 0) rfl (Or.inl rfl))) (blkOk_by (by kernel_rfl)) (by decide) (fun _ _ _ _ _ => (vgw_name (i := 1) sc_number_of.nd rfl (Or.inl rfl))) (fun _ _ _ _ _ => vts_nil) (fun _ _ _ _ _ => (ve_cmp (or_in (hu65 hr)) o2_in (ve_var (i := 1) rfl (Or.inl rfl)) (g_str (D.cs1) rfl (by decide +kernel)) (by with_unfolding_all rfl))))) va_nil)))) (vw_or1 (VW.vt (vw_and (vt_cmp (or_eq (hu64 hr)) o2_eq (ve_ix (ve_var (i := 0) rfl (Or.inl rfl)) ve_int) (ve_str (by decide +kernel)) (nomark _)) (vw_and1 (vt_cmp (or_ne (hu64 hr)) o2_ne (ve_var (i := 0) rfl (Or.inl rfl)) (ve_str (by decide +kernel)) (nomark _))))))))) (vb_one (vs_ret ve_non)) vb_nil)
    (vb_one (vs_ret (ve_callTy call_int_str on_intS rfl (D.n2) (by decide +kernel) (va_cons (ve_var (i := 0) rfl (Or.inl rfl)) va_nil)))))
theorem ok_number_of {w : World} {K : PySem.W.Frag} {mg : Str → Option Value} {base : Heap} (D : Facts K mg) (TB : TbsOk K mg base T) : Fn PP w K mg base T CX0 1 (He.ga K "number_of") m_number_of := by
  obtain ⟨fd, F⟩ := D.d_number_of
  exact Fn.plain (fo_number_of D TB F) (F.bindsN fun _ _ _ _ _ _ us hl => match us, hl with | [_], _ => rfl) F.kp
/-! Pieces.__init__ -/
theorem sc_Pieces___init__ : FnScope ["self", "pairs", "word", "times"] ["self", "pairs"] (defScope s_Pieces___init__) := ⟨rfl, rfl, rfl, by decide +kernel, rfl, by decide +kernel, by decide +kernel⟩
def t_Pieces___init__ : TSv :=
  (sAttr T 0 (eVar 0) (eFrz (eLc (iAny (eVar 1)) (gTp (gsCons (gNm 2) (gsCons (gNm 3) gsNil))) (tAndV (tVal (eOp2 neF (eVar 2) (eC (.str [])))) (tVal (eOp2 gtF (eVar 3) (eC (.int 0))))) (eTup (aCons (eVar 2) (aCons (eVar 3) aNil))) [2, 3])))
def m_Pieces___init__ : FnM := fnM 2 4 t_Pieces___init__
theorem fo_Pieces___init__ {w : World} {K : PySem.W.Frag} {mg : Str → Option Value} {base : Heap} (D : Facts K mg) (TB : TbsOk K mg base T) {fd : FuncData} (F : FunD K "__init__" "Pieces.__init__" (defArgs s_Pieces___init__) (defBody s_Pieces___init__) (defScope s_Pieces___init__) [] [] (He.ma K (He.ga K "Pieces") "__init__") fd) : FnOk PP w K mg base CX0 1 (He.ma K (He.ga K "Pieces") "__init__") fd ["self", "pairs"] (spM K T m_Pieces___init__) := fn_v0 F sc_Pieces___init__ fun cdv A outer s H E E' hr =>
    (vb_one (vs_attr (i := 0) D.tab (by decide +kernel) (ve_var (i := 0) rfl (Or.inl rfl)) (ve_frz (ve_lc (own := [("word", 2), ("times", 3)]) rfl sc_Pieces___init__.nd (vi_any (ve_var (i := 1) rfl (Or.inl rfl))) (blkOk_by (by kernel_rfl)) (by decide) (fun _ _ _ _ _ => (vgw_tup rfl (vgsw_cons (vgw_name (i := 2) sc_Pieces___init__.nd rfl (Or.inl rfl)) (vgsw_cons (vgw_name (i := 3) sc_Pieces___init__.nd rfl (Or.inl rfl)) vgsw_nil)) (gsCons_len (gsCons_len (fun _ _ _ h => gsNil_len h))))) (fun _ _ _ _ _ => (vts_one (VW.vt (vw_and (vt_cmp (or_ne (hu64 hr)) o2_ne (ve_var (i := 2) rfl (Or.inl rfl)) (ve_str (by decide +kernel)) (nomark _)) (vw_and1 (vt_cmp op_gt (o2_cmp (p := fun i j => decide (j < i))) (ve_var (i := 3) rfl (Or.inl rfl)) ve_int (nomark _))))))) (fun _ _ _ _ _ => (ve_tup (va_cons (ve_var (i := 2) rfl (Or.inl rfl)) (va_cons (ve_var (i := 3) rfl (Or.inl rfl)) va_nil))))))))
theorem ok_Pieces___init__ {w : World} {K : PySem.W.Frag} {mg : Str → Option Value} {base : Heap} (D : Facts K mg) (TB : TbsOk K mg base T) : Fn PP w K mg base T CX0 1 (He.ma K (He.ga K "Pieces") "__init__") m_Pieces___init__ := by
  obtain ⟨fd, F⟩ := D.d_Pieces___init__
  exact Fn.plain (fo_Pieces___init__ D TB F) (F.bindsN fun _ _ _ _ _ _ us hl => match us, hl with | [_, _], _ => rfl) F.kp
/-! row_read -/
theorem sc_row_read : FnScope ["lines", "found", "last", "at", "line", "kind", "blank", "word", "many"] ["lines"] (defScope s_row_read) := ⟨rfl, rfl, rfl, by decide +kernel, rfl, by decide +kernel, by decide +kernel⟩
def t_row_read : TSv :=
  (bCons (sPar2 1 2 (aCons (eLstM aNil) (aCons (eC (.str [])) aNil)))
    (bCons (sFor (iEnum (aCons (eVar 0) aNil)) (gTp (gsCons (gNm 3) (gsCons (gNm 4) gsNil))) (bCons (sAsg (eBM "str" partF (eVar 4) (aCons (eC (.str [32])) aNil)) (gTp (gsCons (gNm 5) (gsCons (gNm 6) (gsCons (gNm 7) gsNil)))))
    (bCons (sSet 8 (eCall m_number_of (aCons (eVar 7) aNil)))
    (bCons (sIf (tOrV (tVal (eOp2 neF (eCB (g1 lenF) (aCons (eVar 5) aNil)) (eC (.int 1)))) (tOrV (tVal (eOp2 ninF (eVar 5) (eC (.str [104, 72, 46, 65])))) (tOrV (tVal (eOp2 eqF (eVar 5) (eVar 2))) (tOrV (tVal (eOp2 isNF (eVar 8) (eC .non))) (tVal (eOp2 eqF (eVar 8) (eC (.int 0)))))))) (sRaise 500 5 (eOp2 addF (eVar 3) (eC (.int 2)))) bNil)
    (bCons (sExpr (eMut false cAppend (eVar 1) (aCons (eTup (aCons (eVar 5) (aCons (eVar 8) aNil))) aNil)))
    (sSet 2 (eVar 5)))))))
    (sRet (eCall (mkF 1 m_Row___init__) (aCons (eCall (mkF 0 m_Pieces___init__) (aCons (eFrzC (eVar 1)) aNil)) aNil)))))
def m_row_read : FnM := fnM 1 9 t_row_read
theorem fo_row_read {w : World} {K : PySem.W.Frag} {mg : Str → Option Value} {base : Heap} (D : Facts K mg) (TB : TbsOk K mg base T) {fd : FuncData} (F : FunD K "row_read" "row_read" (defArgs s_row_read) (defBody s_row_read) (defScope s_row_read) [] [] (He.ga K "row_read") fd) : FnOk PP w K mg base (L2.CX PP w) 6 (He.ga K "row_read") fd ["lines"] (spM K T m_row_read) := fn_v1 F sc_row_read fun cdv A outer s H E hr =>
    (vb_cons (vs_par2 (i := 1) (j := 2) rfl sc_row_read.nd rfl rfl (by decide) rfl rfl (va_cons (ve_lstM va_nil) (va_cons (ve_str (by decide +kernel)) va_nil)) (by kernel_rfl))
    (vb_cons (vs_for own1x rfl (vi_enum rfl (D.n5) (va_cons (ve_var (i := 0) rfl (Or.inl rfl)) va_nil)) (vg_tup rfl (vgs_cons (vg_name (i := 3) sc_row_read.nd rfl (Or.inl rfl)) (vgs_cons (vg_name (i := 4) sc_row_read.nd rfl (Or.inl rfl)) vgs_nil)) (gsCons_len (gsCons_len (fun _ _ _ h => gsNil_len h)))) (vb_cons (vs_asg (ve_part (ve_var (i := 4) rfl (Or.inl rfl)) (ve_str (by decide +kernel))) (vg_tup rfl (vgs_cons (vg_name (i := 5) sc_row_read.nd rfl (Or.inl rfl)) (vgs_cons (vg_name (i := 6) sc_row_read.nd rfl (Or.inl rfl)) (vgs_cons (vg_name (i := 7) sc_row_read.nd rfl (Or.inl rfl)) vgs_nil))) (gsCons_len (gsCons_len (gsCons_len (fun _ _ _ h => gsNil_len h))))))
    (vb_cons (vs_set (i := 8) sc_row_read.nd rfl (Or.inl rfl) (ve_call (ok_number_of D TB) (hr.mono (by first | decide | omega)) rfl (D.g23) passV (va_cons (ve_var (i := 7) rfl (Or.inl rfl)) va_nil)))
    (vb_cons (vs_if (VW.vt (vw_or (vt_cmp (or_ne (hu64 hr)) o2_ne (ve_callB cr_len on_len rfl (D.n3) (by decide +kernel) (va_cons (ve_var (i := 5) rfl (Or.inl rfl)) va_nil)) ve_int (nomark _)) (vw_or (vt_cmp (or_nin (hu65 hr)) o2_nin (ve_var (i := 5) rfl (Or.inl rfl)) (g_str (D.cs0) rfl (by decide +kernel)) (by with_unfolding_all rfl)) (vw_or (vt_cmp (or_eq (hu64 hr)) o2_eq (ve_var (i := 5) rfl (Or.inl rfl)) (ve_var (i := 2) rfl (Or.inl rfl)) (nomark _)) (vw_or (vt_cmp or_is o2_is (ve_var (i := 8) rfl (Or.inl rfl)) ve_non (nomark _)) (vw_or1 (vt_cmp (or_eq (hu64 hr)) o2_eq (ve_var (i := 8) rfl (Or.inl rfl)) ve_int (nomark _)))))))) (vb_one ((xf_0 (w := w) (base := base) D).elim fun _ F1 => vs_raise (c := 500) (i := 5) rfl tk1 (fun _ _ _ _ h => h) (D.xc0).ox (D.xc0).ini (D.xc0).typ F1.1 (hr.mono (by first | decide | omega)) F1.2 rfl (D.g13) (ve_op or_add o2_add (ve_var (i := 3) rfl (Or.inl rfl)) ve_int))) vb_nil)
    (vb_cons (vs_expr (ve_append (ve_var (i := 1) rfl (Or.inl rfl)) (ve_tup (va_cons (ve_var (i := 5) rfl (Or.inl rfl)) (va_cons (ve_var (i := 8) rfl (Or.inl rfl)) va_nil)))))
    (vb_one (vs_set (i := 2) sc_row_read.nd rfl (Or.inl rfl) (ve_var (i := 5) rfl (Or.inl rfl)))))))))
    (vb_one (vs_ret (ve_mkF (c := 1) rfl (D.mk0) (ok_Row___init__ D TB) (hr.mono (by first | decide | omega)) rfl (D.g17) pass1 (va_cons (ve_mkF (c := 0) rfl (D.mk1) (ok_Pieces___init__ D TB) (hr.mono (by first | decide | omega)) rfl (D.g18) passV (va_cons (ve_frzC (ve_var (i := 1) rfl (Or.inl rfl))) va_nil)) va_nil))))))
theorem ok_row_read {w : World} {K : PySem.W.Frag} {mg : Str → Option Value} {base : Heap} (D : Facts K mg) (TB : TbsOk K mg base T) : Fn PP w K mg base T (L2.CX PP w) 6 (He.ga K "row_read") m_row_read := by
  obtain ⟨fd, F⟩ := D.d_row_read
  exact Fn.plain (fo_row_read D TB F) (F.bindsN fun _ _ _ _ _ _ us hl => match us, hl with | [_], _ => rfl) F.kp
/-! is_integer -/
theorem sc_is_integer : FnScope ["thing"] ["thing"] (defScope s_is_integer) := ⟨rfl, rfl, rfl, by decide +kernel, rfl, by decide +kernel, by decide +kernel⟩
def t_is_integer : TSv :=
  (sRet (eAnd (eIsi [.int] (eVar 0)) (eNot (eIsi [.bl] (eVar 0)))))
def m_is_integer : FnM := fnM 1 1 t_is_integer
theorem fo_is_integer {w : World} {K : PySem.W.Frag} {mg : Str → Option Value} {base : Heap} (D : Facts K mg) (TB : TbsOk K mg base T) {fd : FuncData} (F : FunD K "is_integer" "is_integer" (defArgs s_is_integer) (defBody s_is_integer) (defScope s_is_integer) [] [] (He.ga K "is_integer") fd) : FnOk PP w K mg base CX0 1 (He.ga K "is_integer") fd ["thing"] (spM K T m_is_integer) := fn_v0 F sc_is_integer fun cdv A outer s H E E' hr =>
    (vb_one (vs_ret (ve_and (ve_isi D.tab D.isi rfl (D.n7) (ve_var (i := 0) rfl (Or.inl rfl)) (tg_ty rfl (D.n2) (by decide +kernel))) (ve_one (ve_not (ve_isi D.tab D.isi rfl (D.n7) (ve_var (i := 0) rfl (Or.inl rfl)) (tg_ty rfl (D.n10) (by decide +kernel))))))))
theorem ok_is_integer {w : World} {K : PySem.W.Frag} {mg : Str → Option Value} {base : Heap} (D : Facts K mg) (TB : TbsOk K mg base T) : Fn PP w K mg base T CX0 1 (He.ga K "is_integer") m_is_integer := by
  obtain ⟨fd, F⟩ := D.d_is_integer
  exact Fn.plain (fo_is_integer D TB F) (F.bindsN fun _ _ _ _ _ _ us hl => match us, hl with | [_], _ => rfl) F.kp
/-! Tree.__contains__ -/
theorem sc_Tree___contains__ : FnScope ["self", "thing"] ["self", "thing"] (defScope s_Tree___contains__) := ⟨rfl, rfl, rfl, by decide +kernel, rfl, by decide +kernel, by decide +kernel⟩
def t_Tree___contains__ : TSv :=
  (sRet (eAnd (eCall m_is_integer (aCons (eVar 1) aNil)) (eChain leF ltF (eC (.int 0)) (eVar 1) (eCB (g1 lenF) (aCons (eAttr 2 (eVar 0)) aNil)))))
def m_Tree___contains__ : FnM := fnM 2 2 t_Tree___contains__
theorem fo_Tree___contains__ {w : World} {K : PySem.W.Frag} {mg : Str → Option Value} {base : Heap} (D : Facts K mg) (TB : TbsOk K mg base T) {fd : FuncData} (F : FunD K "__contains__" "Tree.__contains__" (defArgs s_Tree___contains__) (defBody s_Tree___contains__) (defScope s_Tree___contains__) [] [] (He.ma K (He.ga K "Tree") "__contains__") fd) : FnOk PP w K mg base CX0 2 (He.ma K (He.ga K "Tree") "__contains__") fd ["self", "thing"] (spM K T m_Tree___contains__) := fn_v0 F sc_Tree___contains__ fun cdv A outer s H E E' hr =>
    (vb_one (vs_ret (ve_and (ve_call (ok_is_integer D TB) (hr.mono (by first | decide | omega)) rfl (D.g25) passV (va_cons (ve_var (i := 1) rfl (Or.inl rfl)) va_nil)) (ve_one (ve_chain op_le (o2_cmp (p := fun i j => decide (i ≤ j))) op_lt (o2_cmp (p := fun i j => decide (i < j))) ve_int (ve_var (i := 1) rfl (Or.inl rfl)) (ve_callB cr_len on_len rfl (D.n3) (by decide +kernel) (va_cons (ve_attr (i := 2) D.tab (ve_var (i := 0) rfl (Or.inl rfl)) (by decide +kernel)) va_nil)))))))
theorem ok_Tree___contains__ {w : World} {K : PySem.W.Frag} {mg : Str → Option Value} {base : Heap} (D : Facts K mg) (TB : TbsOk K mg base T) : Fn PP w K mg base T CX0 2 (He.ma K (He.ga K "Tree") "__contains__") m_Tree___contains__ := by
  obtain ⟨fd, F⟩ := D.d_Tree___contains__
  exact Fn.plain (fo_Tree___contains__ D TB F) (F.bindsN fun _ _ _ _ _ _ us hl => match us, hl with | [_, _], _ => rfl) F.kp
/-! Tree.can_stand -/
theorem sc_Tree_can_stand : FnScope ["self", "slot", "parent"] ["self", "slot", "parent"] (defScope s_Tree_can_stand) := ⟨rfl, rfl, rfl, by decide +kernel, rfl, by decide +kernel, by decide +kernel⟩
def t_Tree_can_stand : TSv :=
  (sRet (eAnd (eCall m_is_integer (aCons (eVar 1) aNil)) (eAnd (eInO 2 false m_Tree___contains__ (eVar 2) (eVar 0)) (eOp2 ltF (eIx (eAttr 2 (eVar 0)) (eVar 2)) (eVar 1)))))
def m_Tree_can_stand : FnM := fnM 3 3 t_Tree_can_stand
theorem fo_Tree_can_stand {w : World} {K : PySem.W.Frag} {mg : Str → Option Value} {base : Heap} (D : Facts K mg) (TB : TbsOk K mg base T) {fd : FuncData} (F : FunD K "can_stand" "Tree.can_stand" (defArgs s_Tree_can_stand) (defBody s_Tree_can_stand) (defScope s_Tree_can_stand) [] [] (He.ma K (He.ga K "Tree") "can_stand") fd) : FnOk PP w K mg base CX0 3 (He.ma K (He.ga K "Tree") "can_stand") fd ["self", "slot", "parent"] (spM K T m_Tree_can_stand) := fn_v0 F sc_Tree_can_stand fun cdv A outer s H E E' hr =>
    (vb_one (vs_ret (ve_and (ve_call (ok_is_integer D TB) (hr.mono (by first | decide | omega)) rfl (D.g25) passV (va_cons (ve_var (i := 1) rfl (Or.inl rfl)) va_nil)) (ve_and (ve_inO (c := 2) (D.me2) (ok_Tree___contains__ D TB) (hr.mono (by first | decide | omega)) passV (ve_var (i := 2) rfl (Or.inl rfl)) (ve_var (i := 0) rfl (Or.inl rfl)) (by with_unfolding_all rfl)) (ve_one (ve_cmp op_lt (o2_cmp (p := fun i j => decide (i < j))) (ve_ix (ve_attr (i := 2) D.tab (ve_var (i := 0) rfl (Or.inl rfl)) (by decide +kernel)) (ve_var (i := 2) rfl (Or.inl rfl))) (ve_var (i := 1) rfl (Or.inl rfl)) (nomark _)))))))
theorem ok_Tree_can_stand {w : World} {K : PySem.W.Frag} {mg : Str → Option Value} {base : Heap} (D : Facts K mg) (TB : TbsOk K mg base T) : Fn PP w K mg base T CX0 3 (He.ma K (He.ga K "Tree") "can_stand") m_Tree_can_stand := by
  obtain ⟨fd, F⟩ := D.d_Tree_can_stand
  exact Fn.plain (fo_Tree_can_stand D TB F) (F.bindsN fun _ _ _ _ _ _ us hl => match us, hl with | [_, _, _], _ => rfl) F.kp
/-! is_list -/
theorem sc_is_list : FnScope ["thing"] ["thing"] (defScope s_is_list) := ⟨rfl, rfl, rfl, by decide +kernel, rfl, by decide +kernel, by decide +kernel⟩
def t_is_list : TSv :=
  (sRet (eIsi [.lst, .tup] (eVar 0)))
def m_is_list : FnM := fnM 1 1 t_is_list
theorem fo_is_list {w : World} {K : PySem.W.Frag} {mg : Str → Option Value} {base : Heap} (D : Facts K mg) (TB : TbsOk K mg base T) {fd : FuncData} (F : FunD K "is_list" "is_list" (defArgs s_is_list) (defBody s_is_list) (defScope s_is_list) [] [] (He.ga K "is_list") fd) : FnOk PP w K mg base CX0 1 (He.ga K "is_list") fd ["thing"] (spM K T m_is_list) := fn_v0 F sc_is_list fun cdv A outer s H E E' hr =>
    (vb_one (vs_ret (ve_isiT D.tab D.isi rfl (D.n7) (ve_var (i := 0) rfl (Or.inl rfl)) (.cons (tg_ty rfl (D.n0) (by decide +kernel)) rfl (.cons (tg_ty rfl (D.n8) (by decide +kernel)) rfl .nil)))))
theorem ok_is_list {w : World} {K : PySem.W.Frag} {mg : Str → Option Value} {base : Heap} (D : Facts K mg) (TB : TbsOk K mg base T) : Fn PP w K mg base T CX0 1 (He.ga K "is_list") m_is_list := by
  obtain ⟨fd, F⟩ := D.d_is_list
  exact Fn.plain (fo_is_list D TB F) (F.bindsN fun _ _ _ _ _ _ us hl => match us, hl with | [_], _ => rfl) F.kp
/-! Tree.__init__ -/
theorem sc_Tree___init__ : FnScope ["self", "blocks", "index", "thing"] ["self", "blocks"] (defScope s_Tree___init__) := ⟨rfl, rfl, rfl, by decide +kernel, rfl, by decide +kernel, by decide +kernel⟩
def t_Tree___init__ : TSv :=
  (bCons (sIf (tNotV (tVal (eCall m_is_list (aCons (eVar 1) aNil)))) (sRaise 502 7 (eC (.int 0))) bNil)
    (bCons (sUnp ((mAt T 0 (eVar 0)) :: ((mAt T 2 (eVar 0)) :: ((mAt T 3 (eVar 0)) :: ((mAt T 4 (eVar 0)) :: [])))) (aCons (eLstM aNil) (aCons (eLstM (aCons (eC (.int 0)) aNil)) (aCons (eLstM (aCons (eC .non) aNil)) (aCons (eLstM (aCons (eC (.int 0)) aNil)) aNil)))))
    (sFor (iEnum (aCons (eVar 1) aNil)) (gTp (gsCons (gNm 2) (gsCons (gNm 3) gsNil))) (bCons (sIf (tOrV (tNotV (tVal (eCall m_is_list (aCons (eVar 3) aNil)))) (tOrV (tVal (eOp2 neF (eCB (g1 lenF) (aCons (eVar 3) aNil)) (eC (.int 2)))) (tNotV (tVal (eMeth 2 (bor m_Tree_can_stand) (eVar 0) (aCons (eIx (eVar 3) (eC (.int 0))) (aCons (eIx (eVar 3) (eC (.int 1))) aNil))))))) (sRaise 502 7 (eOp2 addF (eVar 2) (eC (.int 1)))) bNil)
    (bCons (sExpr (eMut false cAppend (eAttr 0 (eVar 0)) (aCons (eTup (aCons (eIx (eVar 3) (eC (.int 0))) (aCons (eIx (eVar 3) (eC (.int 1))) aNil))) aNil)))
    (bCons (sExpr (eMut false cAppend (eAttr 2 (eVar 0)) (aCons (eIx (eVar 3) (eC (.int 0))) aNil)))
    (bCons (sExpr (eMut false cAppend (eAttr 3 (eVar 0)) (aCons (eIx (eVar 3) (eC (.int 1))) aNil)))
    (sExpr (eMut false cAppend (eAttr 4 (eVar 0)) (aCons (eOp2 addF (eIx (eAttr 4 (eVar 0)) (eIx (eVar 3) (eC (.int 1)))) (eC (.int 1))) aNil))))))))))
def m_Tree___init__ : FnM := fnM 2 4 t_Tree___init__
theorem fo_Tree___init__ {w : World} {K : PySem.W.Frag} {mg : Str → Option Value} {base : Heap} (D : Facts K mg) (TB : TbsOk K mg base T) {fd : FuncData} (F : FunD K "__init__" "Tree.__init__" (defArgs s_Tree___init__) (defBody s_Tree___init__) (defScope s_Tree___init__) [(.ref (He.dflAt ("Tree", some "__init__") 0 K))] [] (He.ma K (He.ga K "Tree") "__init__") fd) : FnOk PP w K mg base (L2.CX PP w) 4 (He.ma K (He.ga K "Tree") "__init__") fd ["self", "blocks"] (spM K T m_Tree___init__) := fn_v1 F sc_Tree___init__ fun cdv A outer s H E hr =>
    (vb_cons (vs_if (vt_not (vt_val (ve_call (ok_is_list D TB) (hr.mono (by first | decide | omega)) rfl (D.g26) passV (va_cons (ve_var (i := 1) rfl (Or.inl rfl)) va_nil)))) (vb_one ((xf_2 (w := w) (base := base) D).elim fun _ F1 => vs_raise (c := 502) (i := 7) rfl tk1 (fun _ _ _ _ h => h) (D.xc2).ox (D.xc2).ini (D.xc2).typ F1.1 (hr.mono (by first | decide | omega)) F1.2 rfl (D.g27) ve_int)) vb_nil)
    (vb_cons (vs_unp rfl (va_cons (ve_lstM va_nil) (va_cons (ve_lstM (va_cons ve_int va_nil)) (va_cons (ve_lstM (va_cons ve_non va_nil)) (va_cons (ve_lstM (va_cons ve_int va_nil)) va_nil)))) (vms_cons (vm_attr (i := 0) (j := 0) D.tab (by decide +kernel) rfl (Or.inl rfl)) (vms_cons (vm_attr (i := 2) (j := 0) D.tab (by decide +kernel) rfl (Or.inl rfl)) (vms_cons (vm_attr (i := 3) (j := 0) D.tab (by decide +kernel) rfl (Or.inl rfl)) (vms_cons (vm_attr (i := 4) (j := 0) D.tab (by decide +kernel) rfl (Or.inl rfl)) vms_nil)))))
    (vb_one (vs_for own1x rfl (vi_enum rfl (D.n5) (va_cons (ve_var (i := 1) rfl (Or.inl rfl)) va_nil)) (vg_tup rfl (vgs_cons (vg_name (i := 2) sc_Tree___init__.nd rfl (Or.inl rfl)) (vgs_cons (vg_name (i := 3) sc_Tree___init__.nd rfl (Or.inl rfl)) vgs_nil)) (gsCons_len (gsCons_len (fun _ _ _ h => gsNil_len h)))) (vb_cons (vs_if (VW.vt (vw_or (vt_not (vt_val (ve_call (ok_is_list D TB) (hr.mono (by first | decide | omega)) rfl (D.g26) passV (va_cons (ve_var (i := 3) rfl (Or.inl rfl)) va_nil)))) (vw_or (vt_cmp (or_ne (hu64 hr)) o2_ne (ve_callB cr_len on_len rfl (D.n3) (by decide +kernel) (va_cons (ve_var (i := 3) rfl (Or.inl rfl)) va_nil)) ve_int (nomark _)) (vw_or1 (vt_not (vt_val (ve_meth (c := 2) D.tab rfl (by decide +kernel) (ve_var (i := 0) rfl (Or.inl rfl)) (D.me3) (Fn.bor (ok_Tree_can_stand D TB)) (hr.mono (by first | decide | omega)) passV (va_cons (ve_ix (ve_var (i := 3) rfl (Or.inl rfl)) ve_int) (va_cons (ve_ix (ve_var (i := 3) rfl (Or.inl rfl)) ve_int) va_nil))))))))) (vb_one ((xf_2 (w := w) (base := base) D).elim fun _ F1 => vs_raise (c := 502) (i := 7) rfl tk1 (fun _ _ _ _ h => h) (D.xc2).ox (D.xc2).ini (D.xc2).typ F1.1 (hr.mono (by first | decide | omega)) F1.2 rfl (D.g27) (ve_op or_add o2_add (ve_var (i := 2) rfl (Or.inl rfl)) ve_int))) vb_nil)
    (vb_cons (vs_expr (ve_append (ve_attr (i := 0) D.tab (ve_var (i := 0) rfl (Or.inl rfl)) (by decide +kernel)) (ve_tup (va_cons (ve_ix (ve_var (i := 3) rfl (Or.inl rfl)) ve_int) (va_cons (ve_ix (ve_var (i := 3) rfl (Or.inl rfl)) ve_int) va_nil)))))
    (vb_cons (vs_expr (ve_append (ve_attr (i := 2) D.tab (ve_var (i := 0) rfl (Or.inl rfl)) (by decide +kernel)) (ve_ix (ve_var (i := 3) rfl (Or.inl rfl)) ve_int)))
    (vb_cons (vs_expr (ve_append (ve_attr (i := 3) D.tab (ve_var (i := 0) rfl (Or.inl rfl)) (by decide +kernel)) (ve_ix (ve_var (i := 3) rfl (Or.inl rfl)) ve_int)))
    (vb_one (vs_expr (ve_append (ve_attr (i := 4) D.tab (ve_var (i := 0) rfl (Or.inl rfl)) (by decide +kernel)) (ve_op or_add o2_add (ve_ix (ve_attr (i := 4) D.tab (ve_var (i := 0) rfl (Or.inl rfl)) (by decide +kernel)) (ve_ix (ve_var (i := 3) rfl (Or.inl rfl)) ve_int)) ve_int))))))))))))
theorem ok_Tree___init__ {w : World} {K : PySem.W.Frag} {mg : Str → Option Value} {base : Heap} (D : Facts K mg) (TB : TbsOk K mg base T) : Fn PP w K mg base T (L2.CX PP w) 4 (He.ma K (He.ga K "Tree") "__init__") m_Tree___init__ := by
  obtain ⟨fd, F⟩ := D.d_Tree___init__
  obtain ⟨ds, hv, hb⟩ := F.binds1 (ps := ["self", "blocks"]) 2 1 (by simp) rfl (fun _ _ _ _ _ _ _ us its hu hi => match us, hu, its, hi with | [_, _], _, [_], _ => ⟨_, rfl, rfl⟩)
  exact Fn.full (fo_Tree___init__ D TB F) hb hv F.kp
/-! tree_read -/
theorem sc_tree_read : FnScope ["lines", "found", "at", "line", "first", "blank", "second", "slot", "parent"] ["lines"] (defScope s_tree_read) := ⟨rfl, rfl, rfl, by decide +kernel, rfl, by decide +kernel, by decide +kernel⟩
def t_tree_read : TSv :=
  (bCons (sSet 1 (eLstM aNil))
    (bCons (sFor (iEnum (aCons (eVar 0) aNil)) (gTp (gsCons (gNm 2) (gsCons (gNm 3) gsNil))) (bCons (sAsg (eBM "str" partF (eVar 3) (aCons (eC (.str [32])) aNil)) (gTp (gsCons (gNm 4) (gsCons (gNm 5) (gsCons (gNm 6) gsNil)))))
    (bCons (sPar2 7 8 (aCons (eCall m_number_of (aCons (eVar 4) aNil)) (aCons (eCall m_number_of (aCons (eVar 6) aNil)) aNil)))
    (bCons (sIf (tOrV (tVal (eOp2 isNF (eVar 7) (eC .non))) (tOrV (tVal (eOp2 isNF (eVar 8) (eC .non))) (tOrV (tVal (eOp2 gtF (eVar 8) (eVar 2))) (tNotV (tVal (eBor (eMeth 2 m_Tree_can_stand (eCall (mkF 2 m_Tree___init__) (aCons (eVar 1) aNil)) (aCons (eVar 7) (aCons (eVar 8) aNil))))))))) (sRaise 500 5 (eOp2 addF (eVar 2) (eC (.int 2)))) bNil)
    (sExpr (eMut false cAppend (eVar 1) (aCons (eTup (aCons (eVar 7) (aCons (eVar 8) aNil))) aNil)))))))
    (sRet (eCall (mkF 2 m_Tree___init__) (aCons (eFrzC (eVar 1)) aNil)))))
def m_tree_read : FnM := fnM 1 9 t_tree_read
theorem fo_tree_read {w : World} {K : PySem.W.Frag} {mg : Str → Option Value} {base : Heap} (D : Facts K mg) (TB : TbsOk K mg base T) {fd : FuncData} (F : FunD K "tree_read" "tree_read" (defArgs s_tree_read) (defBody s_tree_read) (defScope s_tree_read) [] [] (He.ga K "tree_read") fd) : FnOk PP w K mg base (L2.CX PP w) 6 (He.ga K "tree_read") fd ["lines"] (spM K T m_tree_read) := fn_v1 F sc_tree_read fun cdv A outer s H E hr =>
    (vb_cons (vs_set (i := 1) sc_tree_read.nd rfl (Or.inl rfl) (ve_lstM va_nil))
    (vb_cons (vs_for own1x rfl (vi_enum rfl (D.n5) (va_cons (ve_var (i := 0) rfl (Or.inl rfl)) va_nil)) (vg_tup rfl (vgs_cons (vg_name (i := 2) sc_tree_read.nd rfl (Or.inl rfl)) (vgs_cons (vg_name (i := 3) sc_tree_read.nd rfl (Or.inl rfl)) vgs_nil)) (gsCons_len (gsCons_len (fun _ _ _ h => gsNil_len h)))) (vb_cons (vs_asg (ve_part (ve_var (i := 3) rfl (Or.inl rfl)) (ve_str (by decide +kernel))) (vg_tup rfl (vgs_cons (vg_name (i := 4) sc_tree_read.nd rfl (Or.inl rfl)) (vgs_cons (vg_name (i := 5) sc_tree_read.nd rfl (Or.inl rfl)) (vgs_cons (vg_name (i := 6) sc_tree_read.nd rfl (Or.inl rfl)) vgs_nil))) (gsCons_len (gsCons_len (gsCons_len (fun _ _ _ h => gsNil_len h))))))
    (vb_cons (vs_par2 (i := 7) (j := 8) rfl sc_tree_read.nd rfl rfl (by decide) rfl rfl (va_cons (ve_call (ok_number_of D TB) (hr.mono (by first | decide | omega)) rfl (D.g23) passV (va_cons (ve_var (i := 4) rfl (Or.inl rfl)) va_nil)) (va_cons (ve_call (ok_number_of D TB) (hr.mono (by first | decide | omega)) rfl (D.g23) passV (va_cons (ve_var (i := 6) rfl (Or.inl rfl)) va_nil)) va_nil)) (by kernel_rfl))
    (vb_cons (vs_if (VW.vt (vw_or (vt_cmp or_is o2_is (ve_var (i := 7) rfl (Or.inl rfl)) ve_non (nomark _)) (vw_or (vt_cmp or_is o2_is (ve_var (i := 8) rfl (Or.inl rfl)) ve_non (nomark _)) (vw_or (vt_cmp op_gt (o2_cmp (p := fun i j => decide (j < i))) (ve_var (i := 8) rfl (Or.inl rfl)) (ve_var (i := 2) rfl (Or.inl rfl)) (nomark _)) (vw_or1 (vt_not (vt_val (ve_bor (ve_meth (c := 2) D.tab rfl (by decide +kernel) (ve_mkF (c := 2) rfl (D.mk2) (ok_Tree___init__ D TB) (hr.mono (by first | decide | omega)) rfl (D.g15) pass1 (va_cons (ve_var (i := 1) rfl (Or.inl rfl)) va_nil)) (D.me3) (ok_Tree_can_stand D TB) (hr.mono (by first | decide | omega)) passV (va_cons (ve_var (i := 7) rfl (Or.inl rfl)) (va_cons (ve_var (i := 8) rfl (Or.inl rfl)) va_nil))))))))))) (vb_one ((xf_0 (w := w) (base := base) D).elim fun _ F1 => vs_raise (c := 500) (i := 5) rfl tk1 (fun _ _ _ _ h => h) (D.xc0).ox (D.xc0).ini (D.xc0).typ F1.1 (hr.mono (by first | decide | omega)) F1.2 rfl (D.g13) (ve_op or_add o2_add (ve_var (i := 2) rfl (Or.inl rfl)) ve_int))) vb_nil)
    (vb_one (vs_expr (ve_append (ve_var (i := 1) rfl (Or.inl rfl)) (ve_tup (va_cons (ve_var (i := 7) rfl (Or.inl rfl)) (va_cons (ve_var (i := 8) rfl (Or.inl rfl)) va_nil))))))))))
    (vb_one (vs_ret (ve_mkF (c := 2) rfl (D.mk2) (ok_Tree___init__ D TB) (hr.mono (by first | decide | omega)) rfl (D.g15) pass1 (va_cons (ve_frzC (ve_var (i := 1) rfl (Or.inl rfl))) va_nil))))))
theorem ok_tree_read {w : World} {K : PySem.W.Frag} {mg : Str → Option Value} {base : Heap} (D : Facts K mg) (TB : TbsOk K mg base T) : Fn PP w K mg base T (L2.CX PP w) 6 (He.ga K "tree_read") m_tree_read := by
  obtain ⟨fd, F⟩ := D.d_tree_read
  exact Fn.plain (fo_tree_read D TB F) (F.bindsN fun _ _ _ _ _ _ us hl => match us, hl with | [_], _ => rfl) F.kp
/-! read -/
theorem sc_read : FnScope ["text", "lines"] ["text"] (defScope s_read) := ⟨rfl, rfl, rfl, by decide +kernel, rfl, by decide +kernel, by decide +kernel⟩
def t_read : TSv :=
  (bCons (sIf (tNotV (tVal (eIsi [.str] (eVar 0)))) (sRaise 500 5 (eC (.int 0))) bNil)
    (bCons (sSet 1 (eBM "str" splitF (eVar 0) (aCons (eC (.str [10])) aNil)))
    (bCons (sIf (tVal (eOp2 eqF (eIx (eVar 1) (eC (.int 0))) (eC (.str [114, 111, 119])))) (sRet (eCall m_row_read (aCons (eSl (eVar 1) (oSome (eC (.int 1))) oNone) aNil))) bNil)
    (bCons (sIf (tVal (eOp2 eqF (eIx (eVar 1) (eC (.int 0))) (eC (.str [116, 114, 101, 101])))) (sRet (eCall m_tree_read (aCons (eSl (eVar 1) (oSome (eC (.int 1))) oNone) aNil))) bNil)
    (sRaise 500 5 (eC (.int 1)))))))
def m_read : FnM := fnM 1 2 t_read
theorem fo_read {w : World} {K : PySem.W.Frag} {mg : Str → Option Value} {base : Heap} (D : Facts K mg) (TB : TbsOk K mg base T) {fd : FuncData} (F : FunD K "read" "read" (defArgs s_read) (defBody s_read) (defScope s_read) [] [] (He.ga K "read") fd) : FnOk PP w K mg base (L2.CX PP w) 7 (He.ga K "read") fd ["text"] (spM K T m_read) := fn_v1 F sc_read fun cdv A outer s H E hr =>
    (vb_cons (vs_if (vt_not (vt_val (ve_isi D.tab D.isi rfl (D.n7) (ve_var (i := 0) rfl (Or.inl rfl)) (tg_ty rfl (D.n4) (by decide +kernel))))) (vb_one ((xf_0 (w := w) (base := base) D).elim fun _ F1 => vs_raise (c := 500) (i := 5) rfl tk1 (fun _ _ _ _ h => h) (D.xc0).ox (D.xc0).ini (D.xc0).typ F1.1 (hr.mono (by first | decide | omega)) F1.2 rfl (D.g13) ve_int)) vb_nil)
    (vb_cons (vs_set (i := 1) sc_read.nd rfl (Or.inl rfl) (ve_split (ve_var (i := 0) rfl (Or.inl rfl)) (ve_str (by decide +kernel))))
    (vb_cons (vs_if (vt_cmp (or_eq (hu64 hr)) o2_eq (ve_ix (ve_var (i := 1) rfl (Or.inl rfl)) ve_int) (ve_str (by decide +kernel)) (nomark _)) (vb_one (vs_ret (ve_call (ok_row_read D TB) (hr.mono (by first | decide | omega)) rfl (D.g22) pass1 (va_cons (ve_sl (ve_var (i := 1) rfl (Or.inl rfl)) (vo_some ve_int) vo_none) va_nil)))) vb_nil)
    (vb_cons (vs_if (vt_cmp (or_eq (hu64 hr)) o2_eq (ve_ix (ve_var (i := 1) rfl (Or.inl rfl)) ve_int) (ve_str (by decide +kernel)) (nomark _)) (vb_one (vs_ret (ve_call (ok_tree_read D TB) (hr.mono (by first | decide | omega)) rfl (D.g24) pass1 (va_cons (ve_sl (ve_var (i := 1) rfl (Or.inl rfl)) (vo_some ve_int) vo_none) va_nil)))) vb_nil)
    (vb_one ((xf_0 (w := w) (base := base) D).elim fun _ F1 => vs_raise (c := 500) (i := 5) rfl tk1 (fun _ _ _ _ h => h) (D.xc0).ox (D.xc0).ini (D.xc0).typ F1.1 (hr.mono (by first | decide | omega)) F1.2 rfl (D.g13) ve_int))))))
theorem ok_read {w : World} {K : PySem.W.Frag} {mg : Str → Option Value} {base : Heap} (D : Facts K mg) (TB : TbsOk K mg base T) : Fn PP w K mg base T (L2.CX PP w) 7 (He.ga K "read") m_read := by
  obtain ⟨fd, F⟩ := D.d_read
  exact Fn.plain (fo_read D TB F) (F.bindsN fun _ _ _ _ _ _ us hl => match us, hl with | [_], _ => rfl) F.kp
/-! _law_tried -/
theorem sc__law_tried : FnScope ["_law_thing", "_law_found", "e"] ["_law_thing"] (defScope s__law_tried) := ⟨rfl, rfl, rfl, by decide +kernel, rfl, by decide +kernel, by decide +kernel⟩
def t__law_tried : TSv :=
  (bCons (sTry 500 5 (some [98, 97, 100]) (sSet 1 (eTup (aCons (eC (.str [114, 101, 97, 100])) (aCons (eCall m_write (aCons (eCall m_read (aCons (eVar 0) aNil)) aNil)) aNil)))))
    (sRet (eVar 1)))
def m__law_tried : FnM := fnM 1 3 t__law_tried
theorem fo__law_tried {w : World} {K : PySem.W.Frag} {mg : Str → Option Value} {base : Heap} (D : Facts K mg) (TB : TbsOk K mg base T) {fd : FuncData} (F : FunD K "_law_tried" "_law_tried" (defArgs s__law_tried) (defBody s__law_tried) (defScope s__law_tried) [] [] (He.ga K "_law_tried") fd) : FnOk PP w K mg base CX0 8 (He.ga K "_law_tried") fd ["_law_thing"] (spM K T m__law_tried) := fn_v0 F sc__law_tried fun cdv A outer s H E E' hr =>
    (vb_cons (vs_tryT (c := 500) (i := 5) (tag := [98, 97, 100]) (by first | rfl | decide) rfl rfl rfl rfl sc__law_tried.nd rfl rfl (fun _ => rfl) (exm_one D.exm (by decide)) rfl (by decide) (D.g13) (D.xc0).xf (D.xc0).nof (fun W pn xe Ech tkT hWT => (vs_set (i := 1) sc__law_tried.nd rfl (Or.inl rfl) (ve_tup (va_cons (ve_str (by decide +kernel)) (va_cons (ve_call (ok_write D TB) (hr.mono (by first | decide | omega)) rfl (D.g14) (L2.passes_call tkT hWT) (va_cons (ve_call (ok_read D TB) (hr.mono (by first | decide | omega)) rfl (D.g21) (L2.passes_call tkT hWT) (va_cons (ve_var (i := 0) rfl (Or.inl rfl)) va_nil)) va_nil)) va_nil))))) rfl (fun _ => rfl))
    (vb_one (vs_ret (ve_var (i := 1) rfl (Or.inl rfl)))))
theorem ok__law_tried {w : World} {K : PySem.W.Frag} {mg : Str → Option Value} {base : Heap} (D : Facts K mg) (TB : TbsOk K mg base T) : Fn PP w K mg base T CX0 8 (He.ga K "_law_tried") m__law_tried := by
  obtain ⟨fd, F⟩ := D.d__law_tried
  exact Fn.plain (fo__law_tried D TB F) (F.bindsN fun _ _ _ _ _ _ us hl => match us, hl with | [_], _ => rfl) F.kp
/-! _law_refused -/
theorem sc__law_refused : FnScope ["_law_thing", "_law_found", "e"] ["_law_thing"] (defScope s__law_refused) := ⟨rfl, rfl, rfl, by decide +kernel, rfl, by decide +kernel, by decide +kernel⟩
def t__law_refused : TSv :=
  (bCons (sSet 1 (eC .non))
    (bCons (sTry 501 6 none (sExpr (eCall m_write (aCons (eVar 0) aNil))))
    (sRet (eVar 1))))
def m__law_refused : FnM := fnM 1 3 t__law_refused
theorem fo__law_refused {w : World} {K : PySem.W.Frag} {mg : Str → Option Value} {base : Heap} (D : Facts K mg) (TB : TbsOk K mg base T) {fd : FuncData} (F : FunD K "_law_refused" "_law_refused" (defArgs s__law_refused) (defBody s__law_refused) (defScope s__law_refused) [] [] (He.ga K "_law_refused") fd) : FnOk PP w K mg base CX0 8 (He.ga K "_law_refused") fd ["_law_thing"] (spM K T m__law_refused) := fn_v0 F sc__law_refused fun cdv A outer s H E E' hr =>
    (vb_cons (vs_set (i := 1) sc__law_refused.nd rfl (Or.inl rfl) ve_non)
    (vb_cons (vs_tryN (c := 501) (i := 6) rfl rfl rfl rfl sc__law_refused.nd rfl rfl (fun _ => rfl) (exm_one D.exm (by decide)) rfl (by decide) (D.g20) (D.xc1).xf (D.xc1).nof (fun W pn xe Ech tkT hWT => (vs_expr (ve_call (ok_write D TB) (hr.mono (by first | decide | omega)) rfl (D.g14) (L2.passes_call tkT hWT) (va_cons (ve_var (i := 0) rfl (Or.inl rfl)) va_nil)))) rfl (fun _ => rfl))
    (vb_one (vs_ret (ve_var (i := 1) rfl (Or.inl rfl))))))
theorem ok__law_refused {w : World} {K : PySem.W.Frag} {mg : Str → Option Value} {base : Heap} (D : Facts K mg) (TB : TbsOk K mg base T) : Fn PP w K mg base T CX0 8 (He.ga K "_law_refused") m__law_refused := by
  obtain ⟨fd, F⟩ := D.d__law_refused
  exact Fn.plain (fo__law_refused D TB F) (F.bindsN fun _ _ _ _ _ _ us hl => match us, hl with | [_], _ => rfl) F.kp
/-! law -/
theorem sc_law : FnScope ["_law_script", "_law_stream", "_law_turn", "_law_lines_here", "_law_k", "_law_told", "_law_bad", "_law_due", "_law_some", "_law_odd", "_law_thing", "_law_at"] ["_law_script"] (defScope s_law) := ⟨rfl, rfl, rfl, by decide +kernel, rfl, by decide +kernel, by decide +kernel⟩
def t_law : TSv :=
  (bCons (sSet 1 (eCall m__law_start (aCons (eVar 0) aNil)))
    (bCons (sFor (iRange1 (aCons (eC (.int 10)) aNil)) (gNm 2) (bCons (sSet 3 (eCall m__law_lines (aCons (eVar 1) aNil)))
    (bCons (sFor (iRange1 (aCons (eOp2 addF (eC (.int 1)) (eCall m__law_draw (aCons (eVar 1) (aCons (eC (.int 3)) aNil)))) aNil)) (gNm 4) (sSet 3 (eCall m__law_bent (aCons (eVar 1) (aCons (eVar 3) aNil)))))
    (bCons (sSet 5 (eBM "str" joinF (eC (.str [10])) (aCons (eVar 3) aNil)))
    (bCons (sPar2 3 6 (aCons (eBM "str" splitF (eVar 5) (aCons (eC (.str [10])) aNil)) (aCons (eC (.int 1)) aNil)))
    (bCons (sIf (tVal (eOp2 eqF (eIx (eVar 3) (eC (.int 0))) (eC (.str [114, 111, 119])))) (sSet 6 (eCall m__law_row_fault (aCons (eVar 3) aNil))) (sIf (tVal (eOp2 eqF (eIx (eVar 3) (eC (.int 0))) (eC (.str [116, 114, 101, 101])))) (sSet 6 (eCall m__law_tree_fault (aCons (eVar 3) aNil))) bNil))
    (bCons (sSet 7 (eIf (tVal (eOp2 isNF (eVar 6) (eC .non))) (eTup (aCons (eC (.str [114, 101, 97, 100])) (aCons (eVar 5) aNil))) (eTup (aCons (eC (.str [98, 97, 100])) (aCons (eVar 6) aNil)))))
    (bCons (sIf (tNotV (tVal (eCall (m__law_same 8) (aCons (eCall m__law_tried (aCons (eVar 5) aNil)) (aCons (eVar 7) aNil))))) (sRet (eC (.bl false))) bNil)
    (sIf (tAndV (tVal (eOp2 isNF (eVar 6) (eC .non))) (tNotV (tVal (eCall (m__law_same 8) (aCons (eCall m__law_tried (aCons (eOp2 addF (eVar 5) (eC (.str [10]))) aNil)) (aCons (eTup (aCons (eC (.str [98, 97, 100])) (aCons (eOp2 addF (eCB (g1 lenF) (aCons (eVar 3) aNil)) (eC (.int 1))) aNil))) aNil)))))) (sRet (eC (.bl false))) bNil)))))))))
    (bCons (sSet 8 (eLst (aCons (eTup (aCons (eC .non) (aCons (eC (.int 0)) aNil))) (aCons (eTup (aCons (eC (.int 5)) (aCons (eC (.int 0)) aNil))) (aCons (eTup (aCons (eLst (aCons (eC (.str [104])) aNil)) (aCons (eC (.int 0)) aNil))) (aCons (eTup (aCons (eC (.str [104, 120])) (aCons (eC (.int 1)) aNil))) (aCons (eTup (aCons (eC (.str [120])) (aCons (eC (.int 0)) aNil))) (aCons (eTup (aCons (eC (.bl true)) (aCons (eC (.int 0)) aNil))) (aCons (eTup (aCons (eFrz eDNew) (aCons (eC (.int 0)) aNil))) aNil)))))))))
    (bCons (sIf (tNotV (tVal (eCall (m__law_same 8) (aCons (eFrz (eLc (iAny (eVar 8)) (gTp (gsCons (gNm 10) (gsCons (gNm 11) gsNil))) tYesV (eCall m__law_refused (aCons (eVar 10) aNil)) [10, 11])) (aCons (eFrz (eLc (iAny (eVar 8)) (gTp (gsCons (gNm 10) (gsCons (gNm 11) gsNil))) tYesV (eVar 11) [10, 11])) aNil))))) (sRet (eC (.bl false))) bNil)
    (bCons (sSet 9 (eLst (aCons (eC .non) (aCons (eC (.int 5)) (aCons (eLst (aCons (eC (.str [114, 111, 119])) aNil)) (aCons (eTup (aCons (eC (.str [116, 114, 101, 101])) aNil)) (aCons (eC (.bl true)) (aCons (eFrz eDNew) aNil))))))))
    (sRet (eAnd (eOp2 eqF (eFrz (eLc (iAny (eVar 9)) (gNm 10) tYesV (eCall m__law_tried (aCons (eVar 10) aNil)) [10])) (eOp2 mulF (eLst (aCons (eTup (aCons (eC (.str [98, 97, 100])) (aCons (eC (.int 0)) aNil))) aNil)) (eC (.int 6)))) (eOp2 eqF (eCall m__law_tried (aCons (eC (.str [])) aNil)) (eTup (aCons (eC (.str [98, 97, 100])) (aCons (eC (.int 1)) aNil)))))))))))
def m_law : FnM := fnM 1 12 t_law
theorem fo_law {w : World} {K : PySem.W.Frag} {mg : Str → Option Value} {base : Heap} (D : Facts K mg) (TB : TbsOk K mg base T) {fd : FuncData} (F : FunD K "law" "law" (defArgs s_law) (defBody s_law) (defScope s_law) [] [] (He.ga K "law") fd) : FnOk PP w K mg base CX0 10 (He.ga K "law") fd ["_law_script"] (spM K T m_law) := fn_v0 F sc_law fun cdv A outer s H E E' hr =>
    (vb_cons (vs_set (i := 1) sc_law.nd rfl (Or.inl rfl) (ve_call (ok__law_start D TB) (hr.mono (by first | decide | omega)) rfl (D.g0) passV (va_cons (ve_var (i := 0) rfl (Or.inl rfl)) va_nil)))
    (vb_cons (vs_for PassesOwn.never rfl (vi_range1 rfl (D.n1) (va_cons ve_int va_nil)) (vg_name (i := 2) sc_law.nd rfl (Or.inl rfl)) (vb_cons (vs_set (i := 3) sc_law.nd rfl (Or.inl rfl) (ve_call (ok__law_lines D TB) (hr.mono (by first | decide | omega)) rfl (D.g1) passV (va_cons (ve_var (i := 1) rfl (Or.inl rfl)) va_nil)))
    (vb_cons (vs_for PassesOwn.never rfl (vi_range1 rfl (D.n1) (va_cons (ve_op or_add o2_add ve_int (ve_call (ok__law_draw D TB) (hr.mono (by first | decide | omega)) rfl (D.g2) passV (va_cons (ve_var (i := 1) rfl (Or.inl rfl)) (va_cons ve_int va_nil)))) va_nil)) (vg_name (i := 4) sc_law.nd rfl (Or.inl rfl)) (vb_one (vs_set (i := 3) sc_law.nd rfl (Or.inl rfl) (ve_call (ok__law_bent D TB) (hr.mono (by first | decide | omega)) rfl (D.g7) passV (va_cons (ve_var (i := 1) rfl (Or.inl rfl)) (va_cons (ve_var (i := 3) rfl (Or.inl rfl)) va_nil))))))
    (vb_cons (vs_set (i := 5) sc_law.nd rfl (Or.inl rfl) (ve_join (ve_str (by decide +kernel)) (ve_var (i := 3) rfl (Or.inl rfl))))
    (vb_cons (vs_par2 (i := 3) (j := 6) rfl sc_law.nd rfl rfl (by decide) rfl rfl (va_cons (ve_split (ve_var (i := 5) rfl (Or.inl rfl)) (ve_str (by decide +kernel))) (va_cons ve_int va_nil)) (by kernel_rfl))
    (vb_cons (vs_if (vt_cmp (or_eq (hu64 hr)) o2_eq (ve_ix (ve_var (i := 3) rfl (Or.inl rfl)) ve_int) (ve_str (by decide +kernel)) (nomark _)) (vb_one (vs_set (i := 6) sc_law.nd rfl (Or.inl rfl) (ve_call (ok__law_row_fault D TB) (hr.mono (by first | decide | omega)) rfl (D.g8) passV (va_cons (ve_var (i := 3) rfl (Or.inl rfl)) va_nil)))) (vb_one (vs_if (vt_cmp (or_eq (hu64 hr)) o2_eq (ve_ix (ve_var (i := 3) rfl (Or.inl rfl)) ve_int) (ve_str (by decide +kernel)) (nomark _)) (vb_one (vs_set (i := 6) sc_law.nd rfl (Or.inl rfl) (ve_call (ok__law_tree_fault D TB) (hr.mono (by first | decide | omega)) rfl (D.g10) passV (va_cons (ve_var (i := 3) rfl (Or.inl rfl)) va_nil)))) vb_nil)))
    (vb_cons (vs_set (i := 7) sc_law.nd rfl (Or.inl rfl) (ve_if (vt_cmp or_is o2_is (ve_var (i := 6) rfl (Or.inl rfl)) ve_non (nomark _)) (ve_tup (va_cons (ve_str (by decide +kernel)) (va_cons (ve_var (i := 5) rfl (Or.inl rfl)) va_nil))) (ve_tup (va_cons (ve_str (by decide +kernel)) (va_cons (ve_var (i := 6) rfl (Or.inl rfl)) va_nil)))))
    (vb_cons (vs_if (vt_not (vt_val (ve_call (ok__law_same D TB 8) (hr.mono (by first | decide | omega)) rfl (D.g11) passV (va_cons (ve_call (ok__law_tried D TB) (hr.mono (by first | decide | omega)) rfl (D.g12) passV (va_cons (ve_var (i := 5) rfl (Or.inl rfl)) va_nil)) (va_cons (ve_var (i := 7) rfl (Or.inl rfl)) va_nil))))) (vb_one (vs_ret ve_bl)) vb_nil)
    (vb_one (vs_if (VW.vt (vw_and (vt_cmp or_is o2_is (ve_var (i := 6) rfl (Or.inl rfl)) ve_non (nomark _)) (vw_and1 (vt_not (vt_val (ve_call (ok__law_same D TB 8) (hr.mono (by first | decide | omega)) rfl (D.g11) passV (va_cons (ve_call (ok__law_tried D TB) (hr.mono (by first | decide | omega)) rfl (D.g12) passV (va_cons (ve_op or_add o2_add (ve_var (i := 5) rfl (Or.inl rfl)) (ve_str (by decide +kernel))) va_nil)) (va_cons (ve_tup (va_cons (ve_str (by decide +kernel)) (va_cons (ve_op or_add o2_add (ve_callB cr_len on_len rfl (D.n3) (by decide +kernel) (va_cons (ve_var (i := 3) rfl (Or.inl rfl)) va_nil)) ve_int) va_nil))) va_nil)))))))) (vb_one (vs_ret ve_bl)) vb_nil))))))))))
    (vb_cons (vs_set (i := 8) sc_law.nd rfl (Or.inl rfl) (ve_lst (va_cons (ve_tup (va_cons ve_non (va_cons ve_int va_nil))) (va_cons (ve_tup (va_cons ve_int (va_cons ve_int va_nil))) (va_cons (ve_tup (va_cons (ve_lst (va_cons (ve_str (by decide +kernel)) va_nil)) (va_cons ve_int va_nil))) (va_cons (ve_tup (va_cons (ve_str (by decide +kernel)) (va_cons ve_int va_nil))) (va_cons (ve_tup (va_cons (ve_str (by decide +kernel)) (va_cons ve_int va_nil))) (va_cons (ve_tup (va_cons ve_bl (va_cons ve_int va_nil))) (va_cons (ve_tup (va_cons (ve_frz ve_dnew) (va_cons ve_int va_nil))) va_nil)))))))))
    (vb_cons (vs_if (vt_not (vt_val (ve_call (ok__law_same D TB 8) (hr.mono (by first | decide | omega)) rfl (D.g11) passV (va_cons (ve_frz (ve_lc (own := [("_law_thing", 10), ("_law_at", 11)]) rfl sc_law.nd (vi_any (ve_var (i := 8) rfl (Or.inl rfl))) (blkOk_by (by kernel_rfl)) (by decide) (fun _ _ _ _ _ => (vgw_tup rfl (vgsw_cons (vgw_name (i := 10) sc_law.nd rfl (Or.inl rfl)) (vgsw_cons (vgw_name (i := 11) sc_law.nd rfl (Or.inl rfl)) vgsw_nil)) (gsCons_len (gsCons_len (fun _ _ _ h => gsNil_len h))))) (fun _ _ _ _ _ => vts_nil) (fun _ _ _ _ _ => (ve_call (ok__law_refused D TB) (hr.mono (by first | decide | omega)) rfl (D.g28) passV (va_cons (ve_var (i := 10) rfl (Or.inl rfl)) va_nil))))) (va_cons (ve_frz (ve_lc (own := [("_law_thing", 10), ("_law_at", 11)]) rfl sc_law.nd (vi_any (ve_var (i := 8) rfl (Or.inl rfl))) (blkOk_by (by kernel_rfl)) (by decide) (fun _ _ _ _ _ => (vgw_tup rfl (vgsw_cons (vgw_name (i := 10) sc_law.nd rfl (Or.inl rfl)) (vgsw_cons (vgw_name (i := 11) sc_law.nd rfl (Or.inl rfl)) vgsw_nil)) (gsCons_len (gsCons_len (fun _ _ _ h => gsNil_len h))))) (fun _ _ _ _ _ => vts_nil) (fun _ _ _ _ _ => (ve_var (i := 11) rfl (Or.inl rfl))))) va_nil))))) (vb_one (vs_ret ve_bl)) vb_nil)
    (vb_cons (vs_set (i := 9) sc_law.nd rfl (Or.inl rfl) (ve_lst (va_cons ve_non (va_cons ve_int (va_cons (ve_lst (va_cons (ve_str (by decide +kernel)) va_nil)) (va_cons (ve_tup (va_cons (ve_str (by decide +kernel)) va_nil)) (va_cons ve_bl (va_cons (ve_frz ve_dnew) va_nil))))))))
    (vb_one (vs_ret (ve_and (ve_cmp (or_eq (hu64 hr)) o2_eq (ve_frz (ve_lc (own := [("_law_thing", 10)]) rfl sc_law.nd (vi_any (ve_var (i := 9) rfl (Or.inl rfl))) (blkOk_by (by kernel_rfl)) (by decide) (fun _ _ _ _ _ => (vgw_name (i := 10) sc_law.nd rfl (Or.inl rfl))) (fun _ _ _ _ _ => vts_nil) (fun _ _ _ _ _ => (ve_call (ok__law_tried D TB) (hr.mono (by first | decide | omega)) rfl (D.g12) passV (va_cons (ve_var (i := 10) rfl (Or.inl rfl)) va_nil))))) (ve_op or_mul o2_mul (ve_lst (va_cons (ve_tup (va_cons (ve_str (by decide +kernel)) (va_cons ve_int va_nil))) va_nil)) ve_int) (nomark _)) (ve_one (ve_cmp (or_eq (hu64 hr)) o2_eq (ve_call (ok__law_tried D TB) (hr.mono (by first | decide | omega)) rfl (D.g12) passV (va_cons (ve_str (by decide +kernel)) va_nil)) (ve_tup (va_cons (ve_str (by decide +kernel)) (va_cons ve_int va_nil))) (nomark _)))))))))))
end LB

set_option Elab.async false
set_option linter.all false
set_option maxRecDepth 100000
set_option maxHeartbeats 4000000
set_option autoImplicit false
namespace LBE
open LB
open PySem PySem.Spec PyProof.Rows L2 VS LX LamX
def exL (K : PySem.W.Frag) : List Bool := [tabB K T, isiB K T, exmB K T [500, 501, 502], xcB PP K xd_0, xcB PP K xd_1, xcB PP K xd_2]
def exB (K : PySem.W.Frag) : Bool := (exL K).all id
theorem exB_at {K : PySem.W.Frag} (h : exB K = true) (i : Nat) {b : Bool} (e : (exL K)[i]? = some b) : b = true := List.all_eq_true.mp h b (List.mem_of_getElem? e)
def fa0 : List He.Fa := [.glo "_law_start", .glo "_law_lines", .glo "_law_draw", .glo "_law_t_row", .glo "_law_pick", .glo "_law_t_drawn", .glo "_law_t_slot", .glo "_law_bent", .glo "_law_row_fault", .glo "_law_number", .glo "_law_tree_fault", .glo "_law_same", .glo "_law_tried", .glo "BadText", .glo "write", .glo "Tree", .glo "row_of", .glo "Row", .glo "Pieces", .glo "check_kinds", .glo "BadKind", .glo "read", .glo "row_read", .glo "number_of", .glo "tree_read", .glo "is_integer", .glo "is_list", .glo "BadBlock", .glo "_law_refused", .free "list"]
def fa1 : List He.Fa := [.free "range", .free "int", .free "len", .free "str", .free "enumerate", .free "all", .free "isinstance", .free "tuple", .free "zip", .free "bool", .str "KINDS" "hH.A", .str "FIGURES" "0123456789", .meth "Tree" "blocks", .meth "Row" "runs", .meth "Tree" "__contains__", .meth "Tree" "can_stand", .mkr "Row", .mkr "Pieces", .mkr "Tree", .glo "law"]
def fa : List He.Fa := fa0 ++ fa1
def dd__law_start : He.DefD := ⟨("_law_start", none), "_law_start", "_law_start", defArgs s__law_start, defBody s__law_start, defScope s__law_start, [], []⟩
def dd__law_draw : He.DefD := ⟨("_law_draw", none), "_law_draw", "_law_draw", defArgs s__law_draw, defBody s__law_draw, defScope s__law_draw, [], []⟩
def dd__law_pick : He.DefD := ⟨("_law_pick", none), "_law_pick", "_law_pick", defArgs s__law_pick, defBody s__law_pick, defScope s__law_pick, [], []⟩
def dd__law_t_row : He.DefD := ⟨("_law_t_row", none), "_law_t_row", "_law_t_row", defArgs s__law_t_row, defBody s__law_t_row, defScope s__law_t_row, [], []⟩
def dd__law_t_slot : He.DefD := ⟨("_law_t_slot", none), "_law_t_slot", "_law_t_slot", defArgs s__law_t_slot, defBody s__law_t_slot, defScope s__law_t_slot, [], []⟩
def dd__law_t_drawn : He.DefD := ⟨("_law_t_drawn", none), "_law_t_drawn", "_law_t_drawn", defArgs s__law_t_drawn, defBody s__law_t_drawn, defScope s__law_t_drawn, [], []⟩
def dd__law_lines : He.DefD := ⟨("_law_lines", none), "_law_lines", "_law_lines", defArgs s__law_lines, defBody s__law_lines, defScope s__law_lines, [], []⟩
def dd__law_bent : He.DefD := ⟨("_law_bent", none), "_law_bent", "_law_bent", defArgs s__law_bent, defBody s__law_bent, defScope s__law_bent, [], []⟩
def dd__law_number : He.DefD := ⟨("_law_number", none), "_law_number", "_law_number", defArgs s__law_number, defBody s__law_number, defScope s__law_number, [], []⟩
def dd__law_row_fault : He.DefD := ⟨("_law_row_fault", none), "_law_row_fault", "_law_row_fault", defArgs s__law_row_fault, defBody s__law_row_fault, defScope s__law_row_fault, [], []⟩
def dd__law_tree_fault : He.DefD := ⟨("_law_tree_fault", none), "_law_tree_fault", "_law_tree_fault", defArgs s__law_tree_fault, defBody s__law_tree_fault, defScope s__law_tree_fault, [], []⟩
def dd__law_same : He.DefD := ⟨("_law_same", none), "_law_same", "_law_same", defArgs s__law_same, defBody s__law_same, defScope s__law_same, [], []⟩
def dd_Tree_blocks : He.DefD := ⟨("Tree", some "blocks"), "blocks", "Tree.blocks", defArgs s_Tree_blocks, defBody s_Tree_blocks, defScope s_Tree_blocks, [], []⟩
def dd_Row_runs : He.DefD := ⟨("Row", some "runs"), "runs", "Row.runs", defArgs s_Row_runs, defBody s_Row_runs, defScope s_Row_runs, [], []⟩
def dd_check_kinds : He.DefD := ⟨("check_kinds", none), "check_kinds", "check_kinds", defArgs s_check_kinds, defBody s_check_kinds, defScope s_check_kinds, [], []⟩
def dd_Row___init__ : He.DefD := ⟨("Row", some "__init__"), "__init__", "Row.__init__", defArgs s_Row___init__, defBody s_Row___init__, defScope s_Row___init__, [(.str "")], []⟩
def dd_row_of : He.DefD := ⟨("row_of", none), "row_of", "row_of", defArgs s_row_of, defBody s_row_of, defScope s_row_of, [], []⟩
def dd_write : He.DefD := ⟨("write", none), "write", "write", defArgs s_write, defBody s_write, defScope s_write, [], []⟩
def dd_number_of : He.DefD := ⟨("number_of", none), "number_of", "number_of", defArgs s_number_of, defBody s_number_of, defScope s_number_of, [], []⟩
def dd_Pieces___init__ : He.DefD := ⟨("Pieces", some "__init__"), "__init__", "Pieces.__init__", defArgs s_Pieces___init__, defBody s_Pieces___init__, defScope s_Pieces___init__, [], []⟩
def dd_row_read : He.DefD := ⟨("row_read", none), "row_read", "row_read", defArgs s_row_read, defBody s_row_read, defScope s_row_read, [], []⟩
def dd_is_integer : He.DefD := ⟨("is_integer", none), "is_integer", "is_integer", defArgs s_is_integer, defBody s_is_integer, defScope s_is_integer, [], []⟩
def dd_Tree___contains__ : He.DefD := ⟨("Tree", some "__contains__"), "__contains__", "Tree.__contains__", defArgs s_Tree___contains__, defBody s_Tree___contains__, defScope s_Tree___contains__, [], []⟩
def dd_Tree_can_stand : He.DefD := ⟨("Tree", some "can_stand"), "can_stand", "Tree.can_stand", defArgs s_Tree_can_stand, defBody s_Tree_can_stand, defScope s_Tree_can_stand, [], []⟩
def dd_is_list : He.DefD := ⟨("is_list", none), "is_list", "is_list", defArgs s_is_list, defBody s_is_list, defScope s_is_list, [], []⟩
def dd_Tree___init__ : He.DefD := ⟨("Tree", some "__init__"), "__init__", "Tree.__init__", defArgs s_Tree___init__, defBody s_Tree___init__, defScope s_Tree___init__, [(.adr (He.dflAt ("Tree", some "__init__") 0))], []⟩
def dd_tree_read : He.DefD := ⟨("tree_read", none), "tree_read", "tree_read", defArgs s_tree_read, defBody s_tree_read, defScope s_tree_read, [], []⟩
def dd_read : He.DefD := ⟨("read", none), "read", "read", defArgs s_read, defBody s_read, defScope s_read, [], []⟩
def dd__law_tried : He.DefD := ⟨("_law_tried", none), "_law_tried", "_law_tried", defArgs s__law_tried, defBody s__law_tried, defScope s__law_tried, [], []⟩
def dd__law_refused : He.DefD := ⟨("_law_refused", none), "_law_refused", "_law_refused", defArgs s__law_refused, defBody s__law_refused, defScope s__law_refused, [], []⟩
def dd_law : He.DefD := ⟨("law", none), "law", "law", defArgs s_law, defBody s_law, defScope s_law, [], []⟩
def fn0 : List He.DefD := [dd__law_start, dd__law_draw, dd__law_pick, dd__law_t_row, dd__law_t_slot, dd__law_t_drawn, dd__law_lines, dd__law_bent, dd__law_number, dd__law_row_fault, dd__law_tree_fault, dd__law_same, dd_Tree_blocks, dd_Row_runs, dd_check_kinds, dd_Row___init__, dd_row_of, dd_write, dd_number_of, dd_Pieces___init__, dd_row_read, dd_is_integer, dd_Tree___contains__, dd_Tree_can_stand, dd_is_list, dd_Tree___init__, dd_tree_read, dd_read, dd__law_tried, dd__law_refused]
def fn1 : List He.DefD := [dd_law]
def fn : List He.DefD := fn0 ++ fn1
def xl : List XcD := [xd_0, xd_1, xd_2]
def mkl : List Str := T.mks
theorem facts {K : PySem.W.Frag} {h : Heap} {mg : Str → Option Value} (X : K.In h) (G : h.Ns mainGlobals mg) (c : SaysX exB fa fn K) (xv0 : xl.map (fun d => d.got K) = xl.map XcD.val) : Facts K mg := by
  have xv : ∀ (i : Nat) {d : XcD}, xl[i]? = some d → d.got K = d.val := fun i _ e => xv_at xv0 e
  have x : ∀ (i : Nat) {b : Bool}, (exL K)[i]? = some b → b = true := fun i _ e => exB_at c.2 i e
  exact ⟨tabB_ok (by decide +kernel) (x 0 rfl),
    isiB_ok (x 1 rfl),
    exmB_ok (x 2 rfl),
    xcB_ok (x 3 rfl) (xv 0 rfl),
    xcB_ok (x 4 rfl) (xv 1 rfl),
    xcB_ok (x 5 rfl) (xv 2 rfl),
    He.glo_ok X G (c.1.fact 0 rfl),
    He.glo_ok X G (c.1.fact 1 rfl),
    He.glo_ok X G (c.1.fact 2 rfl),
    He.glo_ok X G (c.1.fact 3 rfl),
    He.glo_ok X G (c.1.fact 4 rfl),
    He.glo_ok X G (c.1.fact 5 rfl),
    He.glo_ok X G (c.1.fact 6 rfl),
    He.glo_ok X G (c.1.fact 7 rfl),
    He.glo_ok X G (c.1.fact 8 rfl),
    He.glo_ok X G (c.1.fact 9 rfl),
    He.glo_ok X G (c.1.fact 10 rfl),
    He.glo_ok X G (c.1.fact 11 rfl),
    He.glo_ok X G (c.1.fact 12 rfl),
    He.glo_ok X G (c.1.fact 13 rfl),
    He.glo_ok X G (c.1.fact 14 rfl),
    He.glo_ok X G (c.1.fact 15 rfl),
    He.glo_ok X G (c.1.fact 16 rfl),
    He.glo_ok X G (c.1.fact 17 rfl),
    He.glo_ok X G (c.1.fact 18 rfl),
    He.glo_ok X G (c.1.fact 19 rfl),
    He.glo_ok X G (c.1.fact 20 rfl),
    He.glo_ok X G (c.1.fact 21 rfl),
    He.glo_ok X G (c.1.fact 22 rfl),
    He.glo_ok X G (c.1.fact 23 rfl),
    He.glo_ok X G (c.1.fact 24 rfl),
    He.glo_ok X G (c.1.fact 25 rfl),
    He.glo_ok X G (c.1.fact 26 rfl),
    He.glo_ok X G (c.1.fact 27 rfl),
    He.glo_ok X G (c.1.fact 28 rfl),
    He.free_ok X G (c.1.fact 29 rfl),
    He.free_ok X G (c.1.fact 30 rfl),
    He.free_ok X G (c.1.fact 31 rfl),
    He.free_ok X G (c.1.fact 32 rfl),
    He.free_ok X G (c.1.fact 33 rfl),
    He.free_ok X G (c.1.fact 34 rfl),
    He.free_ok X G (c.1.fact 35 rfl),
    He.free_ok X G (c.1.fact 36 rfl),
    He.free_ok X G (c.1.fact 37 rfl),
    He.free_ok X G (c.1.fact 38 rfl),
    He.free_ok X G (c.1.fact 39 rfl),
    He.str_ok X G (c.1.fact 40 rfl),
    He.str_ok X G (c.1.fact 41 rfl),
    He.meth_ok (c.1.fact 42 rfl),
    He.meth_ok (c.1.fact 43 rfl),
    He.meth_ok (c.1.fact 44 rfl),
    He.meth_ok (c.1.fact 45 rfl),
    He.mkr_ok (c.1.fact 46 rfl),
    He.mkr_ok (c.1.fact 47 rfl),
    He.mkr_ok (c.1.fact 48 rfl),
    c.1.def_ 0 (d := dd__law_start) rfl,
    c.1.def_ 1 (d := dd__law_draw) rfl,
    c.1.def_ 2 (d := dd__law_pick) rfl,
    c.1.def_ 3 (d := dd__law_t_row) rfl,
    c.1.def_ 4 (d := dd__law_t_slot) rfl,
    c.1.def_ 5 (d := dd__law_t_drawn) rfl,
    c.1.def_ 6 (d := dd__law_lines) rfl,
    c.1.def_ 7 (d := dd__law_bent) rfl,
    c.1.def_ 8 (d := dd__law_number) rfl,
    c.1.def_ 9 (d := dd__law_row_fault) rfl,
    c.1.def_ 10 (d := dd__law_tree_fault) rfl,
    c.1.def_ 11 (d := dd__law_same) rfl,
    c.1.def_ 12 (d := dd_Tree_blocks) rfl,
    c.1.def_ 13 (d := dd_Row_runs) rfl,
    c.1.def_ 14 (d := dd_check_kinds) rfl,
    c.1.def_ 15 (d := dd_Row___init__) rfl,
    c.1.def_ 16 (d := dd_row_of) rfl,
    c.1.def_ 17 (d := dd_write) rfl,
    c.1.def_ 18 (d := dd_number_of) rfl,
    c.1.def_ 19 (d := dd_Pieces___init__) rfl,
    c.1.def_ 20 (d := dd_row_read) rfl,
    c.1.def_ 21 (d := dd_is_integer) rfl,
    c.1.def_ 22 (d := dd_Tree___contains__) rfl,
    c.1.def_ 23 (d := dd_Tree_can_stand) rfl,
    c.1.def_ 24 (d := dd_is_list) rfl,
    c.1.def_ 25 (d := dd_Tree___init__) rfl,
    c.1.def_ 26 (d := dd_tree_read) rfl,
    c.1.def_ 27 (d := dd_read) rfl,
    c.1.def_ 28 (d := dd__law_tried) rfl,
    c.1.def_ 29 (d := dd__law_refused) rfl,
    c.1.def_ 30 (d := dd_law) rfl⟩
def lo0 : List Str := ["_wall", "__name__", "BoughError", "BadKind", "BadNumber", "BadBlock", "BadText", "is_integer", "is_list", "KINDS", "LONGEST_WORD", "check_number", "check_kinds", "row_of", "ends_of", "place_of", "chunks", "are_alike", "Pieces", "Row", "Tree", "FIGURES", "write", "number_of", "row_read", "tree_read", "read", "_law_t_row", "_law_t_drawn", "_law_t_slot"]
def lo1 : List Str := ["_law_start", "_law_draw", "_law_pick", "_law_same", "_law_number", "_law_row_fault", "_law_tree_fault", "_law_lines", "_law_bent", "_law_tried", "_law_refused"]
def loose : List Str := lo0 ++ lo1
abbrev R : PySem.W.OpenRow := PySem.W.OpenLaw.row PySem.Challenge.rw_longbough_k59_texts_refused
def as0 : List PySem.Addr := [3, 6, 4, 21, 31, 53, 74, 95, 116, 125, 132, 139, 146, 153, 158, 163, 168, 175, 190, 288, 416, 425, 430, 437, 444, 451, 456, 463, 470, 477, 484, 491, 496, 501, 508, 513, 518, 525, 532, 539, 544, 0, 20, 30, 52, 73, 94, 115, 124, 131, 138, 145, 152, 157, 162, 167, 174, 189, 287, 415, 424, 429, 436, 443, 450, 455, 462, 469, 476, 483, 490, 495, 500, 507, 512, 517, 524, 531, 538, 543, 15, 17, 18, 19, 29, 32, 50, 51, 71, 72, 92, 93, 113, 114, 119, 121, 122, 123, 126, 128]
def as1 : List PySem.Addr := [129, 130, 133, 135, 136, 137, 140, 142, 143, 144, 147, 149, 150, 151, 154, 156, 159, 161, 164, 166, 169, 171, 172, 173, 187, 188, 191, 192, 209, 214, 219, 226, 233, 238, 245, 252, 259, 266, 273, 280, 285, 286, 289, 290, 308, 315, 322, 329, 336, 343, 350, 357, 364, 371, 378, 385, 392, 399, 406, 413, 414, 417, 418, 421, 423, 426, 428, 431, 433, 434, 435, 438, 440, 441, 442, 445, 447, 448, 449, 452, 454, 457, 459, 460, 461, 464, 466, 467, 468, 471, 473, 474, 475, 478, 480, 481, 482, 485, 487, 488]
def as2 : List PySem.Addr := [489, 492, 494, 497, 499, 502, 504, 505, 506, 509, 511, 514, 516, 519, 521, 522, 523, 526, 528, 529, 530, 533, 535, 536, 537, 540, 542, 49, 38, 70, 59, 91, 80, 112, 101, 186, 208, 202, 213, 218, 225, 232, 237, 244, 251, 258, 265, 272, 279, 284, 307, 301, 314, 321, 328, 335, 342, 349, 356, 363, 370, 377, 384, 391, 398, 405, 412, 44, 46, 47, 48, 65, 67, 68, 69, 86, 88, 89, 90, 107, 109, 110, 111, 183, 185, 203, 205, 206, 207, 210, 212, 215, 217, 220, 222, 223, 224, 227, 229, 230]
def as3 : List PySem.Addr := [231, 234, 236, 239, 241, 242, 243, 246, 248, 249, 250, 253, 255, 256, 257, 260, 262, 263, 264, 267, 269, 270, 271, 274, 276, 277, 278, 281, 283, 302, 304, 305, 306, 300, 309, 311, 312, 313, 316, 318, 319, 320, 323, 325, 326, 327, 330, 332, 333, 334, 337, 339, 340, 341, 344, 346, 347, 348, 351, 353, 354, 355, 358, 360, 361, 362, 365, 367, 368, 369, 372, 374, 375, 376, 379, 381, 382, 383, 386, 388, 389, 390, 393, 395, 396, 397, 400, 402, 403, 404, 407, 409, 410, 411, 2]
def asL : List PySem.Addr := as0 ++ as1 ++ as2 ++ as3
abbrev hk : PySem.W.Hook := hookTL asL exB fa fn xl mkl
def ob (s : PySem.W.SharedT) : AlT := obsTL asL exB fa fn xl mkl (HandSHeadRun.getT s)
theorem ob_eq (s : PySem.W.SharedT) : ob s = hk.obs s.abs := obsTL_eq (HandSHeadRun.getT_eq s)
theorem run (w : World) : HandSHeadRun.RunEq R (PySem.W.view R.prog [46]) hk ob 8000 loose w := by
  intro os
  kernel_rfl
theorem main (hm : ∀ ns : List Int, ns.length ≤ 63 → ∃ st, m_law [.f (.scr ns)] [] = .ok (.f (.bl true)) st) : PySem.Challenge.rw_longbough_k59_texts_refused.Holds := by
  w_on; o_law
  refine HandSHeadRun.head_any (r := PySem.W.OpenLaw.row PySem.Challenge.rw_longbough_k59_texts_refused) (q := PySem.W.view (PySem.W.OpenLaw.row PySem.Challenge.rw_longbough_k59_texts_refused).prog [46]) (H := hk) (ob := ob) (M := 8000) (loose := loose) (d := HandSHeadRun.topDef (PySem.W.OpenLaw.row PySem.Challenge.rw_longbough_k59_texts_refused).prog 46) (kwd := []) ob_eq
    (by kernel_rfl) (fun s => by kernel_rfl) run (by kernel_rfl) (by kernel_rfl) (by kernel_rfl) (by rfl) (by first | assumption | decide +kernel) (by decide +kernel) ⟨rfl, rfl, rfl, rfl, rfl, by decide +kernel⟩ ?hw ?hc
  case hw => w_witness2
  case hc =>
    refine LamX.walk_ofTsE (l := PySem.Challenge.rw_longbough_k59_texts_refused) (n := 63) (k := 10) (x := "_law_script") (CX := fun _ => L2.CX0) rfl (by decide) (by kernel_rfl) ⟨rfl, by decide, by decide⟩ ?F (fun _ _ _ _ _ z => z)
    intro w mg fl h Y G hmg0
    obtain ⟨K, KX, c, xv, tt⟩ := Y
    have hmg : mg ("law" : PySem.Str) = some (.ref fl) := by
      have e : (HandSHeadRun.topDef (PySem.W.OpenLaw.row PySem.Challenge.rw_longbough_k59_texts_refused).prog 46).name = ("law" : PySem.Str) := by kernel_rfl
      rw [← e]
      exact hmg0
    have D := facts KX G c xv
    have e := hmg.symm.trans (He.glo_ok KX G (c.1.fact 49 (f := .glo "law") rfl))
    cases e
    obtain ⟨fd, F⟩ := D.d_law
    have b := FunD.bindsA (ps := ["_law_script"]) F fun _ _ _ _ _ _ us hl => match us, hl with | [_], _ => rfl
    exact ⟨K, KX, law_atT (T := T) (m := m_law) tt rfl (fun s v => b s [v] rfl) hm fun base TB => fo_law D TB F⟩
end LBE

set_option Elab.async false
set_option linter.all false
set_option maxRecDepth 100000
set_option maxHeartbeats 4000000
set_option autoImplicit false
/-! M0: equality of data; loops and comprehensions over plain data; calls and the store. -/
namespace VS
open PySem PySem.Spec PyProof.Rows L2
/-! ### == of data without bools -/
mutual
def okE : Nat → F → Bool
  | _, .non => true
  | _, .int _ => true
  | _, .str s => s.all (· < 0x110000)
  | n + 1, .lst xs => okEs n xs
  | n + 1, .tup xs => okEs n xs
  | _, _ => false
def okEs : Nat → List F → Bool
  | _, [] => true
  | n, x :: xs => okE n x && okEs n xs
end
mutual
theorem okE_toD : ∀ (n : Nat) (x : F), okE n x = true → ∃ d, toD x = some d ∧ d.canLay0 = true ∧ d.depth ≤ n
  | _, .non, _ => ⟨.none, rfl, by simp [PyData.canLay0], by simp [PyData.depth]⟩
  | _, .int i, _ => ⟨.int i, rfl, by simp [PyData.canLay0], by simp [PyData.depth]⟩
  | _, .str s, h => ⟨.str (S s), rfl, by
      have h : s.all (· < 0x110000) = true := by simpa [okE] using h
      simp only [PyData.canLay0, PyData.strOk, S]
      simpa using h, by simp [PyData.depth]⟩
  | n + 1, .lst xs, h => by
    obtain ⟨ds, e, c, dp⟩ := okEs_toD n xs (by simpa [okE] using h)
    exact ⟨.list ds, by simp [toD, e], by simpa [PyData.canLay0] using c, by simp only [PyData.depth]; omega⟩
  | n + 1, .tup xs, h => by
    obtain ⟨ds, e, c, dp⟩ := okEs_toD n xs (by simpa [okE] using h)
    exact ⟨.tuple ds, by simp [toD, e], by simpa [PyData.canLay0] using c, by simp only [PyData.depth]; omega⟩
  | 0, .lst xs, h => by simp [okE] at h
  | 0, .tup xs, h => by simp [okE] at h
  | 0, .bl _, h => by simp [okE] at h
  | 0, .dct _, h => by simp [okE] at h
  | 0, .dlk _ _, h => by simp [okE] at h
  | 0, .ktp _, h => by simp [okE] at h
  | 0, .obj _ _, h => by simp [okE] at h
  | 0, .scr _, h => by simp [okE] at h
  | _ + 1, .bl _, h => by simp [okE] at h
  | _ + 1, .dct _, h => by simp [okE] at h
  | _ + 1, .dlk _ _, h => by simp [okE] at h
  | _ + 1, .ktp _, h => by simp [okE] at h
  | _ + 1, .obj _ _, h => by simp [okE] at h
  | _ + 1, .scr _, h => by simp [okE] at h
theorem okEs_toD : ∀ (n : Nat) (xs : List F), okEs n xs = true → ∃ ds, toDs xs = some ds ∧ PyData.canLayAll0 ds = true ∧ PyData.depthAll ds ≤ n
  | _, [], _ => ⟨[], rfl, by simp [PyData.canLayAll0], by simp [PyData.depthAll]⟩
  | n, x :: xs, h => by
    have h : okE n x = true ∧ okEs n xs = true := by simpa [okEs] using h
    obtain ⟨d, e, c, dp⟩ := okE_toD n x h.1
    obtain ⟨ds, e', c', dp'⟩ := okEs_toD n xs h.2
    exact ⟨d :: ds, by simp [toDs, e, e'], by simp [PyData.canLayAll0, c, c'], by simp only [PyData.depthAll]; omega⟩
end
mutual
theorem eqv_iff : ∀ (n m : Nat) (x y : F) (a b : PyData), okE n x = true → okE m y = true → toD x = some a → toD y = some b → (PyData.eqv a b = true ↔ x = y)
  | n, m, .non, y, a, b, hx, hy, ha, hb => by
    cases ha
    cases y with
    | non => cases hb; simp [PyData.eqv]
    | int i => cases hb; simp [PyData.eqv]
    | str s => cases hb; simp [PyData.eqv]
    | lst ys => simp only [toD] at hb; obtain ⟨ds, e, rfl⟩ := opt_map_some hb; simp [PyData.eqv]
    | tup ys => simp only [toD] at hb; obtain ⟨ds, e, rfl⟩ := opt_map_some hb; simp [PyData.eqv]
    | _ => cases m <;> simp [okE] at hy
  | n, m, .int i, y, a, b, hx, hy, ha, hb => by
    cases ha
    cases y with
    | non => cases hb; simp [PyData.eqv]
    | int i => cases hb; simp [PyData.eqv]
    | str s => cases hb; simp [PyData.eqv]
    | lst ys => simp only [toD] at hb; obtain ⟨ds, e, rfl⟩ := opt_map_some hb; simp [PyData.eqv]
    | tup ys => simp only [toD] at hb; obtain ⟨ds, e, rfl⟩ := opt_map_some hb; simp [PyData.eqv]
    | _ => cases m <;> simp [okE] at hy
  | n, m, .str s, y, a, b, hx, hy, ha, hb => by
    cases ha
    cases y with
    | non => cases hb; simp [PyData.eqv]
    | int i => cases hb; simp [PyData.eqv]
    | str t => cases hb; simp [PyData.eqv, S]
    | lst ys => simp only [toD] at hb; obtain ⟨ds, e, rfl⟩ := opt_map_some hb; simp [PyData.eqv]
    | tup ys => simp only [toD] at hb; obtain ⟨ds, e, rfl⟩ := opt_map_some hb; simp [PyData.eqv]
    | _ => cases m <;> simp [okE] at hy
  | n + 1, m, .lst xs, y, a, b, hx, hy, ha, hb => by
    simp only [toD] at ha
    obtain ⟨ds, e, rfl⟩ := opt_map_some ha
    cases y with
    | non => cases hb; simp [PyData.eqv]
    | int i => cases hb; simp [PyData.eqv]
    | str t => cases hb; simp [PyData.eqv]
    | lst ys =>
      simp only [toD] at hb
      obtain ⟨es, e', rfl⟩ := opt_map_some hb
      cases m with
      | zero => simp [okE] at hy
      | succ m =>
        have := eqvs_iff n m xs ys ds es (by simpa [okE] using hx) (by simpa [okE] using hy) e e'
        simpa [PyData.eqv] using this
    | tup ys => simp only [toD] at hb; obtain ⟨ds, e, rfl⟩ := opt_map_some hb; simp [PyData.eqv]
    | _ => cases m <;> simp [okE] at hy
  | n + 1, m, .tup xs, y, a, b, hx, hy, ha, hb => by
    simp only [toD] at ha
    obtain ⟨ds, e, rfl⟩ := opt_map_some ha
    cases y with
    | non => cases hb; simp [PyData.eqv]
    | int i => cases hb; simp [PyData.eqv]
    | str t => cases hb; simp [PyData.eqv]
    | tup ys =>
      simp only [toD] at hb
      obtain ⟨es, e', rfl⟩ := opt_map_some hb
      cases m with
      | zero => simp [okE] at hy
      | succ m =>
        have := eqvs_iff n m xs ys ds es (by simpa [okE] using hx) (by simpa [okE] using hy) e e'
        simpa [PyData.eqv] using this
    | lst ys => simp only [toD] at hb; obtain ⟨ds, e, rfl⟩ := opt_map_some hb; simp [PyData.eqv]
    | _ => cases m <;> simp [okE] at hy
  | 0, m, .lst xs, y, a, b, hx, hy, ha, hb => by simp [okE] at hx
  | 0, m, .tup xs, y, a, b, hx, hy, ha, hb => by simp [okE] at hx
  | 0, _, .bl _, _, _, _, h, _, _, _ => by simp [okE] at h
  | 0, _, .dct _, _, _, _, h, _, _, _ => by simp [okE] at h
  | 0, _, .dlk _ _, _, _, _, h, _, _, _ => by simp [okE] at h
  | 0, _, .ktp _, _, _, _, h, _, _, _ => by simp [okE] at h
  | 0, _, .obj _ _, _, _, _, h, _, _, _ => by simp [okE] at h
  | 0, _, .scr _, _, _, _, h, _, _, _ => by simp [okE] at h
  | _ + 1, _, .bl _, _, _, _, h, _, _, _ => by simp [okE] at h
  | _ + 1, _, .dct _, _, _, _, h, _, _, _ => by simp [okE] at h
  | _ + 1, _, .dlk _ _, _, _, _, h, _, _, _ => by simp [okE] at h
  | _ + 1, _, .ktp _, _, _, _, h, _, _, _ => by simp [okE] at h
  | _ + 1, _, .obj _ _, _, _, _, h, _, _, _ => by simp [okE] at h
  | _ + 1, _, .scr _, _, _, _, h, _, _, _ => by simp [okE] at h
theorem eqvs_iff : ∀ (n m : Nat) (xs ys : List F) (as bs : List PyData), okEs n xs = true → okEs m ys = true → toDs xs = some as → toDs ys = some bs → (PyData.eqvAll as bs = true ↔ xs = ys)
  | n, m, [], [], as, bs, hx, hy, ha, hb => by cases ha; cases hb; simp [PyData.eqvAll]
  | n, m, [], y :: ys, as, bs, hx, hy, ha, hb => by
    cases ha
    obtain ⟨d, e1, e2⟩ := opt_bind_some hb
    obtain ⟨ds, e3, rfl⟩ := opt_map_some e2
    simp [PyData.eqvAll]
  | n, m, x :: xs, [], as, bs, hx, hy, ha, hb => by
    cases hb
    obtain ⟨d, e1, e2⟩ := opt_bind_some ha
    obtain ⟨ds, e3, rfl⟩ := opt_map_some e2
    simp [PyData.eqvAll]
  | n, m, x :: xs, y :: ys, as, bs, hx, hy, ha, hb => by
    have hx : okE n x = true ∧ okEs n xs = true := by simpa [okEs] using hx
    have hy : okE m y = true ∧ okEs m ys = true := by simpa [okEs] using hy
    obtain ⟨d, e1, e2⟩ := opt_bind_some ha
    obtain ⟨ds, e3, rfl⟩ := opt_map_some e2
    obtain ⟨d', e1', e2'⟩ := opt_bind_some hb
    obtain ⟨ds', e3', rfl⟩ := opt_map_some e2'
    have h1 := eqv_iff n m x y d d' hx.1 hy.1 e1 e1'
    have h2 := eqvs_iff n m xs ys ds ds' hx.2 hy.2 e3 e3'
    simp [PyData.eqvAll, h1, h2]
end
theorem okE_shaped {n : Nat} (hn : n ≤ 64) {x : F} (h : okE n x = true) : ∃ d, toD x = some d ∧ SeqAt.shaped d = true := by
  obtain ⟨d, e, c, dp⟩ := okE_toD n x h
  exact ⟨d, e, by unfold SeqAt.shaped; rw [c]; simp; omega⟩
/-- == of such data is equality -/
theorem eqD_iff {n m : Nat} (hn : n ≤ 64) (hm : m ≤ 64) {x y : F} (hx : okE n x = true) (hy : okE m y = true) : ∃ b, eqD x y = some b ∧ (b = true ↔ x = y) := by
  obtain ⟨d, e, s⟩ := okE_shaped hn hx
  obtain ⟨d', e', s'⟩ := okE_shaped hm hy
  refine ⟨PyData.eqv d d', ?_, eqv_iff n m x y d d' hx hy e e'⟩
  unfold eqD
  simp [e, e', s, s']
theorem eqB_iff {n m : Nat} (hn : n ≤ 64) (hm : m ≤ 64) {x y : F} (hx : okE n x = true) (hy : okE m y = true) : ∃ b, eqB x y = some b ∧ (b = true ↔ x = y) := by
  unfold eqB
  split
  · exact ⟨_, rfl, by simp⟩
  · exact ⟨_, rfl, by simp⟩
  · exact ⟨_, rfl, by simp⟩
  · exact eqD_iff hn hm hx hy
open Classical in
theorem eqB_no {n m : Nat} (hn : n ≤ 64) (hm : m ≤ 64) {x y : F} (hx : okE n x = true) (hy : okE m y = true) (h : x ≠ y) : eqB x y = some false := by
  obtain ⟨b, e, h'⟩ := eqB_iff hn hm hx hy
  cases b with
  | false => exact e
  | true => exact absurd (h'.mp rfl) h
theorem eqB_yes {n : Nat} (hn : n ≤ 64) {x : F} (hx : okE n x = true) : eqB x x = some true := by
  obtain ⟨b, e, h'⟩ := eqB_iff hn hn hx hx
  rw [e, h'.mpr rfl]
/-! ### the store and calls -/
abbrev Cl (st : Store) : Prop := clean st.length st = true
theorem below_mono {b c : Nat} (h : b ≤ c) : ∀ {x : W}, x.below b = true → x.below c = true
  | .f _, _ => rfl
  | .loc n, q => by
    have : n < b := of_decide_eq_true q
    exact decide_eq_true (by omega)
theorem cell_below_mono {b c : Nat} (h : b ≤ c) {x : Cell} (q : x.below b = true) : x.below c = true := by
  cases x with
  | lstW xs => exact List.all_eq_true.mpr fun w hw => below_mono h (List.all_eq_true.mp q w hw)
  | ins _ fs => exact List.all_eq_true.mpr fun w hw => below_mono h (List.all_eq_true.mp q w hw)
  | _ => rfl
theorem Cl.push {st : Store} (h : Cl st) (xs : List F) : Cl (st ++ [.lstF xs]) := by
  unfold Cl clean at h ⊢
  rw [List.all_append, Bool.and_eq_true]
  refine ⟨List.all_eq_true.mpr fun c hc => cell_below_mono (by simp) (List.all_eq_true.mp h c hc), by simp [Cell.below]⟩
theorem retW_same (st : Store) (x : F) : retW st.length (.f x) st = .ok (.f x) st := by
  unfold retW
  rw [List.take_length]
  cases clean st.length st <;> rfl
theorem retW_tmp {st : Store} (h : Cl st) (x : F) (t : Store) : retW st.length (.f x) (st ++ t) = .ok (.f x) st := by
  unfold retW
  rw [List.take_left]
  rw [show clean st.length st = true from h]
theorem frz_lst {st : Store} (h : Cl st) (xs : List F) : frz st.length (.loc st.length) (st ++ [.lstF xs]) = .ok (.f (.lst xs)) st := by
  unfold frz
  have e : deepF st.length (st ++ [.lstF xs]) 3 (.loc st.length) = some (.lst xs) := by
    simp [deepF]
  rw [e]
  simp [List.take_left, show clean st.length st = true from h]
/-! ### comprehensions -/
theorem doCell_app {st : Store} {acc : List F} {x : F} (hl : acc.length < 1000000) : doCell cAppend st.length [.f x] (st ++ [.lstF acc]) = .ok (.f .non) (st ++ [.lstF (acc ++ [x])]) := by
  have e : small (acc.length + 1) = true := decide_eq_true hl
  simp [doCell, cAppend, e]
/-- a comprehension whose parts leave the store alone -/
theorem lc_pure {g : TGv} {tt : TTv} {te : TEv} {env : Env} {st : Store} (f : W → F) (p : W → Bool) : ∀ (ws : List W) (acc : List F), acc.length + ws.length ≤ 1000000 →
    (∀ w ∈ ws, ∀ acc, ∃ env1, g w env = some env1 ∧ tt env1 (st ++ [.lstF acc]) = .ok (p w) (st ++ [.lstF acc]) ∧ (p w = true → te env1 (st ++ [.lstF acc]) = .ok (.f (f w)) (st ++ [.lstF acc]))) →
    lcL g tt te st.length env ws (st ++ [.lstF acc]) = .ok (.loc st.length) (st ++ [.lstF (acc ++ (ws.filter p).map f)])
  | [], acc, _, _ => by simp [lcL]
  | w :: ws, acc, hl, h => by
    obtain ⟨env1, e1, e2, e3⟩ := h w (by simp) acc
    have ih := fun (acc' : List F) (hl' : acc'.length + ws.length ≤ 1000000) => lc_pure f p ws acc' hl' fun w' hw => h w' (by simp [hw])
    simp only [List.length_cons] at hl
    unfold lcL
    simp only [e1, e2, Res.bind]
    cases hp : p w with
    | true =>
      simp only [if_true, e3 hp, doCell_app (st := st) (acc := acc) (x := f w) (by omega)]
      rw [ih (acc ++ [f w]) (by simp; omega)]
      simp [hp]
    | false =>
      simp only [Bool.false_eq_true, if_false]
      rw [ih acc (by omega)]
      simp [hp]
theorem lcf_pure {ti : TIv} {g : TGv} {tt : TTv} {te : TEv} {vs : List Nat} {env : Env} {st : Store} (hc : Cl st) (f : W → F) (p : W → Bool) {ws : List W} (hi : ti env st = .ok ws st) (hl : ws.length ≤ 1000000)
    (h : ∀ w ∈ ws, ∀ acc, ∃ env1, g w (wipeE env vs) = some env1 ∧ tt env1 (st ++ [.lstF acc]) = .ok (p w) (st ++ [.lstF acc]) ∧ (p w = true → te env1 (st ++ [.lstF acc]) = .ok (.f (f w)) (st ++ [.lstF acc]))) :
    eFrz (eLc ti g tt te vs) env st = .ok (.f (.lst ((ws.filter p).map f))) st := by
  unfold eFrz eLc
  simp only [hi, Res.bind]
  rw [lc_pure f p ws [] (by simpa using hl) h]
  simp only [Res.bind, List.nil_append]
  exact frz_lst hc _
/-- .. without a test -/
theorem lcf_map {ti : TIv} {g : TGv} {te : TEv} {vs : List Nat} {env : Env} {st : Store} (hc : Cl st) (f : W → F) {ws : List W} (hi : ti env st = .ok ws st) (hl : ws.length ≤ 1000000)
    (h : ∀ w ∈ ws, ∀ acc, ∃ env1, g w (wipeE env vs) = some env1 ∧ te env1 (st ++ [.lstF acc]) = .ok (.f (f w)) (st ++ [.lstF acc])) :
    eFrz (eLc ti g tYesV te vs) env st = .ok (.f (.lst (ws.map f))) st := by
  rw [lcf_pure hc f (fun _ => true) hi hl fun w hw acc => by
    obtain ⟨env1, e1, e2⟩ := h w hw acc
    exact ⟨env1, e1, rfl, fun _ => e2⟩]
  rw [List.filter_eq_self.mpr fun _ _ => rfl]
end VS

set_option Elab.async false
set_option linter.all false
set_option maxRecDepth 100000
set_option maxHeartbeats 4000000
set_option autoImplicit false
/-! T1: typed programs, and how mirrors refine to them: data, stores, expressions. -/
namespace TL
open VS
open L2 (atI ixN)

/-! ### data -/
class En (α : Type) where
  e : α → F
/-- one sign -/
structure Ch where
  c : Nat
deriving DecidableEq
structure T3 (α β γ : Type) where
  a : α
  b : β
  c : γ
deriving DecidableEq
structure T4 (α β γ δ : Type) where
  a : α
  b : β
  c : γ
  d : δ
deriving DecidableEq
structure T5 (α β γ δ ε : Type) where
  a : α
  b : β
  c : γ
  d : δ
  e : ε
deriving DecidableEq
/-- a tuple of any length -/
structure Tu (α : Type) where
  l : List α
deriving DecidableEq
structure Dc (κ ν : Type) where
  l : List (κ × ν)
deriving DecidableEq
/-- the script -/
structure Sc where
  l : List Int
instance : En Int := ⟨F.int⟩
instance : En Bool := ⟨F.bl⟩
instance : En Unit := ⟨fun _ => F.non⟩
instance : En F := ⟨id⟩
instance : En Ch := ⟨fun c => F.str [c.c]⟩
instance : En Sc := ⟨fun s => F.scr s.l⟩
instance {α : Type} [En α] : En (List α) := ⟨fun l => F.lst (l.map En.e)⟩
instance : En (List Nat) := ⟨F.str⟩
instance {α : Type} [En α] : En (Option α) := ⟨fun o => match o with
  | none => F.non
  | some a => En.e a⟩
instance {α β : Type} [En α] [En β] : En (α × β) := ⟨fun p => F.tup [En.e p.1, En.e p.2]⟩
instance {α β γ : Type} [En α] [En β] [En γ] : En (T3 α β γ) := ⟨fun p => F.tup [En.e p.a, En.e p.b, En.e p.c]⟩
instance {α β γ δ : Type} [En α] [En β] [En γ] [En δ] : En (T4 α β γ δ) := ⟨fun p => F.tup [En.e p.a, En.e p.b, En.e p.c, En.e p.d]⟩
instance {α β γ δ ε : Type} [En α] [En β] [En γ] [En δ] [En ε] : En (T5 α β γ δ ε) := ⟨fun p => F.tup [En.e p.a, En.e p.b, En.e p.c, En.e p.d, En.e p.e]⟩
instance {α : Type} [En α] : En (Tu α) := ⟨fun t => F.tup (t.l.map En.e)⟩
instance {κ ν : Type} [En κ] [En ν] : En (Dc κ ν) := ⟨fun d => F.dct (d.l.map fun p => (En.e p.1, En.e p.2))⟩
abbrev w_ {α : Type} [En α] (a : α) : W := W.f (En.e a)
abbrev cl_ {α : Type} [En α] (l : List α) : Cell := Cell.lstF (l.map En.e)

/-! ### programs -/
inductive O (σ α : Type) where
  | ok (a : α) (s : σ) | ex (c : Nat) (fs : List (Nat × F)) (s : σ) | no
abbrev P (α : Type) := O Unit α
def O.bind {σ α β : Type} (o : O σ α) (k : α → σ → O σ β) : O σ β := match o with
  | .ok a s => k a s
  | .ex c fs s => .ex c fs s
  | .no => .no
def O.up {σ α : Type} (p : P α) (s : σ) : O σ α := match p with
  | .ok a _ => .ok a s
  | .ex c fs _ => .ex c fs s
  | .no => .no
def ofO {σ α : Type} (o : Option α) (s : σ) : O σ α := match o with
  | some a => .ok a s
  | none => .no
theorem bind_ok {σ α β : Type} (a : α) (s : σ) (k : α → σ → O σ β) : O.bind (.ok a s) k = k a s := rfl
theorem up_ok {σ α : Type} (a : α) (u : Unit) (s : σ) : O.up (.ok a u : P α) s = .ok a s := rfl
theorem ofO_some {σ α : Type} (a : α) (s : σ) : ofO (some a) s = .ok a s := rfl
theorem bind_assoc {σ α β γ : Type} (o : O σ α) (k : α → σ → O σ β) (j : β → σ → O σ γ) : (o.bind k).bind j = o.bind fun a s => (k a s).bind j := by cases o <;> rfl
theorem bind_pure {σ α : Type} (o : O σ α) : (o.bind fun a s => .ok a s) = o := by cases o <;> rfl

/-! ### frames -/
/-- how a state stands in a store -/
structure Wr (σ : Type) where
  put : σ → Store → Store
  len : ∀ s s' r, (put s r).length = (put s' r).length
  cl : ∀ s s' r, Cl (put s r) → Cl (put s' r)
  app : ∀ s r t, put s (r ++ t) = put s r ++ t
def wU : Wr Unit := ⟨fun _ r => r, fun _ _ _ => rfl, fun _ _ _ h => h, fun _ _ _ => rfl⟩
structure Bs {σ : Type} (wr : Wr σ) where
  rest : Store
  cl : ∀ s, Cl (wr.put s rest)
  b : Nat
  len : ∀ s, (wr.put s rest).length = b
abbrev Bs.st {σ : Type} {wr : Wr σ} (B : Bs wr) (s : σ) : Store := wr.put s B.rest
def lk : List (Nat × W) → Nat → Option W
  | [], _ => none
  | (j, w) :: G, i => match Nat.beq j i with
    | true => some w
    | false => lk G i
structure Ok (b n : Nat) (G : List (Nat × W)) (cs : List (Nat × Cell)) (env : Env) (r : Store) : Prop where
  len : env.length = n
  cl : clean (b + r.length) r = true
  nd : (cs.map Prod.fst).Nodup
  cell : ∀ k c, (k, c) ∈ cs → r[k]? = some c
  var : ∀ i w, lk G i = some w → env[i]? = some (some w)
section
variable {σ : Type} {wr : Wr σ} {b n : Nat} {G G' : List (Nat × W)} {cs cs' : List (Nat × Cell)} {env : Env} {r : Store} {B : Bs wr} {s s' : σ}
theorem below_all {b c : Nat} (h : b ≤ c) {st : Store} (q : clean b st = true) : clean c st = true :=
  List.all_eq_true.mpr fun x hx => cell_below_mono h (List.all_eq_true.mp q x hx)
theorem Bs.clean (B : Bs wr) (s : σ) : clean B.b (B.st s) = true := by
  have := B.cl s
  unfold Cl at this
  rw [B.len s] at this
  exact this
theorem Ok.Cl (h : Ok B.b n G cs env r) (s : σ) : Cl (B.st s ++ r) := by
  unfold VS.Cl VS.clean
  rw [List.all_append, List.length_append, B.len s, Bool.and_eq_true]
  exact ⟨below_all (Nat.le_add_right _ _) (B.clean s), h.cl⟩
def Sub (G' G : List (Nat × W)) : Prop := ∀ i w, lk G' i = some w → lk G i = some w
theorem sub_nil : Sub [] G := fun _ _ h => by cases h
theorem sub_cons {i : Nat} {w : W} (h : lk G i = some w) (t : Sub G' G) : Sub ((i, w) :: G') G := fun j u q => by
  unfold lk at q
  cases e : Nat.beq i j with
  | true =>
    rw [e] at q
    cases q
    cases Nat.eq_of_beq_eq_true e
    exact h
  | false => rw [e] at q; exact t j u q
theorem Ok.sub (h : Ok b n G cs env r) (hg : Sub G' G) (hc : cs'.Sublist cs) : Ok b n G' cs' env r :=
  ⟨h.len, h.cl, h.nd.sublist (hc.map _), fun k c q => h.cell k c (hc.subset q), fun i w q => h.var i w (hg i w q)⟩
theorem Ok.set (h : Ok b n G cs env r) {i : Nat} (hi : i < n) (w : W) : Ok b n ((i, w) :: G) cs (env.set i (some w)) r := by
  refine ⟨by simp [h.len], h.cl, h.nd, h.cell, fun j u q => ?_⟩
  unfold lk at q
  cases e : Nat.beq i j with
  | true =>
    rw [e] at q
    cases q
    cases Nat.eq_of_beq_eq_true e
    exact List.getElem?_set_self (by rw [h.len]; exact hi)
  | false =>
    rw [e] at q
    have hij : i ≠ j := fun z => by subst z; rw [Nat.beq_refl] at e; cases e
    rw [List.getElem?_set_ne hij]
    exact h.var j u q
/-- a cell more, behind all -/
theorem Ok.push (h : Ok b n G cs env r) {c : Cell} (hc : c.below (b + r.length) = true) : Ok b n G cs env (r ++ [c]) := by
  refine ⟨h.len, ?_, h.nd, fun k d q => ?_, h.var⟩
  · unfold clean
    rw [List.all_append, Bool.and_eq_true]
    refine ⟨below_all (by simp) h.cl, ?_⟩
    simp only [List.all_cons, List.all_nil, Bool.and_true]
    exact cell_below_mono (by simp) hc
  · exact get_app (h.cell k d q)
theorem Ok.cell_lt (h : Ok b n G cs env r) {k : Nat} {c : Cell} (q : (k, c) ∈ cs) : k < r.length := (List.getElem?_eq_some_iff.mp (h.cell k c q)).1
theorem Ok.pop (h : Ok b n G cs env (r ++ [.dead])) : True := trivial
theorem Ok.new (h : Ok b n G cs env r) {c : Cell} (hc : c.below (b + r.length) = true) : Ok b n G ((r.length, c) :: cs) env (r ++ [c]) := by
  have p := h.push hc
  refine ⟨p.len, p.cl, ?_, fun k d q => ?_, p.var⟩
  · rw [List.map_cons, List.nodup_cons]
    refine ⟨fun hm => ?_, h.nd⟩
    obtain ⟨⟨k, d⟩, hkd, e⟩ := List.mem_map.mp hm
    have := h.cell_lt hkd
    have e : k = r.length := e
    omega
  · rcases List.mem_cons.mp q with q | q
    · cases q
      exact last_get _ _
    · exact p.cell k d q
theorem nodup_set_fst {cs : List (Nat × Cell)} {p k : Nat} {c c' : Cell} (hp : cs[p]? = some (k, c)) : (cs.set p (k, c')).map Prod.fst = cs.map Prod.fst := by
  apply List.ext_getElem?
  intro j
  rw [List.getElem?_map, List.getElem?_map, List.getElem?_set]
  by_cases hj : p = j
  · subst hj
    obtain ⟨hl, e⟩ := List.getElem?_eq_some_iff.mp hp
    simp [hl, hp, e]
  · simp [hj]
/-- the cell at place p of cs is changed -/
theorem Ok.write (h : Ok b n G cs env r) {p k : Nat} {c c' : Cell} (hp : cs[p]? = some (k, c)) (hc : c'.below (b + r.length) = true) : Ok b n G (cs.set p (k, c')) env (r.set k c') := by
  have hm : (k, c) ∈ cs := List.mem_of_getElem? hp
  have hk := h.cell_lt hm
  refine ⟨h.len, ?_, by rw [nodup_set_fst hp]; exact h.nd, fun j d q => ?_, h.var⟩
  · rw [List.length_set]
    refine List.all_eq_true.mpr fun x hx => ?_
    rcases List.mem_or_eq_of_mem_set hx with hx | hx
    · exact List.all_eq_true.mp h.cl x hx
    · subst hx; exact hc
  · obtain ⟨i, hi, e⟩ := List.getElem_of_mem q
    rw [List.length_set] at hi
    rw [List.getElem_set] at e
    by_cases hpi : p = i
    · rw [if_pos hpi] at e
      cases e
      rw [List.getElem?_set_self hk]
    · rw [if_neg hpi] at e
      have hjk : k ≠ j := fun z => by
        subst z
        have hpl := (List.getElem?_eq_some_iff.mp hp).1
        have e1 : (cs.map Prod.fst)[p]? = some k := by rw [List.getElem?_map, hp]; rfl
        have e2 : (cs.map Prod.fst)[i]? = some k := by rw [List.getElem?_map, List.getElem?_eq_getElem hi, e]; rfl
        obtain ⟨l1, e1⟩ := List.getElem?_eq_some_iff.mp e1
        obtain ⟨l2, e2⟩ := List.getElem?_eq_some_iff.mp e2
        exact hpi ((List.getElem_inj h.nd).mp (e1.trans e2.symm))
      rw [List.getElem?_set_ne hjk]
      exact h.cell j d (e ▸ List.getElem_mem hi)
theorem st_get (B : Bs wr) (s : σ) (r : Store) (k : Nat) : (B.st s ++ r)[B.b + k]? = r[k]? := by
  rw [List.getElem?_append_right (by rw [B.len s]; omega), B.len s]
  congr 1
  omega
theorem st_set (B : Bs wr) (s : σ) (r : Store) (k : Nat) (c : Cell) : (B.st s ++ r).set (B.b + k) c = B.st s ++ r.set k c := by
  rw [List.set_append_right _ _ (by rw [B.len s]; omega), B.len s]
  congr 2
  omega
theorem st_len (B : Bs wr) (s : σ) (r : Store) : (B.st s ++ r).length = B.b + r.length := by rw [List.length_append, B.len s]
theorem st_take (B : Bs wr) (s : σ) (r t : Store) : (B.st s ++ (r ++ t)).take (B.b + r.length) = B.st s ++ r := by
  rw [← List.append_assoc, ← st_len B s r, List.take_left]
end

/-! ### the judgements of expressions -/
section
variable {σ α β γ : Type} {wr : Wr σ}
/-- of a store's upper part: as long, and as clean -/
structure Pr (r r' : Store) : Prop where
  len : r'.length = r.length
  cl : ∀ b, clean b r = true → clean b r' = true
theorem Pr.refl {r : Store} : Pr r r := ⟨rfl, fun _ h => h⟩
theorem Pr.trans {r r1 r2 : Store} (a : Pr r r1) (b : Pr r1 r2) : Pr r r2 := ⟨b.len.trans a.len, fun c h => b.cl c (a.cl c h)⟩
theorem Pr.set {r : Store} {k : Nat} {c : Cell} (h : ∀ b, c.below b = true) : Pr r (r.set k c) := ⟨by simp, fun b q => List.all_eq_true.mpr fun x hx => by
  rcases List.mem_or_eq_of_mem_set hx with hx | hx
  · exact List.all_eq_true.mp q x hx
  · subst hx; exact h b⟩
def Rl (B : Bs wr) (n : Nat) (G : List (Nat × W)) (cs : List (Nat × Cell)) (env : Env) (r0 : Store) (f : α → β) (x : Res β) (o : O σ α) : Prop := match o with
  | .ok a s' => ∃ r', x = .ok (f a) (B.st s' ++ r') ∧ Ok B.b n G cs env r' ∧ Pr r0 r'
  | .ex c fs s' => ∃ r', x = .exc c fs (B.st s' ++ r') ∧ Ok B.b n G [] env r'
  | .no => True
def E [En α] (B : Bs wr) (n : Nat) (G : List (Nat × W)) (cs cs' : List (Nat × Cell)) (t : TEv) (s : σ) (o : O σ α) : Prop :=
  ∀ env r, Ok B.b n G cs env r → Rl B n G cs' env r (fun a => w_ a) (t env (B.st s ++ r)) o
def ET (B : Bs wr) (n : Nat) (G : List (Nat × W)) (cs cs' : List (Nat × Cell)) (t : TTv) (s : σ) (o : O σ Bool) : Prop :=
  ∀ env r, Ok B.b n G cs env r → Rl B n G cs' env r (fun a => a) (t env (B.st s ++ r)) o
/-- the words of an iterable -/
def EI [En α] (B : Bs wr) (n : Nat) (G : List (Nat × W)) (cs cs' : List (Nat × Cell)) (t : TIv) (s : σ) (o : O σ (List α)) : Prop :=
  ∀ env r, Ok B.b n G cs env r → Rl B n G cs' env r (fun l => l.map fun a => w_ a) (t env (B.st s ++ r)) o
/-- what is looked at: data, or a list's cell -/
def EL [En α] (B : Bs wr) (n : Nat) (G : List (Nat × W)) (cs cs' : List (Nat × Cell)) (t : TEv) (s : σ) (o : O σ α) : Prop :=
  ∀ env r, Ok B.b n G cs env r → match o with
    | .ok a s' => ∃ w r', t env (B.st s ++ r) = .ok w (B.st s' ++ r') ∧ Ok B.b n G cs' env r' ∧ Pr r r' ∧ ∀ s'' r'' env'', Ok B.b n G cs' env'' r'' → look (B.st s'' ++ r'') w = some (En.e a)
    | .ex c fs s' => ∃ r', t env (B.st s ++ r) = .exc c fs (B.st s' ++ r') ∧ Ok B.b n G [] env r'
    | .no => True
class Ar (A : Type) where
  ws : A → List W
instance : Ar Unit := ⟨fun _ => []⟩
instance {α A : Type} [En α] [Ar A] : Ar (α × A) := ⟨fun p => w_ p.1 :: Ar.ws p.2⟩
/-- a place in the store -/
structure Rf where
  k : Nat
instance {A : Type} [Ar A] : Ar (Rf × A) := ⟨fun p => W.loc p.1.k :: Ar.ws p.2⟩
/-- the members of a list display -/
instance {α : Type} [En α] : Ar (List α) := ⟨fun l => l.map fun a => w_ a⟩
def EA0 {A : Type} [Ar A] (B : Bs wr) (n : Nat) (G : List (Nat × W)) (cs cs' : List (Nat × Cell)) (t : TAv) (s : σ) (o : O σ A) : Prop :=
  ∀ env r, Ok B.b n G cs env r → Rl B n G cs' env r (fun x => Ar.ws x) (t env (B.st s ++ r)) o
/-- arguments, by what goes on with them -/
def EA {A : Type} [Ar A] (B : Bs wr) (n : Nat) (G : List (Nat × W)) (cs cs' : List (Nat × Cell)) (t : TAv) (s : σ) (q : (β : Type) → (A → σ → O σ β) → O σ β) : Prop :=
  ∃ o, EA0 B n G cs cs' t s o ∧ ∀ β k, q β k = o.bind k
end
section
variable {σ α β γ δ : Type} {wr : Wr σ} {B : Bs wr} {n : Nat} {G : List (Nat × W)} {cs cs1 cs2 cs3 : List (Nat × Cell)} {env : Env} {r0 : Store} {s : σ}
theorem Rl.bind {f : α → β} {g : γ → δ} {x : Res β} {o : O σ α} {k : β → Store → Res δ} {k' : α → σ → O σ γ} (h : Rl B n G cs1 env r0 f x o)
    (hk : ∀ a s' r', o = .ok a s' → Ok B.b n G cs1 env r' → Pr r0 r' → Rl B n G cs2 env r0 g (k (f a) (B.st s' ++ r')) (k' a s')) : Rl B n G cs2 env r0 g (x.bind k) (o.bind k') := by
  cases o with
  | ok a s' =>
    obtain ⟨r', rfl, ok, hl⟩ := h
    exact hk a s' r' rfl ok hl
  | ex c fs s' => obtain ⟨r', rfl, ok⟩ := h; exact ⟨r', rfl, ok⟩
  | no => trivial
theorem Rl.up {f : α → β} {x : Res β} {o : O σ α} {r1 : Store} (p : Pr r0 r1) (h : Rl B n G cs env r1 f x o) : Rl B n G cs env r0 f x o := by
  cases o with
  | ok a s' => obtain ⟨r', e, k, q⟩ := h; exact ⟨r', e, k, p.trans q⟩
  | ex c fs s' => exact h
  | no => trivial
theorem Rl.mk {f : α → β} {x : Res β} {a : α} {r : Store} (e : x = .ok (f a) (B.st s ++ r)) (ok : Ok B.b n G cs env r) (hl : Pr r0 r) : Rl B n G cs env r0 f x (.ok a s) := ⟨r, e, ok, hl⟩
theorem Rl.opt {f : α → β} {x : Res β} {o : Option α} {r : Store} (e : ∀ a, o = some a → x = .ok (f a) (B.st s ++ r)) (ok : Ok B.b n G cs env r) (hl : Pr r0 r) : Rl B n G cs env r0 f x (ofO o s) := by
  cases o with
  | none => trivial
  | some a => exact ⟨r, e a rfl, ok, hl⟩
variable [En α] [En β] [En γ] [En δ] {ta tb tc te : TEv} {o : O σ α} {o1 : O σ α} {o2 : σ → O σ β} {o3 : σ → O σ γ}
theorem E.el (h : E B n G cs cs1 te s o) : EL B n G cs cs1 te s o := fun env r k => by
  have q := h env r k
  cases o with
  | ok a s' => obtain ⟨r', e, ok, hl⟩ := q; exact ⟨_, r', e, ok, hl, fun _ _ _ _ => rfl⟩
  | ex c fs s' => exact q
  | no => trivial
theorem EL.bind {γ' δ' : Type} {g : γ' → δ'} {k : W → Store → Res δ'} {k' : α → σ → O σ γ'} {env : Env} {r : Store} (h : EL B n G cs cs1 te s o) (ok : Ok B.b n G cs env r)
    (hk : ∀ a s' w r', Ok B.b n G cs1 env r' → Pr r r' → (∀ s'' r'' env'', Ok B.b n G cs1 env'' r'' → look (B.st s'' ++ r'') w = some (En.e a)) → Rl B n G cs2 env r g (k w (B.st s' ++ r')) (k' a s')) :
    Rl B n G cs2 env r g ((te env (B.st s ++ r)).bind k) (o.bind k') := by
  have q := h env r ok
  cases o with
  | ok a s' =>
    obtain ⟨w, r', e, ok', hl, hw⟩ := q
    rw [e]
    exact hk a s' w r' ok' hl hw
  | ex c fs s' => obtain ⟨r', e, ok'⟩ := q; rw [e]; exact ⟨r', rfl, ok'⟩
  | no => trivial
/-! names and constants -/
theorem e_var {i : Nat} {a : α} (h : lk G i = some (w_ a)) : E B n G cs cs (eVar i) s (.ok a s) := fun env r k => by
  refine Rl.mk ?_ k .refl
  unfold eVar
  rw [k.var i _ h]
theorem el_cell {i k : Nat} {l : List α} (h : lk G i = some (.loc (B.b + k))) (hc : (k, cl_ l) ∈ cs) : EL B n G cs cs (eVar i) s (.ok l s) := fun env r ok => by
  refine ⟨.loc (B.b + k), r, ?_, ok, .refl, fun s2 r2 env2 ok2 => ?_⟩
  · unfold eVar
    rw [ok.var i _ h]
  · show lookC (B.st s2 ++ r2)[B.b + k]? = _
    rw [st_get, ok2.cell _ _ hc]
    rfl
theorem e_c {x : F} {a : α} (h : x = En.e a) : E B n G cs cs (eC x) s (.ok a s) := fun env r k => by
  subst h
  exact Rl.mk rfl k .refl
theorem e_int {i : Int} : E B n G cs cs (eC (.int i)) s (.ok i s) := e_c rfl
theorem e_bl {i : Bool} : E B n G cs cs (eC (.bl i)) s (.ok i s) := e_c rfl
theorem e_str {i : List Nat} : E B n G cs cs (eC (.str i)) s (.ok i s) := e_c rfl
theorem e_chr {i : Nat} : E B n G cs cs (eC (.str [i])) s (.ok (Ch.mk i) s) := e_c rfl
theorem e_non : E B n G cs cs (eC .non) s (.ok () s) := e_c rfl
/-- another type for the same data -/
theorem e_co {f : α → β} (hf : ∀ a, En.e (f a) = En.e a) (h : E B n G cs cs1 te s o) : E B n G cs cs1 te s (o.bind fun a s1 => .ok (f a) s1) := fun env r k => by
  have q := h env r k
  cases o with
  | ok a s' =>
    obtain ⟨r', e, ok, hl⟩ := q
    exact ⟨r', by rw [e]; show Res.ok (W.f (En.e a)) _ = .ok (W.f (En.e (f a))) _; rw [hf], ok, hl⟩
  | ex c fs s' => exact q
  | no => trivial
theorem co_any : ∀ a : α, (En.e (En.e a : F) : F) = En.e a := fun _ => rfl
theorem co_some : ∀ a : α, (En.e (some a) : F) = En.e a := fun _ => rfl
theorem co_chr : ∀ a : Ch, (En.e [a.c] : F) = En.e a := fun _ => rfl
/-- a partial change of type -/
theorem e_cop {f : α → Option β} (hf : ∀ a b, f a = some b → En.e b = En.e a) (h : E B n G cs cs1 te s o) : E B n G cs cs1 te s (o.bind fun a s1 => ofO (f a) s1) := fun env r k => by
  have q := h env r k
  cases o with
  | ok a s' =>
    obtain ⟨r', e, ok, hl⟩ := q
    refine Rl.opt (r := r') (fun b hb => ?_) ok hl
    rw [e]; show Res.ok (W.f (En.e a)) _ = .ok (W.f (En.e b)) _; rw [hf a b hb]
  | ex c fs s' => exact q
  | no => trivial
theorem co_get : ∀ (a : Option α) (b : α), a = some b → (En.e b : F) = En.e a := fun _ _ h => by rw [h]; rfl
/-! operators -/
def Op2T (g : F → F → Option F) (op : α → β → Option γ) : Prop := ∀ a b c, op a b = some c → g (En.e a) (En.e b) = some (En.e c)
def Op1T (g : F → Option F) (op : α → Option γ) : Prop := ∀ a c, op a = some c → g (En.e a) = some (En.e c)
theorem e_op2 {g : F → F → Option F} {op : α → β → Option γ} (hg : Op2T g op) (h1 : EL B n G cs cs1 ta s o1) (h2 : ∀ s1, EL B n G cs1 cs1 tb s1 (o2 s1)) :
    E B n G cs cs1 (eOp2 g ta tb) s (o1.bind fun a s1 => (o2 s1).bind fun b s2 => ofO (op a b) s2) := fun env r k => by
  refine h1.bind k fun a s1 w r1 k1 hl1 hw => ?_
  refine Rl.up hl1 ?_
  refine (h2 s1).bind k1 fun b s2 u r2 k2 hl2 hu => ?_
  refine Rl.opt (fun c hc => ?_) k2 hl2
  show lk2 g w u _ = _
  unfold lk2
  rw [hw s2 r2 env k2, hu s2 r2 env k2]
  show ofOpt (g (En.e a) (En.e b)) _ = _
  rw [hg a b c hc]
  rfl
theorem e_op1 {g : F → Option F} {op : α → Option γ} (hg : Op1T g op) (h1 : EL B n G cs cs1 ta s o1) :
    E B n G cs cs1 (eOp1 g ta) s (o1.bind fun a s1 => ofO (op a) s1) := fun env r k => by
  refine h1.bind k fun a s1 w r1 k1 hl1 hw => ?_
  refine Rl.opt (fun c hc => ?_) k1 hl1
  show lk1 g w _ = _
  unfold lk1
  rw [hw s1 r1 env k1]
  show ofOpt (g (En.e a)) _ = _
  rw [hg a c hc]
  rfl
/-! tests -/
variable {wa wb : TTv} {p1 : O σ Bool} {p2 : σ → O σ Bool}
theorem t_val {o : O σ Bool} (h : E B n G cs cs1 te s o) : ET B n G cs cs1 (tVal te) s o := fun env r k => by
  have q := h env r k
  show Rl _ _ _ _ _ _ _ ((te env (B.st s ++ r)).bind fun w st1 => asB w st1) o
  cases o with
  | ok a s' => obtain ⟨r', e, ok, hl⟩ := q; rw [e]; exact ⟨r', rfl, ok, hl⟩
  | ex c fs s' => obtain ⟨r', e, ok⟩ := q; rw [e]; exact ⟨r', rfl, ok⟩
  | no => trivial
theorem t_and (h1 : ET B n G cs cs1 wa s p1) (h2 : ∀ s1, ET B n G cs1 cs1 wb s1 (p2 s1)) : ET B n G cs cs1 (tAndV wa wb) s (p1.bind fun b s1 => if b = true then p2 s1 else .ok false s1) := fun env r k => by
  refine (h1 env r k).bind fun b s1 r1 _ k1 hl => ?_
  refine Rl.up hl ?_
  cases b with
  | true => exact h2 s1 env r1 k1
  | false => exact Rl.mk rfl k1 .refl
theorem t_or (h1 : ET B n G cs cs1 wa s p1) (h2 : ∀ s1, ET B n G cs1 cs1 wb s1 (p2 s1)) : ET B n G cs cs1 (tOrV wa wb) s (p1.bind fun b s1 => if b = true then .ok true s1 else p2 s1) := fun env r k => by
  refine (h1 env r k).bind fun b s1 r1 _ k1 hl => ?_
  refine Rl.up hl ?_
  cases b with
  | true => exact Rl.mk rfl k1 .refl
  | false => exact h2 s1 env r1 k1
theorem t_andT {a b : Bool} (h1 : ET B n G cs cs wa s (.ok a s)) (h2 : ∀ s1, ET B n G cs cs wb s1 (.ok b s1)) : ET B n G cs cs (tAndV wa wb) s (.ok (a && b) s) := fun env r k => by
  have q := t_and h1 h2 env r k
  cases a <;> exact q
theorem t_not (h1 : ET B n G cs cs1 wa s p1) : ET B n G cs cs1 (tNotV wa) s (p1.bind fun b s1 => .ok (!b) s1) := fun env r k => by
  refine (h1 env r k).bind fun b s1 r1 _ k1 hl => ?_
  exact Rl.mk rfl k1 hl
theorem e_and {o1 : O σ Bool} {o2 : σ → O σ Bool} (h1 : E B n G cs cs1 ta s o1) (h2 : ∀ s1, E B n G cs1 cs1 tb s1 (o2 s1)) : E B n G cs cs1 (eAnd ta tb) s (o1.bind fun b s1 => if b = true then o2 s1 else .ok false s1) := fun env r k => by
  refine (h1 env r k).bind fun b s1 r1 _ k1 hl => ?_
  refine Rl.up hl ?_
  cases b with
  | true => exact h2 s1 env r1 k1
  | false => exact Rl.mk rfl k1 .refl
theorem e_andT {a b : Bool} (h1 : E B n G cs cs ta s (.ok a s)) (h2 : ∀ s1, E B n G cs cs tb s1 (.ok b s1)) : E B n G cs cs (eAnd ta tb) s (.ok (a && b) s) := fun env r k => by
  have q := e_and h1 h2 env r k
  cases a <;> exact q
theorem e_not {o1 : O σ Bool} (h1 : E B n G cs cs1 ta s o1) : E B n G cs cs1 (eNot ta) s (o1.bind fun b s1 => .ok (!b) s1) := fun env r k => by
  refine (h1 env r k).bind fun b s1 r1 _ k1 hl => ?_
  exact Rl.mk rfl k1 hl
theorem e_if {o1 o2 : σ → O σ α} (h : ET B n G cs cs1 wa s p1) (h1 : ∀ s1, E B n G cs1 cs2 ta s1 (o1 s1)) (h2 : ∀ s1, E B n G cs1 cs2 tb s1 (o2 s1)) : E B n G cs cs2 (eIf wa ta tb) s (p1.bind fun b s1 => if b = true then o1 s1 else o2 s1) := fun env r k => by
  refine (h env r k).bind fun b s1 r1 _ k1 hl => ?_
  refine Rl.up hl ?_
  cases b with
  | true => exact h1 s1 env r1 k1
  | false => exact h2 s1 env r1 k1
theorem e_ifT' {b : Bool} {x y : α} (h : ET B n G cs cs wa s (.ok b s)) (h1 : ∀ s1, E B n G cs cs ta s1 (.ok x s1)) (h2 : ∀ s1, E B n G cs cs tb s1 (.ok y s1)) : E B n G cs cs (eIf wa ta tb) s (.ok (if b = true then x else y) s) := fun env r k => by
  have q := e_if h h1 h2 env r k
  cases b <;> exact q
theorem e_ifT {o : O σ α} (h : ET B n G cs cs1 wa s (.ok true s)) (h1 : E B n G cs1 cs2 ta s o) : E B n G cs cs2 (eIf wa ta tb) s o := fun env r k => by
  obtain ⟨r1, e, k1, hl⟩ := h env r k
  show Rl _ _ _ _ _ _ _ ((wa env (B.st s ++ r)).bind _) o
  rw [e]
  refine Rl.up hl ?_
  exact h1 env r1 k1
/-- a < b < c -/
theorem e_chain {g g' : F → F → Option F} {op : α → β → Option Bool} {op' : β → γ → Option Bool} (hg : Op2T g op) (hg' : Op2T g' op') (h1 : E B n G cs cs1 ta s o1) (h2 : ∀ s1, E B n G cs1 cs1 tb s1 (o2 s1)) (h3 : ∀ s1, E B n G cs1 cs1 tc s1 (o3 s1)) :
    E B n G cs cs1 (eChain g g' ta tb tc) s (o1.bind fun a s1 => (o2 s1).bind fun b s2 => (ofO (op a b) s2).bind fun k s3 => if k = true then (o3 s3).bind fun c s4 => ofO (op' b c) s4 else .ok false s3) := fun env r k => by
  refine (h1 env r k).bind fun a s1 r1 _ k1 hl1 => ?_
  refine Rl.up hl1 ?_
  refine (h2 s1 env r1 k1).bind fun b s2 r2 _ k2 hl2 => ?_
  refine Rl.up hl2 ?_
  cases q : op a b with
  | none => trivial
  | some v =>
    have e : lk2 g (w_ a) (w_ b) (B.st s2 ++ r2) = .ok (w_ v) (B.st s2 ++ r2) := by
      show ofOpt (g (En.e a) (En.e b)) _ = _
      rw [hg a b v q]; rfl
    show Rl _ _ _ _ _ _ _ ((lk2 g (w_ a) (w_ b) (B.st s2 ++ r2)).bind _) _
    rw [e]
    cases v with
    | false => exact Rl.mk rfl k2 .refl
    | true =>
      refine (h3 s2 env r2 k2).bind fun c s4 r4 _ k4 hl4 => ?_
      refine Rl.opt (fun d hd => ?_) k4 hl4
      show ofOpt (g' (En.e b) (En.e c)) _ = _
      rw [hg' b c d hd]; rfl
theorem e_chainT {g g' : F → F → Option F} {op : α → β → Bool} {op' : β → γ → Bool} {a : α} {b : β} {c : γ} (hg : Op2T g fun x y => some (op x y)) (hg' : Op2T g' fun x y => some (op' x y)) (h1 : E B n G cs cs ta s (.ok a s)) (h2 : ∀ s1, E B n G cs cs tb s1 (.ok b s1)) (h3 : ∀ s1, E B n G cs cs tc s1 (.ok c s1)) :
    E B n G cs cs (eChain g g' ta tb tc) s (.ok (op a b && op' b c) s) := fun env r k => by
  have q := e_chain hg hg' h1 h2 h3 env r k
  have q : Rl B n G cs env r (fun a => w_ a) (eChain g g' ta tb tc env (B.st s ++ r)) (if op a b = true then .ok (op' b c) s else .ok false s) := q
  cases e : op a b with
  | true => rw [e] at q; exact q
  | false => rw [e] at q; exact q
/-! arguments -/
variable {A : Type} [Ar A] {tr : TAv}
theorem a_nil : EA B n G cs cs aNil s (fun _ k => k () s) := ⟨.ok () s, fun env r k => Rl.mk rfl k .refl, fun _ _ => rfl⟩
theorem a_cons {q : σ → (β : Type) → (A → σ → O σ β) → O σ β} (h1 : E B n G cs cs1 ta s o1) (h2 : ∀ s1, EA B n G cs1 cs2 tr s1 (q s1)) : EA B n G cs cs2 (aCons ta tr) s (fun β k => o1.bind fun a s1 => q s1 β fun x s2 => k (a, x) s2) := by
  obtain ⟨oa, h3⟩ := Classical.axiomOfChoice h2
  refine ⟨o1.bind fun a s1 => (oa s1).bind fun x s2 => .ok (a, x) s2, fun env r k => ?_, fun β k => ?_⟩
  · refine (h1 env r k).bind fun a s1 r1 _ k1 hl1 => ?_
    refine Rl.up hl1 ?_
    refine ((h3 s1).1 env r1 k1).bind fun x s2 r2 _ k2 hl2 => ?_
    exact Rl.mk rfl k2 hl2
  · simp only [(h3 _).2, bind_assoc, bind_ok]
theorem al_nil : EA B n G cs cs aNil s (fun _ k => k ([] : List α) s) := ⟨.ok [] s, fun env r k => Rl.mk rfl k .refl, fun _ _ => rfl⟩
theorem al_cons {q : σ → (β : Type) → (List α → σ → O σ β) → O σ β} (h1 : E B n G cs cs1 ta s o1) (h2 : ∀ s1, EA B n G cs1 cs2 tr s1 (q s1)) : EA B n G cs cs2 (aCons ta tr) s (fun β k => o1.bind fun a s1 => q s1 β fun x s2 => k (a :: x) s2) := by
  obtain ⟨oa, h3⟩ := Classical.axiomOfChoice h2
  refine ⟨o1.bind fun a s1 => (oa s1).bind fun x s2 => .ok (a :: x) s2, fun env r k => ?_, fun β k => ?_⟩
  · refine (h1 env r k).bind fun a s1 r1 _ k1 hl1 => ?_
    refine Rl.up hl1 ?_
    refine ((h3 s1).1 env r1 k1).bind fun x s2 r2 _ k2 hl2 => ?_
    exact Rl.mk rfl k2 hl2
  · simp only [(h3 _).2, bind_assoc, bind_ok]
def lstO (l : List α) (s : σ) : O σ (List α) := ofO (if small l.length = true then some l else none) s
theorem allF_w (l : List α) : allF (l.map fun a => w_ a) = some (l.map En.e) := by
  have := allF_map (l.map (En.e (α := α)))
  rw [List.map_map] at this
  exact this
theorem e_lst {q : (β : Type) → (List α → σ → O σ β) → O σ β} (h : EA B n G cs cs1 tr s q) : E B n G cs cs1 (eLst tr) s (q _ fun l s1 => lstO l s1) := fun env r k => by
  obtain ⟨ol, h, hq⟩ := h
  rw [hq]
  refine (h env r k).bind fun l s1 r1 _ k1 hl => ?_
  refine Rl.opt (fun l' hl' => ?_) k1 hl
  obtain ⟨hs, e⟩ := ifSome hl'
  subst e
  show (match allF (l.map fun a => w_ a) with
    | some xs => if small xs.length = true then Res.ok (W.f (F.lst xs)) _ else .stuck
    | none => .stuck) = _
  rw [allF_w]
  simp only [List.length_map]
  rw [if_pos hs]
  rfl
def tupO (l : List α) (s : σ) : O σ (Tu α) := ofO (if small l.length = true then some (Tu.mk l) else none) s
theorem e_tupS {q : (β : Type) → (List α → σ → O σ β) → O σ β} (h : EA B n G cs cs1 tr s q) : E B n G cs cs1 (eTup tr) s (q _ fun l s1 => tupO l s1) := fun env r k => by
  obtain ⟨ol, h, hq⟩ := h
  rw [hq]
  refine (h env r k).bind fun l s1 r1 _ k1 hl => ?_
  refine Rl.opt (fun l' hl' => ?_) k1 hl
  obtain ⟨hs, e⟩ := ifSome hl'
  subst e
  show (match allF (l.map fun a => w_ a) with
    | some xs => if small xs.length = true then Res.ok (W.f (F.tup xs)) _ else .stuck
    | none => .stuck) = _
  rw [allF_w]
  simp only [List.length_map]
  rw [if_pos hs]
  rfl
theorem e_tup2 {q : (β' : Type) → (α × β × Unit → σ → O σ β') → O σ β'} (h : EA B n G cs cs1 tr s q) : E B n G cs cs1 (eTup tr) s (q _ fun x s1 => .ok (x.1, x.2.1) s1) := fun env r k => by
  obtain ⟨oa, h, hq⟩ := h
  rw [hq]
  exact (h env r k).bind fun x s1 r1 _ k1 hl => Rl.mk rfl k1 hl
theorem e_tup4 {q : (β' : Type) → (α × β × γ × δ × Unit → σ → O σ β') → O σ β'} (h : EA B n G cs cs1 tr s q) : E B n G cs cs1 (eTup tr) s (q _ fun x s1 => .ok (T4.mk x.1 x.2.1 x.2.2.1 x.2.2.2.1) s1) := fun env r k => by
  obtain ⟨oa, h, hq⟩ := h
  rw [hq]
  exact (h env r k).bind fun x s1 r1 _ k1 hl => Rl.mk rfl k1 hl
/-! attributes, members -/
theorem e_attr {i : Nat} {f : α → β} (hf : ∀ (a : α) st, attrW st i (w_ a) = some (w_ (f a))) (h : E B n G cs cs1 te s o) : E B n G cs cs1 (eAttr i te) s (o.bind fun a s1 => .ok (f a) s1) := fun env r k => by
  refine (h env r k).bind fun a s1 r1 _ k1 hl => ?_
  refine Rl.mk ?_ k1 hl
  show ofW (attrW _ i (w_ a)) _ = _
  rw [hf]; rfl
theorem e_ixT {i : Int} {f : α → β} (hf : ∀ (a : α) st, ixW st (w_ a) (.f (.int i)) = some (w_ (f a))) (h : E B n G cs cs1 ta s o) (hi : ∀ s1, E B n G cs1 cs1 tb s1 (.ok i s1)) : E B n G cs cs1 (eIx ta tb) s (o.bind fun a s1 => .ok (f a) s1) := fun env r k => by
  refine (h env r k).bind fun a s1 r1 _ k1 hl => ?_
  obtain ⟨r2, e, k2, hl2⟩ := hi s1 env r1 k1
  refine Rl.mk (r := r2) ?_ k2 (hl.trans hl2)
  show (tb env (B.st s1 ++ r1)).bind _ = _
  rw [e]
  show ofW (ixW _ (w_ a) (.f (.int i))) _ = _
  rw [hf]; rfl
theorem atI_map {α β : Type} (f : α → β) (l : List α) (i : Int) : atI (l.map f) i = (atI l i).map f := by
  unfold atI
  rw [List.length_map]
  cases ixN l.length i with
  | none => rfl
  | some j => simp [List.getElem?_map]
theorem e_ixL {ol : O σ (List α)} {oi : σ → O σ Int} (h : E B n G cs cs1 ta s ol) (hi : ∀ s1, E B n G cs1 cs1 tb s1 (oi s1)) : E B n G cs cs1 (eIx ta tb) s (ol.bind fun l s1 => (oi s1).bind fun i s2 => ofO (atI l i) s2) := fun env r k => by
  refine (h env r k).bind fun l s1 r1 _ k1 hl => ?_
  refine Rl.up hl ?_
  refine (hi s1 env r1 k1).bind fun i s2 r2 _ k2 hl2 => ?_
  refine Rl.opt (fun a ha => ?_) k2 hl2
  show ofW ((atI (l.map En.e) i).map W.f) _ = _
  rw [atI_map, ha]; rfl
@[irreducible] def ixS (l : List Nat) (i : Int) : Option Ch := if l.length ≤ 1000000 then (atI l i).map Ch.mk else none
theorem e_ixS {ol : O σ (List Nat)} {oi : σ → O σ Int} (h : E B n G cs cs1 ta s ol) (hi : ∀ s1, E B n G cs1 cs1 tb s1 (oi s1)) : E B n G cs cs1 (eIx ta tb) s (ol.bind fun l s1 => (oi s1).bind fun i s2 => ofO (ixS l i) s2) := fun env r k => by
  refine (h env r k).bind fun l s1 r1 _ k1 hl => ?_
  refine Rl.up hl ?_
  refine (hi s1 env r1 k1).bind fun i s2 r2 _ k2 hl2 => ?_
  refine Rl.opt (fun a ha => ?_) k2 hl2
  unfold ixS at ha
  obtain ⟨hs, e⟩ : l.length ≤ 1000000 ∧ (atI l i).map Ch.mk = some a := by
    by_cases q : l.length ≤ 1000000
    · rw [if_pos q] at ha; exact ⟨q, ha⟩
    · rw [if_neg q] at ha; cases ha
  obtain ⟨c, hc, rfl⟩ := opt_map_some e
  show ofW (if small l.length = true then (atI l i).map fun c => W.f (.str [c]) else none) _ = _
  rw [if_pos (show small l.length = true from decide_eq_true hs), hc]; rfl
/-- of a list's cell -/
theorem e_ixC {i k : Nat} {l : List α} {oi : O σ Int} (h : lk G i = some (.loc (B.b + k))) (hc : (k, cl_ l) ∈ cs1) (hi : E B n G cs cs1 tb s oi) : E B n G cs cs1 (eIx (eVar i) tb) s (oi.bind fun i s2 => ofO (atI l i) s2) := fun env r q => by
  have e : eVar i env (B.st s ++ r) = .ok (.loc (B.b + k)) (B.st s ++ r) := by
    unfold eVar
    rw [q.var i _ h]
  unfold eIx
  rw [e]
  refine (hi env r q).bind fun i s2 r2 _ k2 hl2 => ?_
  refine Rl.opt (fun a ha => ?_) k2 hl2
  show ofW (ixC i (B.st s2 ++ r2)[B.b + k]?) _ = _
  rw [st_get, k2.cell _ _ hc]
  show ofW ((atI (l.map En.e) i).map W.f) _ = _
  rw [atI_map, ha]; rfl
end
end TL

set_option Elab.async false
set_option linter.all false
set_option maxRecDepth 100000
set_option maxHeartbeats 4000000
set_option autoImplicit false
/-! T2: calls, what is walked, comprehensions, statements, defs. -/
namespace TL
open VS
open L2 (atI ixN)

/-! ### defs -/
section
variable {σ R A : Type}
def FnG [Ar A] [En R] (wr : Wr σ) (m : FnM) (d : A → σ → O σ R) : Prop := ∀ rest s a, Cl (wr.put s rest) → match d a s with
  | .ok x s' => m (Ar.ws a) (wr.put s rest) = .ok (w_ x) (wr.put s' rest)
  | .ex c fs s' => ∃ j, m (Ar.ws a) (wr.put s rest) = .exc c fs (wr.put s' rest ++ j) ∧ Cl (wr.put s' rest ++ j)
  | .no => True
abbrev FnP [Ar A] [En R] (m : FnM) (d : A → P R) : Prop := FnG wU m (fun a _ => d a)
end
section
variable {σ α β γ δ R A : Type} {wr : Wr σ} {B : Bs wr} {n : Nat} {G : List (Nat × W)} {cs cs1 cs2 cs3 : List (Nat × Cell)} {env : Env} {s : σ}
theorem Ok.junk {b n : Nat} {G : List (Nat × W)} {cs : List (Nat × Cell)} {env : Env} {r j : Store} (h : Ok b n G cs env r) (hc : clean (b + (r ++ j).length) (r ++ j) = true) : Ok b n G [] env (r ++ j) :=
  ⟨h.len, hc, List.nodup_nil, (fun _ _ q => nomatch q), h.var⟩
theorem cl_tail {B : Bs wr} {s : σ} {t : Store} (h : Cl (B.st s ++ t)) : clean (B.b + t.length) t = true := by
  unfold Cl clean at h
  rw [List.all_append, Bool.and_eq_true, List.length_append, B.len s] at h
  exact h.2
theorem callP [Ar A] [En R] {m : FnM} {d : A → P R} (F : FnP m d) {env : Env} {r : Store} (k : Ok B.b n G cs env r) (x : A) : Rl B n G cs env r (fun a => w_ a) (m (Ar.ws x) (B.st s ++ r)) ((d x).up s) := by
  have q := F (B.st s ++ r) () x (k.Cl s)
  cases e : d x with
  | ok a u => simp only [e] at q; exact Rl.mk q k .refl
  | ex c fs u =>
    simp only [e] at q
    obtain ⟨j, e1, e2⟩ := q
    refine ⟨r ++ j, by rw [← List.append_assoc]; exact e1, k.junk (cl_tail (s := s) (by rw [← List.append_assoc]; exact e2))⟩
  | no => trivial
theorem callS [Ar A] [En R] {m : FnM} {d : A → σ → O σ R} (F : FnG wr m d) {env : Env} {r : Store} (k : Ok B.b n G cs env r) (x : A) : Rl B n G cs env r (fun a => w_ a) (m (Ar.ws x) (B.st s ++ r)) (d x s) := by
  have q := F (B.rest ++ r) s x (by rw [wr.app]; exact k.Cl s)
  rw [wr.app] at q
  cases e : d x s with
  | ok a u => simp only [e] at q; rw [wr.app] at q; exact Rl.mk q k .refl
  | ex c fs u =>
    simp only [e] at q
    obtain ⟨j, e1, e2⟩ := q
    rw [wr.app] at e1 e2
    refine ⟨r ++ j, by rw [← List.append_assoc]; exact e1, k.junk (cl_tail (s := u) (by rw [← List.append_assoc]; exact e2))⟩
  | no => trivial
theorem up_unit {α : Type} (p : P α) (u : Unit) : p.up u = p := by cases p <;> rfl
variable [En α] [En β] [En γ] [En δ] [En R] [Ar A] {ta tb tc te to : TEv} {tr : TAv} {m : FnM} {o1 : O σ α} {o2 : σ → O σ β}
theorem e_call {d : A → P R} {q : (β : Type) → (A → σ → O σ β) → O σ β} (F : FnP m d) (h : EA B n G cs cs1 tr s q) : E B n G cs cs1 (eCall m tr) s (q _ fun x s1 => (d x).up s1) := fun env r k => by
  obtain ⟨oa, h, hq⟩ := h
  rw [hq]
  refine (h env r k).bind fun x s1 r1 _ k1 hl => ?_
  refine Rl.up hl ?_
  exact callP F k1 x
theorem e_callU {B : Bs wU} {d : A → P R} {q : (β : Type) → (A → Unit → O Unit β) → O Unit β} {s : Unit} (F : FnP m d) (h : EA B n G cs cs1 tr s q) : E B n G cs cs1 (eCall m tr) s (q _ fun x _ => d x) := fun env r k => by
  have z := e_call F h env r k
  simp only [up_unit] at z
  exact z
theorem e_callS {d : A → σ → O σ R} {q : (β : Type) → (A → σ → O σ β) → O σ β} (F : FnG wr m d) (h : EA B n G cs cs1 tr s q) : E B n G cs cs1 (eCall m tr) s (q _ fun x s1 => d x s1) := fun env r k => by
  obtain ⟨oa, h, hq⟩ := h
  rw [hq]
  refine (h env r k).bind fun x s1 r1 _ k1 hl => ?_
  refine Rl.up hl ?_
  exact callS F k1 x
/-! methods of data -/
theorem e_meth {c : Nat} {d : α × A → P R} {q : σ → (β : Type) → (A → σ → O σ β) → O σ β} (hc : ∀ (a : α) st, clsW st (w_ a) = some c) (F : FnP m d) (ho : E B n G cs cs1 to s o1) (h : ∀ s1, EA B n G cs1 cs1 tr s1 (q s1)) : E B n G cs cs1 (eMeth c m to tr) s (o1.bind fun a s1 => q s1 _ fun x s2 => (d (a, x)).up s2) := fun env r k => by
  refine (ho env r k).bind fun a s1 r1 _ k1 hl => ?_
  rw [if_pos (hc a _)]
  refine Rl.up hl ?_
  obtain ⟨oa, h, hq⟩ := h s1
  rw [hq]
  refine (h env r1 k1).bind fun x s2 r2 _ k2 hl2 => ?_
  refine Rl.up hl2 ?_
  exact callP F k2 (a, x)
theorem e_methU {B : Bs wU} {s : Unit} {c : Nat} {d : α × A → P R} {o1 : P α} {q : Unit → (β : Type) → (A → Unit → O Unit β) → O Unit β} (hc : ∀ (a : α) st, clsW st (w_ a) = some c) (F : FnP m d) (ho : E B n G cs cs1 to s o1) (h : ∀ s1, EA B n G cs1 cs1 tr s1 (q s1)) : E B n G cs cs1 (eMeth c m to tr) s (o1.bind fun a s1 => q s1 _ fun x s2 => d (a, x)) := fun env r k => by
  have z := e_meth hc F ho h env r k
  simp only [up_unit] at z
  exact z
/-- bounds by Nat.ble: they get stuck at once where nothing is known -/
def inRg (k : Nat) (i : Int) : Bool := Nat.ble i.natAbs k
def posB (i : Int) : Bool := match i with
  | .ofNat _ => true
  | .negSucc _ => false
theorem inRg_iff {k : Nat} {i : Int} : inRg k i = true ↔ i.natAbs ≤ k := by unfold inRg; rw [Nat.ble_eq]
theorem posB_iff {i : Int} : posB i = true ↔ 0 ≤ i := by cases i <;> simp [posB] <;> omega
@[irreducible] def lenI (i : Int) (s : σ) : O σ Int := ofO (if (posB i && inRg 9223372036854775807 i) = true then some i else none) s
/-- a type's test whose answer is known -/
theorem e_isi {gs : List Tg} {b : Bool} (hk : ∀ a : α, isiAny gs (kyF (En.e a)) = b) (h : E B n G cs cs1 te s o1) : E B n G cs cs1 (eIsi gs te) s (o1.bind fun _ s1 => .ok b s1) := fun env r k => by
  refine (h env r k).bind fun a s1 r1 _ k1 hl => ?_
  refine Rl.mk ?_ k1 hl
  show Res.ok (W.f (F.bl (isiAny gs (kyF (En.e a))))) _ = _
  rw [hk]
  rfl
theorem e_isiD {gs : List Tg} {f : α → Bool} (hk : ∀ a : α, isiAny gs (kyF (En.e a)) = f a) (h : E B n G cs cs1 te s o1) : E B n G cs cs1 (eIsi gs te) s (o1.bind fun a s1 => .ok (f a) s1) := fun env r k => by
  refine (h env r k).bind fun a s1 r1 _ k1 hl => ?_
  refine Rl.mk ?_ k1 hl
  show Res.ok (W.f (F.bl (isiAny gs (kyF (En.e a))))) _ = _
  rw [hk]
  rfl
/-! built-in functions -/
theorem looks1 {st : Store} {w : W} {x : F} (h : look st w = some x) : looks st [w] = some [x] := by
  unfold looks looks
  rw [h]; rfl
theorem e_cb1 {g : F → Option F} {op : α → Option γ} (hg : Op1T g op) (h1 : EL B n G cs cs1 ta s o1) : E B n G cs cs1 (eCB (g1 g) (aCons ta aNil)) s (o1.bind fun a s1 => ofO (op a) s1) := fun env r k => by
  have e : eCB (g1 g) (aCons ta aNil) env (B.st s ++ r) = (ta env (B.st s ++ r)).bind fun w st1 => lkN (g1 g) [w] st1 := by
    unfold eCB aCons aNil
    cases ta env (B.st s ++ r) <;> rfl
  rw [e]
  refine h1.bind k fun a s1 w r1 k1 hl1 hw => ?_
  refine Rl.opt (fun c hc => ?_) k1 hl1
  unfold lkN
  rw [looks1 (hw s1 r1 env k1)]
  show ofOpt (g (En.e a)) _ = _
  rw [hg a c hc]; rfl
/-- a method of a built-in type, with one argument -/
def OpMT (Ty : String) (g : F → List F → Option F) (op : α → β → Option γ) : Prop := (∀ a : α, tyF (En.e a) = Ty) ∧ ∀ a b c, op a b = some c → g (En.e a) [En.e b] = some (En.e c)
theorem e_bm1 {Ty : String} {g : F → List F → Option F} {op : α → β → Option γ} (hg : OpMT Ty g op) (h1 : EL B n G cs cs1 ta s o1) (h2 : ∀ s1, EL B n G cs1 cs1 tb s1 (o2 s1)) :
    E B n G cs cs1 (eBM Ty g ta (aCons tb aNil)) s (o1.bind fun a s1 => (o2 s1).bind fun b s2 => ofO (op a b) s2) := fun env r k => by
  refine h1.bind k fun a s1 w r1 k1 hl1 hw => ?_
  rw [hw s1 r1 env k1]
  refine Rl.up hl1 ?_
  cases q : o2 s1 with
  | no => trivial
  | ex c fs s2 =>
    have q2 := h2 s1 env r1 k1
    rw [q] at q2
    obtain ⟨r2, e2, k2⟩ := q2
    have ht := hg.1 a
    refine ⟨r2, ?_, k2⟩
    simp only [if_pos ht]
    unfold aCons
    rw [e2]; rfl
  | ok b s2 =>
    have ht := hg.1 a
    have q2 := h2 s1 env r1 k1
    rw [q] at q2
    obtain ⟨u, r2, e2, k2, hl2, hu⟩ := q2
    simp only [if_pos ht]
    refine Rl.opt (fun c hc => ?_) k2 hl2
    unfold aCons aNil
    rw [e2]
    show (match look (B.st s2 ++ r2) w with
      | some x => lkN (g x) [u] (B.st s2 ++ r2)
      | none => .stuck) = _
    rw [hw s2 r2 env k2]
    show lkN (g (En.e a)) [u] _ = _
    unfold lkN
    rw [looks1 (hu s2 r2 env k2)]
    show ofOpt (g (En.e a) [En.e b]) _ = _
    rw [hg.2 a b c hc]; rfl
/-! a cell becomes data -/
theorem e_frz {i k p : Nat} {l : List α} (h : lk G i = some (.loc (B.b + k))) (hp : cs[p]? = some (k, cl_ l)) : E B n G cs (cs.set p (k, .dead)) (eFrzC (eVar i)) s (.ok l s) := fun env r q => by
  have e : eVar i env (B.st s ++ r) = .ok (.loc (B.b + k)) (B.st s ++ r) := by
    unfold eVar
    rw [q.var i _ h]
  refine ⟨r.set k .dead, ?_, q.write hp rfl, .set fun _ => rfl⟩
  unfold eFrzC
  rw [e]
  show (match (B.st s ++ r)[B.b + k]? with
    | some (.lstF xs) => Res.ok (W.f (F.lst xs)) ((B.st s ++ r).set (B.b + k) .dead)
    | some (.dct xs) => Res.ok (W.f (F.dct xs)) ((B.st s ++ r).set (B.b + k) .dead)
    | _ => .stuck) = _
  rw [st_get, q.cell _ _ (List.mem_of_getElem? hp)]
  show Res.ok (W.f (F.lst (l.map En.e))) ((B.st s ++ r).set (B.b + k) .dead) = _
  rw [st_set]
  rfl
/-! ### what is walked -/
theorem i_any {f : α → List β} (hf : ∀ a : α, itemsF (En.e a) = some ((f a).map fun b => w_ b)) (h : E B n G cs cs1 te s o1) : EI B n G cs cs1 (iAny te) s (o1.bind fun a s1 => .ok (f a) s1) := fun env r k => by
  refine (h env r k).bind fun a s1 r1 _ k1 hl => ?_
  refine Rl.mk ?_ k1 hl
  show ofL (itemsF (En.e a)) _ = _
  rw [hf]; rfl
theorem it_lst : ∀ l : List β, itemsF (En.e l) = some (l.map fun b => w_ b) := fun l => by
  show some ((l.map En.e).map W.f) = _
  rw [List.map_map]; rfl
theorem it_str : ∀ l : List Nat, itemsF (En.e l) = some ((l.map Ch.mk).map fun b => w_ b) := fun l => by
  show some (signs l) = _
  unfold signs
  rw [List.map_map]; rfl
def rgI (lo : Int) (n : Nat) : List Int := (List.range n).map fun i => lo + (i : Nat)
def smI (i : Int) : Bool := inRg 4611686018427387903 i
theorem smI_ok {i : Int} (h : smI i = true) : smallI i = true := by
  unfold smI at h
  rw [inRg_iff] at h
  unfold smallI
  rw [Bool.and_eq_true, decide_eq_true_iff, decide_eq_true_iff]
  omega
@[irreducible] def rg1 (j : Int) (s : σ) : O σ (List Int) := ofO (if smI j = true then some (rgI 0 j.toNat) else none) s
@[irreducible] def rg2 (i j : Int) (s : σ) : O σ (List Int) := ofO (if smI i = true ∧ smI j = true then some (rgI i (j - i).toNat) else none) s
theorem rgI_w (lo : Int) (k : Nat) : rangeW lo 1 k = (rgI lo k).map fun b => w_ b := by
  unfold rangeW rgI
  rw [List.map_map]
  refine List.map_congr_left fun i _ => ?_
  show W.f (F.int (lo + (i : Nat) * 1)) = W.f (F.int (lo + (i : Nat)))
  rw [Int.mul_one]
theorem i_rg1 {o : O σ Int} (h : E B n G cs cs1 te s o) : EI B n G cs cs1 (iRange1 (aCons te aNil)) s (o.bind fun j s1 => rg1 j s1) := fun env r k => by
  have e : iRange1 (aCons te aNil) env (B.st s ++ r) = (te env (B.st s ++ r)).bind fun w st1 => rng1 [w] st1 := by
    unfold iRange1 aCons aNil
    cases te env (B.st s ++ r) <;> rfl
  rw [e]
  refine (h env r k).bind fun j s1 r1 _ k1 hl => ?_
  unfold rg1
  refine Rl.opt (fun l hl' => ?_) k1 hl
  obtain ⟨hs, rfl⟩ := ifSome hl'
  show (if smallI j = true then Res.ok (rangeW 0 1 j.toNat) _ else .stuck) = _
  rw [if_pos (smI_ok hs), rgI_w]
theorem d_lst : ∀ l : List β, itemsD (En.e l) = some (l.map En.e) := fun l => rfl
def enI : Nat → List α → List (Int × α)
  | _, [] => []
  | k, x :: xs => ((k : Int), x) :: enI (k + 1) xs
theorem enI_w : ∀ (k : Nat) (l : List α), (enumL k (l.map En.e)).map W.f = (enI k l).map fun p => w_ p
  | _, [] => rfl
  | k, x :: l => by
    simp only [List.map_cons, enumL, enI, enI_w (k + 1) l]
    rfl
theorem i_enum {f : α → List γ} (hf : ∀ a : α, itemsD (En.e a) = some ((f a).map En.e)) (h1 : E B n G cs cs1 ta s o1) : EI B n G cs cs1 (iEnum (aCons ta aNil)) s (o1.bind fun a s1 => .ok (enI 0 (f a)) s1) := fun env r k => by
  have e : iEnum (aCons ta aNil) env (B.st s ++ r) = (ta env (B.st s ++ r)).bind fun w st1 => enumW [w] st1 := by
    unfold iEnum aCons aNil
    cases ta env (B.st s ++ r) <;> rfl
  rw [e]
  refine (h1 env r k).bind fun a s1 r1 _ k1 hl => ?_
  refine Rl.mk ?_ k1 hl
  show (match itemsD (En.e a) with
    | some xs => Res.ok ((enumL 0 xs).map W.f) (B.st s1 ++ r1)
    | _ => .stuck) = _
  rw [hf]
  show Res.ok _ _ = Res.ok _ _
  rw [enI_w]
end
end TL

set_option Elab.async false
set_option linter.all false
set_option maxRecDepth 100000
set_option maxHeartbeats 4000000
set_option autoImplicit false
/-! T3: targets, comprehensions, statements, defs. -/
namespace TL
open VS
open L2 (atI ixN)
section
variable {σ α β γ δ ε R X S : Type} {wr : Wr σ} {B : Bs wr} {n : Nat} {G G' : List (Nat × W)} {cs cs1 cs2 cs3 : List (Nat × Cell)} {env : Env} {s : σ}
/-! ### targets -/
def Holds (G : List (Nat × W)) (env : Env) : Prop := ∀ i w, lk G i = some w → env[i]? = some (some w)
def Tgt [En α] (n : Nat) (g : TGv) (f : α → List (Nat × W)) : Prop := ∀ a env, env.length = n → ∃ env', g (w_ a) env = some env' ∧ env'.length = n ∧ ∀ G, Holds G env → Holds (f a ++ G) env'
theorem holds_set {env : Env} {i : Nat} {w : W} (hi : i < env.length) (h : Holds G env) : Holds ((i, w) :: G) (env.set i (some w)) := fun j u q => by
  unfold lk at q
  cases e : Nat.beq i j with
  | true =>
    rw [e] at q
    cases q
    cases Nat.eq_of_beq_eq_true e
    exact List.getElem?_set_self hi
  | false =>
    rw [e] at q
    have hij : i ≠ j := fun z => by subst z; rw [Nat.beq_refl] at e; cases e
    rw [List.getElem?_set_ne hij]
    exact h j u q
theorem tg_nm [En α] {i : Nat} (hi : i < n) : Tgt (α := α) n (gNm i) fun a => [(i, w_ a)] := fun a env hl =>
  ⟨env.set i (some (w_ a)), rfl, by simp [hl], fun G h => holds_set (by omega) h⟩
theorem tg_2 [En α] [En β] {g1 g2 : TGv} {f1 : α → List (Nat × W)} {f2 : β → List (Nat × W)} (h1 : Tgt n g1 f1) (h2 : Tgt n g2 f2) : Tgt (α := α × β) n (gTp (gsCons g1 (gsCons g2 gsNil))) fun p => f2 p.2 ++ f1 p.1 := fun p env hl => by
  obtain ⟨e1, q1, l1, k1⟩ := h1 p.1 env hl
  obtain ⟨e2, q2, l2, k2⟩ := h2 p.2 e1 l1
  refine ⟨e2, ?_, l2, fun G h => by rw [List.append_assoc]; exact k2 _ (k1 _ h)⟩
  show (g1 (w_ p.1) env).bind (fun env1 => (g2 (w_ p.2) env1).bind fun env2 => some env2) = _
  rw [q1]; show (g2 (w_ p.2) e1).bind _ = _; rw [q2]; rfl
theorem tg_3 [En α] [En β] [En γ] {g1 g2 g3 : TGv} {f1 : α → List (Nat × W)} {f2 : β → List (Nat × W)} {f3 : γ → List (Nat × W)} (h1 : Tgt n g1 f1) (h2 : Tgt n g2 f2) (h3 : Tgt n g3 f3) : Tgt (α := T3 α β γ) n (gTp (gsCons g1 (gsCons g2 (gsCons g3 gsNil)))) fun p => f3 p.c ++ (f2 p.b ++ f1 p.a) := fun p env hl => by
  obtain ⟨e1, q1, l1, k1⟩ := h1 p.a env hl
  obtain ⟨e2, q2, l2, k2⟩ := h2 p.b e1 l1
  obtain ⟨e3, q3, l3, k3⟩ := h3 p.c e2 l2
  refine ⟨e3, ?_, l3, fun G h => by rw [List.append_assoc, List.append_assoc]; exact k3 _ (k2 _ (k1 _ h))⟩
  show (g1 (w_ p.a) env).bind (fun env1 => (g2 (w_ p.b) env1).bind fun env2 => (g3 (w_ p.c) env2).bind fun env3 => some env3) = _
  rw [q1]; show (g2 (w_ p.b) e1).bind _ = _; rw [q2]; show (g3 (w_ p.c) e2).bind _ = _; rw [q3]; rfl
theorem lk_cons (j : Nat) (w : W) (A : List (Nat × W)) (i : Nat) : lk ((j, w) :: A) i = match Nat.beq j i with
    | true => some w
    | false => lk A i := rfl
theorem lk_self (i : Nat) (w : W) (A : List (Nat × W)) : lk ((i, w) :: A) i = some w := by rw [lk_cons, Nat.beq_refl]
theorem lk_append (A C : List (Nat × W)) (i : Nat) : lk (A ++ C) i = match lk A i with
    | some w => some w
    | none => lk C i := by
  induction A with
  | nil => rfl
  | cons p A ih =>
    obtain ⟨j, w⟩ := p
    rw [List.cons_append, lk_cons, lk_cons]
    cases Nat.beq j i with
    | true => rfl
    | false => exact ih
theorem wipeE_len (env : Env) : ∀ vs : List Nat, (wipeE env vs).length = env.length
  | [] => rfl
  | v :: vs => by show ((wipeE env vs).set v none).length = _; rw [List.length_set, wipeE_len env vs]
theorem wipeE_get (env : Env) {i : Nat} : ∀ vs : List Nat, i ∉ vs → (wipeE env vs)[i]? = env[i]?
  | [], _ => rfl
  | v :: vs, h => by
    show ((wipeE env vs).set v none)[i]? = _
    rw [List.getElem?_set_ne (fun z => h (by simp [z])), wipeE_get env vs fun z => h (by simp [z])]
/-- behind a wipe of the names that the target sets -/
theorem tg_wipe [En α] {g : TGv} {f : α → List (Nat × W)} {vs : List Nat} (h : Tgt n g f) (hv : ∀ a, (vs.all fun v => (lk (f a) v).isSome) = true) (a : α) {env : Env} (hl : env.length = n) :
    ∃ env', g (w_ a) (wipeE env vs) = some env' ∧ env'.length = n ∧ ∀ G, Holds G env → Holds (f a ++ G) env' := by
  obtain ⟨env', e, l', k⟩ := h a (wipeE env vs) (by rw [wipeE_len]; exact hl)
  refine ⟨env', e, l', fun G hG i w q => ?_⟩
  rw [lk_append] at q
  cases c : lk (f a) i with
  | some u =>
    rw [c] at q
    have := k [] (fun _ _ z => by cases z) i u (by rw [lk_append, c])
    rw [this, ← q]
  | none =>
    rw [c] at q
    have hni : i ∉ vs := fun hm => by
      have := List.all_eq_true.mp (hv a) i hm
      rw [c] at this; cases this
    refine k [(i, w)] (fun j u z => ?_) i w (by rw [lk_append, c]; exact lk_self i w [])
    rw [lk_cons] at z
    cases c2 : Nat.beq i j with
    | true =>
      rw [c2] at z; cases z
      cases Nat.eq_of_beq_eq_true c2
      rw [wipeE_get env vs hni]; exact hG i w q
    | false => rw [c2] at z; cases z
theorem Ok.holds {b : Nat} {r : Store} (h : Ok b n G cs env r) : Holds G env := h.var
theorem Ok.inE {b : Nat} {r : Store} (h : Ok b n G cs env r) {env' : Env} (hl : env'.length = n) (k : Holds G' env') : Ok b n G' cs env' r := ⟨hl, h.cl, h.nd, h.cell, k⟩
/-! ### comprehensions -/
def lcO (c : β → σ → O σ Bool) (v : β → σ → O σ α) : List β → σ → O σ (List α)
  | [], s => .ok [] s
  | x :: xs, s => (c x s).bind fun b s1 => if b = true then (v x s1).bind fun a s2 => (lcO c v xs s2).bind fun l s3 => .ok (a :: l) s3 else lcO c v xs s1
def mapO (v : β → σ → O σ α) : List β → σ → O σ (List α)
  | [], s => .ok [] s
  | x :: xs, s => (v x s).bind fun a s2 => (mapO v xs s2).bind fun l s3 => .ok (a :: l) s3
@[irreducible] def smL (xs : List β) (s : σ) : O σ (List β) := ofO (if xs.length ≤ 1000000 then some xs else none) s
theorem doCell_acc {B : Bs wr} {s : σ} {r : Store} {acc : List F} {x : F} (hl : acc.length < 1000000) : doCell cAppend (B.b + r.length) [.f x] (B.st s ++ (r ++ [.lstF acc])) = .ok (.f .non) (B.st s ++ (r ++ [.lstF (acc ++ [x])])) := by
  have h := doCell_app (st := B.st s ++ r) (acc := acc) (x := x) hl
  rw [st_len] at h
  rw [← List.append_assoc, h, List.append_assoc]
theorem Ok.split {b : Nat} {G : List (Nat × W)} {env : Env} {r : Store} {k : Nat} {c : Cell} (h : Ok b n G ((k, c) :: cs) env r) (hl : r.length = k + 1) : ∃ r0, r = r0 ++ [c] ∧ r0.length = k ∧ (clean (b + k) r0 = true → Ok b n G cs env r0) := by
  have e := h.cell k c (by simp)
  obtain ⟨hk, e⟩ := List.getElem?_eq_some_iff.mp e
  refine ⟨r.take k, ?_, by simp; omega, fun hcl => ?_⟩
  · apply List.ext_getElem?
    intro j
    by_cases hj : j < k
    · rw [List.getElem?_append_left (by simp; omega), List.getElem?_take_of_lt hj]
    · by_cases hj2 : j = k
      · subst hj2
        rw [List.getElem?_append_right (by simp; omega)]
        simp [hk, e, Nat.min_eq_left (Nat.le_of_lt hk)]
      · rw [List.getElem?_eq_none (by omega), List.getElem?_eq_none (by simp; omega)]
  · have hnd := h.nd
    rw [List.map_cons, List.nodup_cons] at hnd
    refine ⟨h.len, by rw [List.length_take, Nat.min_eq_left (by omega)]; exact hcl, hnd.2, fun j d q => ?_, h.var⟩
    have hj : j ≠ k := fun z => hnd.1 (List.mem_map.mpr ⟨(j, d), q, z⟩)
    have hd := h.cell j d (by simp [q])
    have hjl := (List.getElem?_eq_some_iff.mp hd).1
    rw [List.getElem?_take_of_lt (by omega)]
    exact hd
/-- a change above keeps the part below -/
theorem Ok.below {b : Nat} {G G' : List (Nat × W)} {env env' : Env} {r : Store} {k : Nat} {acc acc' : List F} {q : Store} (h : Ok b n G cs env r) (hk : k = r.length) (h2 : Ok b n G' ((k, .lstF acc') :: cs) env' q) (p : Pr (r ++ [.lstF acc]) q) :
    ∃ r1, q = r1 ++ [.lstF acc'] ∧ Pr r r1 ∧ Ok b n G' cs env' r1 := by
  subst hk
  obtain ⟨r1, e, l1, k1⟩ := h2.split (by rw [p.len]; simp)
  subst e
  have pc : ∀ c, clean c r = true → clean c r1 = true := fun c hc => by
    have z := p.cl c (by unfold clean; rw [List.all_append, Bool.and_eq_true]; exact ⟨hc, rfl⟩)
    unfold clean at z
    rw [List.all_append, Bool.and_eq_true] at z
    exact z.1
  exact ⟨r1, rfl, ⟨l1, pc⟩, k1 (pc _ h.cl)⟩
theorem lc_run [En α] [En β] {g : TGv} {tt : TTv} {te : TEv} {vs : List Nat} {f : β → List (Nat × W)} {c : β → σ → O σ Bool} {v : β → σ → O σ α} (hg : Tgt n g f) (hv : ∀ a, (vs.all fun v => (lk (f a) v).isSome) = true)
    (ht : ∀ x s k acc, ET B n (f x ++ G) ((k, .lstF acc) :: cs) ((k, .lstF acc) :: cs) tt s (c x s)) (he : ∀ x s k acc, E B n (f x ++ G) ((k, .lstF acc) :: cs) ((k, .lstF acc) :: cs) te s (v x s)) {env : Env} :
    ∀ (xs : List β) (acc : List α) (s : σ) (r : Store), acc.length + xs.length ≤ 1000000 → Ok B.b n G cs env r → match lcO c v xs s with
      | .ok l s' => ∃ r', lcL g tt te (B.b + r.length) (wipeE env vs) (xs.map fun b => w_ b) (B.st s ++ (r ++ [cl_ acc])) = .ok (.loc (B.b + r.length)) (B.st s' ++ (r' ++ [cl_ (acc ++ l)])) ∧ Ok B.b n G cs env r' ∧ Pr r r'
      | .ex e fs s' => ∃ r', lcL g tt te (B.b + r.length) (wipeE env vs) (xs.map fun b => w_ b) (B.st s ++ (r ++ [cl_ acc])) = .exc e fs (B.st s' ++ r') ∧ clean (B.b + r'.length) r' = true
      | .no => True
  | [], acc, s, r, _, k => ⟨r, by simp [lcL], k, .refl⟩
  | x :: xs, acc, s, r, hl, k => by
    have ih := fun (acc' : List α) (s' : σ) (r' : Store) (hl' : acc'.length + xs.length ≤ 1000000) (k' : Ok B.b n G cs env r') => lc_run hg hv ht he xs acc' s' r' hl' k'
    simp only [List.length_cons] at hl
    obtain ⟨env', e, l', kk⟩ := tg_wipe hg hv x k.len
    have ok1 : Ok B.b n (f x ++ G) ((r.length, cl_ acc) :: cs) env' (r ++ [cl_ acc]) := (k.new (c := cl_ acc) rfl).inE l' (kk G k.var)
    have hstep : ∀ st, lcL g tt te (B.b + r.length) (wipeE env vs) ((x :: xs).map fun b => w_ b) st = (tt env' st).bind fun b st1 => if b = true then (te env' st1).bind fun y st2 => (doCell cAppend (B.b + r.length) [y] st2).bind fun _ st3 => lcL g tt te (B.b + r.length) (wipeE env vs) (xs.map fun b => w_ b) st3 else lcL g tt te (B.b + r.length) (wipeE env vs) (xs.map fun b => w_ b) st1 := fun st => by
      rw [List.map_cons, lcL, e]
    rw [hstep]
    unfold lcO
    have q1 := ht x s r.length (acc.map En.e) env' (r ++ [cl_ acc]) ok1
    cases e1 : c x s with
    | no => trivial
    | ex d fs s1 => rw [e1] at q1; obtain ⟨r1, z, k1⟩ := q1; rw [z]; exact ⟨r1, rfl, k1.cl⟩
    | ok b s1 =>
      rw [e1] at q1
      obtain ⟨q, z, k1, p1⟩ := q1
      rw [z]
      simp only [Res.bind, O.bind]
      cases b with
      | false =>
        obtain ⟨r1, rfl, p2, k2⟩ := Ok.below k rfl k1 p1
        have i := ih acc s1 r1 (by omega) (k2.inE k.len k.var)
        simp only [Bool.false_eq_true, if_false]
        rw [p2.len] at i
        cases e2 : lcO c v xs s1 with
        | no => trivial
        | ex d fs s2 => simp only [e2] at i; exact i
        | ok l s2 => simp only [e2] at i; obtain ⟨r', y, k3, p3⟩ := i; exact ⟨r', y, k3, p2.trans p3⟩
      | true =>
        simp only [if_true]
        have q2 := he x s1 r.length (acc.map En.e) env' q k1
        cases e2 : v x s1 with
        | no => trivial
        | ex d fs s2 => rw [e2] at q2; obtain ⟨r1, z2, k2⟩ := q2; rw [z2]; exact ⟨r1, rfl, k2.cl⟩
        | ok a s2 =>
          rw [e2] at q2
          obtain ⟨q', z2, k2, p2⟩ := q2
          rw [z2]
          obtain ⟨r1, rfl, p3, k3⟩ := Ok.below k rfl k2 (p1.trans p2)
          simp only
          rw [← p3.len, show w_ a = W.f (En.e a) from rfl, doCell_acc (by simp; omega)]
          have i := ih (acc ++ [a]) s2 r1 (by simp; omega) (k3.inE k.len k.var)
          have ec : (acc.map En.e ++ [En.e a] : List F) = (acc ++ [a]).map En.e := by simp
          simp only
          rw [ec]
          cases e3 : lcO c v xs s2 with
          | no => trivial
          | ex d fs s3 => simp only [e3] at i; exact i
          | ok l s3 =>
            simp only [e3] at i
            obtain ⟨r', y, k4, p4⟩ := i
            refine ⟨r', ?_, k4, p3.trans p4⟩
            rw [y]
            simp
/-- a list that is made, as the last cell -/
def EC [En α] (B : Bs wr) (n : Nat) (G : List (Nat × W)) (cs cs' : List (Nat × Cell)) (t : TEv) (s : σ) (o : O σ (List α)) : Prop := ∀ env r, Ok B.b n G cs env r → match o with
  | .ok l s' => ∃ r', t env (B.st s ++ r) = .ok (.loc (B.b + r'.length)) (B.st s' ++ (r' ++ [cl_ l])) ∧ Ok B.b n G cs' env r' ∧ Pr r r'
  | .ex c fs s' => ∃ r', t env (B.st s ++ r) = .exc c fs (B.st s' ++ r') ∧ Ok B.b n G [] env r'
  | .no => True
theorem Ok.exc {b : Nat} {G : List (Nat × W)} {cs : List (Nat × Cell)} {env : Env} {r r' : Store} (h : Ok b n G cs env r) (hc : clean (b + r'.length) r' = true) : Ok b n G [] env r' := ⟨h.len, hc, List.nodup_nil, (fun _ _ q => nomatch q), h.var⟩
theorem c_lc [En α] [En β] {ti : TIv} {g : TGv} {tt : TTv} {te : TEv} {vs : List Nat} {f : β → List (Nat × W)} {c : β → σ → O σ Bool} {v : β → σ → O σ α} {oi : O σ (List β)} (hi : EI B n G cs cs1 ti s oi) (hg : Tgt n g f) (hv : ∀ a, (vs.all fun v => (lk (f a) v).isSome) = true)
    (ht : ∀ x s k acc, ET B n (f x ++ G) ((k, .lstF acc) :: cs1) ((k, .lstF acc) :: cs1) tt s (c x s)) (he : ∀ x s k acc, E B n (f x ++ G) ((k, .lstF acc) :: cs1) ((k, .lstF acc) :: cs1) te s (v x s)) :
    EC B n G cs cs1 (eLc ti g tt te vs) s (oi.bind fun xs s1 => (smL xs s1).bind fun xs s2 => lcO c v xs s2) := fun env r k => by
  have q := hi env r k
  unfold eLc
  cases oi with
  | no => trivial
  | ex d fs s1 => obtain ⟨r1, z, k1⟩ := q; rw [z]; exact ⟨r1, rfl, k1⟩
  | ok xs s1 =>
    obtain ⟨r1, z, k1, p1⟩ := q
    rw [z]
    simp only [O.bind, Res.bind]
    unfold smL
    by_cases hl : xs.length ≤ 1000000
    · simp only [if_pos hl, ofO]
      have y := lc_run hg hv ht he xs [] s1 r1 (by simpa using hl) k1
      rw [st_len, List.append_assoc]
      cases e : lcO c v xs s1 with
      | no => trivial
      | ex d fs s2 => simp only [e] at y; obtain ⟨r2, y1, y2⟩ := y; exact ⟨r2, y1, k1.exc y2⟩
      | ok l s2 =>
        simp only [e] at y
        obtain ⟨r2, y1, k2, p2⟩ := y
        refine ⟨r2, ?_, k2, p1.trans p2⟩
        rw [p2.len]
        exact y1
    · simp only [if_neg hl, ofO]
theorem frz_top {B : Bs wr} {s s' : σ} {r r' : Store} {l : List F} (k : Ok B.b n G cs env r') (p : Pr r r') : frz (B.st s ++ r).length (.loc (B.b + r'.length)) (B.st s' ++ (r' ++ [.lstF l])) = .ok (.f (.lst l)) (B.st s' ++ r') := by
  have h := frz_lst (k.Cl s') l
  rw [st_len] at h ⊢
  rw [← p.len, ← List.append_assoc]
  exact h
/-- frozen at once -/
theorem c_frz [En α] {t : TEv} {o : O σ (List α)} (h : EC B n G cs cs1 t s o) : E B n G cs cs1 (eFrz t) s o := fun env r k => by
  have q := h env r k
  show Rl _ _ _ _ _ _ _ ((t env (B.st s ++ r)).bind _) o
  cases o with
  | no => trivial
  | ex c fs s1 => obtain ⟨r1, z, k1⟩ := q; rw [z]; exact ⟨r1, rfl, k1⟩
  | ok l s1 =>
    obtain ⟨r1, z, k1, p⟩ := q
    rw [z]
    refine ⟨r1, ?_, k1, p⟩
    show frz _ _ _ = _
    rw [frz_top k1 p]
    rfl
theorem lcO_map (v : β → σ → O σ α) : ∀ (xs : List β) (s : σ), lcO (fun _ s => .ok true s) v xs s = mapO v xs s
  | [], _ => rfl
  | x :: xs, s => by
    show (v x s).bind (fun a s2 => (lcO _ v xs s2).bind fun l s3 => .ok (a :: l) s3) = (v x s).bind fun a s2 => (mapO v xs s2).bind fun l s3 => .ok (a :: l) s3
    congr 1
    funext a s2
    rw [lcO_map v xs s2]
theorem lcO_tot (c : β → Bool) (v : β → α) : ∀ (xs : List β) (s : σ), lcO (fun x s => .ok (c x) s) (fun x s => .ok (v x) s) xs s = .ok ((xs.filter c).map v) s
  | [], _ => rfl
  | x :: xs, s => by
    unfold lcO
    simp only [O.bind, lcO_tot c v xs s]
    cases h : c x with
    | true => simp [h]
    | false => simp [h]
theorem lcO_totM (v : β → α) : ∀ (xs : List β) (s : σ), lcO (fun _ s => .ok true s) (fun x s => .ok (v x) s) xs s = .ok (xs.map v) s
  | [], _ => rfl
  | x :: xs, s => by
    unfold lcO
    simp only [O.bind, lcO_totM v xs s]
    simp
variable {α' : Type}
theorem c_map [En α] [En β] {ti : TIv} {g : TGv} {te : TEv} {vs : List Nat} {f : β → List (Nat × W)} {v : β → σ → O σ α} {oi : O σ (List β)} (hi : EI B n G cs cs1 ti s oi) (hg : Tgt n g f) (hv : ∀ a, (vs.all fun v => (lk (f a) v).isSome) = true)
    (he : ∀ x s k acc, E B n (f x ++ G) ((k, .lstF acc) :: cs1) ((k, .lstF acc) :: cs1) te s (v x s)) :
    EC B n G cs cs1 (eLc ti g tYesV te vs) s (oi.bind fun xs s1 => (smL xs s1).bind fun xs s2 => mapO v xs s2) := by
  have h := c_lc (c := fun _ s => .ok true s) hi hg hv (fun x s k acc env r q => Rl.mk rfl q .refl) he
  simp only [lcO_map] at h
  exact h
theorem c_lcT [En α] [En β] {ti : TIv} {g : TGv} {tt : TTv} {te : TEv} {vs : List Nat} {f : β → List (Nat × W)} {c : β → Bool} {v : β → α} {oi : O σ (List β)} (hi : EI B n G cs cs1 ti s oi) (hg : Tgt n g f) (hv : ∀ a, (vs.all fun v => (lk (f a) v).isSome) = true)
    (ht : ∀ x s k acc, ET B n (f x ++ G) ((k, .lstF acc) :: cs1) ((k, .lstF acc) :: cs1) tt s (.ok (c x) s)) (he : ∀ x s k acc, E B n (f x ++ G) ((k, .lstF acc) :: cs1) ((k, .lstF acc) :: cs1) te s (.ok (v x) s)) :
    EC B n G cs cs1 (eLc ti g tt te vs) s (oi.bind fun xs s1 => (smL xs s1).bind fun xs s2 => .ok ((xs.filter c).map v) s2) := by
  have h := c_lc (c := fun x s => .ok (c x) s) (v := fun x s => .ok (v x) s) hi hg hv ht he
  simp only [lcO_tot] at h
  exact h
theorem c_mapT [En α] [En β] {ti : TIv} {g : TGv} {te : TEv} {vs : List Nat} {f : β → List (Nat × W)} {v : β → α} {oi : O σ (List β)} (hi : EI B n G cs cs1 ti s oi) (hg : Tgt n g f) (hv : ∀ a, (vs.all fun v => (lk (f a) v).isSome) = true)
    (he : ∀ x s k acc, E B n (f x ++ G) ((k, .lstF acc) :: cs1) ((k, .lstF acc) :: cs1) te s (.ok (v x) s)) :
    EC B n G cs cs1 (eLc ti g tYesV te vs) s (oi.bind fun xs s1 => (smL xs s1).bind fun xs s2 => .ok (xs.map v) s2) := by
  have h := c_lc (c := fun _ s => .ok true s) (v := fun x s => .ok (v x) s) hi hg hv (fun x s k acc env r q => Rl.mk rfl q .refl) he
  simp only [lcO_totM] at h
  exact h
theorem c_lst [En α] {tr : TAv} {q : (β : Type) → (List α → σ → O σ β) → O σ β} (h : EA B n G cs cs1 tr s q) : EC B n G cs cs1 (eLstM tr) s (q _ fun l s1 => lstO l s1) := fun env r k => by
  obtain ⟨ol, h, hq⟩ := h
  rw [hq]
  have q := h env r k
  unfold eLstM
  cases ol with
  | no => trivial
  | ex c fs s1 => obtain ⟨r1, z, k1⟩ := q; rw [z]; exact ⟨r1, rfl, k1⟩
  | ok l s1 =>
    obtain ⟨r1, z, k1, p⟩ := q
    rw [z]
    simp only [O.bind, Res.bind]
    unfold lstO
    by_cases hs : small l.length = true
    · simp only [if_pos hs, ofO]
      refine ⟨r1, ?_, k1, p⟩
      rw [if_pos (by show small (l.map fun a => w_ a).length = true; rw [List.length_map]; exact hs), st_len, List.append_assoc]
      unfold cellOf
      rw [show allF (Ar.ws l) = _ from allF_w l]
    · simp only [if_neg hs, ofO]
end
end TL

set_option Elab.async false
set_option linter.all false
set_option maxRecDepth 100000
set_option maxHeartbeats 4000000
set_option autoImplicit false
/-! T4: statements and defs. -/
namespace TL
open VS
open L2 (atI ixN)
inductive Fl (S R : Type) where
  | nx (s : S) | bk (s : S) | rt (r : R)
section
variable {σ α β γ δ R X S A : Type} {wr : Wr σ}
/-- a block: what it comes to -/
def J (B : Bs wr) (n : Nat) (K : X → σ → SR → Prop) (G : List (Nat × W)) (cs : List (Nat × Cell)) (t : TSv) (s : σ) (o : O σ X) : Prop := ∀ env r, Ok B.b n G cs env r → match o with
  | .ok x s' => K x s' (t env (B.st s ++ r))
  | .ex c fs s' => ∃ r', t env (B.st s ++ r) = .exc c fs (B.st s' ++ r') ∧ clean (B.b + r'.length) r' = true
  | .no => True
/-- a def's body -/
def Kfn [En R] (B : Bs wr) : R → σ → SR → Prop := fun x s sr => (∃ r', sr = .rt (w_ x) (B.st s ++ r')) ∨ ((En.e x : F) = .non ∧ ∃ env' r', sr = .nx env' (B.st s ++ r'))
/-- a join: the names and cells that go on -/
def Kj (B : Bs wr) (n : Nat) (oG : S → List (Nat × W)) (oC : S → List (Nat × Cell)) : S → σ → SR → Prop := fun v s sr => ∃ env' r', sr = .nx env' (B.st s ++ r') ∧ Ok B.b n (oG v) (oC v) env' r'
/-- a loop's body without break and return -/
def Ks (B : Bs wr) (n : Nat) (oG : S → List (Nat × W)) (oC : S → List (Nat × Cell)) : S → σ → SR → Prop := fun v s sr => ∃ env' r', (sr = .nx env' (B.st s ++ r') ∨ sr = .ct env' (B.st s ++ r')) ∧ Ok B.b n (oG v) (oC v) env' r'
/-- a loop's body -/
def Kl [En R] (B : Bs wr) (n : Nat) (oG : S → List (Nat × W)) (oC : S → List (Nat × Cell)) : Fl S R → σ → SR → Prop := fun x s sr => match x with
  | .nx v => ∃ env' r', (sr = .nx env' (B.st s ++ r') ∨ sr = .ct env' (B.st s ++ r')) ∧ Ok B.b n (oG v) (oC v) env' r'
  | .bk v => ∃ env' r', sr = .bk env' (B.st s ++ r') ∧ Ok B.b n (oG v) (oC v) env' r'
  | .rt a => ∃ r', sr = .rt (w_ a) (B.st s ++ r')
def KT (K : X → σ → SR → Prop) : X → σ → SR → Prop := fun x s sr => K x s sr ∧ ∀ env st, sr ≠ .nx env st
/-- what K takes for a return -/
def RetK [En α] (B : Bs wr) (K : X → σ → SR → Prop) (f : α → X) : Prop := ∀ a s r, K (f a) s (.rt (w_ a) (B.st s ++ r))
theorem ret_fn [En R] {B : Bs wr} : RetK B (Kfn (R := R) B) (fun a : R => a) := fun a s r => .inl ⟨r, rfl⟩
theorem ret_l [En R] {B : Bs wr} {n : Nat} {oG : S → List (Nat × W)} {oC : S → List (Nat × Cell)} : RetK B (Kl (R := R) B n oG oC) (fun a : R => Fl.rt a) := fun a s r => ⟨r, rfl⟩
theorem ret_t [En α] {B : Bs wr} {K : X → σ → SR → Prop} {f : α → X} (h : RetK B K f) : RetK B (KT K) f := fun a s r => ⟨h a s r, fun _ _ => nofun⟩
/-- what K takes for an end -/
def EndK (B : Bs wr) (n : Nat) (K : X → σ → SR → Prop) (G : List (Nat × W)) (cs : List (Nat × Cell)) (x : X) : Prop := ∀ env r s, Ok B.b n G cs env r → K x s (.nx env (B.st s ++ r))
variable {B : Bs wr} {n : Nat} {G G' : List (Nat × W)} {cs cs1 cs2 cs3 : List (Nat × Cell)} {s : σ} {K : X → σ → SR → Prop} {oG : S → List (Nat × W)} {oC : S → List (Nat × Cell)} {rest t t1 t2 : TSv} {ta tb te : TEv} {wa : TTv} {tr : TAv}
theorem end_fn : EndK B n (Kfn (R := Unit) B) G cs () := fun env r s _ => .inr ⟨rfl, env, r, rfl⟩
theorem end_j {v : S} (h : Sub (oG v) G) (hc : (oC v).Sublist cs) : EndK B n (Kj B n oG oC) G cs v := fun env r s k => ⟨env, r, rfl, k.sub h hc⟩
theorem end_s {v : S} (h : Sub (oG v) G) (hc : (oC v).Sublist cs) : EndK B n (Ks B n oG oC) G cs v := fun env r s k => ⟨env, r, .inl rfl, k.sub h hc⟩
theorem end_l [En R] {v : S} (h : Sub (oG v) G) (hc : (oC v).Sublist cs) : EndK B n (Kl (R := R) B n oG oC) G cs (.nx v) := fun env r s k => ⟨env, r, .inl rfl, k.sub h hc⟩
/-! a statement whose value is had goes on -/
def RlS (B : Bs wr) (K : X → σ → SR → Prop) (sr : SR) (o : O σ X) : Prop := match o with
  | .ok x s' => K x s' sr
  | .ex c fs s' => ∃ r', sr = .exc c fs (B.st s' ++ r') ∧ clean (B.b + r'.length) r' = true
  | .no => True
theorem Rl.thenS {α β : Type} {env : Env} {r0 : Store} {f : α → β} {x : Res β} {o : O σ α} {k : β → Store → SR} {k' : α → σ → O σ X} (h : Rl B n G cs1 env r0 f x o)
    (hk : ∀ a s' r', o = .ok a s' → Ok B.b n G cs1 env r' → Pr r0 r' → RlS B K (k (f a) (B.st s' ++ r')) (k' a s')) : RlS B K (x.thenS k) (o.bind k') := by
  cases o with
  | ok a s' =>
    obtain ⟨r', rfl, ok, hl⟩ := h
    exact hk a s' r' rfl ok hl
  | ex c fs s' => obtain ⟨r', rfl, ok⟩ := h; exact ⟨r', rfl, ok.cl⟩
  | no => trivial
theorem J.at_ {o : O σ X} (h : J B n K G cs t s o) {env : Env} {r : Store} (k : Ok B.b n G cs env r) : RlS B K (t env (B.st s ++ r)) o := h env r k
theorem J.of {o : O σ X} (h : ∀ env r, Ok B.b n G cs env r → RlS B K (t env (B.st s ++ r)) o) : J B n K G cs t s o := h
theorem j_last {o : O σ X} (h : J B n K G cs (bCons t bNil) s o) : J B n K G cs t s o := fun env r k => by
  have q := h env r k
  have e : bCons t bNil env (B.st s ++ r) = t env (B.st s ++ r) := by
    unfold bCons bNil
    cases t env (B.st s ++ r) <;> rfl
  rw [e] at q
  exact q
theorem j_end {x : X} (h : EndK B n K G cs x) : J B n K G cs bNil s (.ok x s) := fun env r k => h env r s k
/-- a block that never ends normally, and what stands behind it -/
theorem j_term {o : O σ X} (h : J B n (KT K) G cs t s o) : J B n K G cs (bCons t rest) s o := fun env r k => by
  have q := h env r k
  unfold bCons
  cases o with
  | no => trivial
  | ex c fs s' => obtain ⟨r', e, c⟩ := q; rw [e]; exact ⟨r', rfl, c⟩
  | ok x s' =>
    obtain ⟨q1, q2⟩ := q
    cases e : t env (B.st s ++ r) with
    | nx e1 s1 => exact absurd e (q2 e1 s1)
    | _ => rw [e] at q1; exact q1
theorem j_nil {o : O σ X} (h : J B n K G cs rest s o) : J B n K G cs (bCons bNil rest) s o := h
theorem j_assoc {o : O σ X} (h : J B n K G cs (bCons t1 (bCons t2 rest)) s o) : J B n K G cs (bCons (bCons t1 t2) rest) s o := fun env r k => by
  have q := h env r k
  have e : bCons (bCons t1 t2) rest env (B.st s ++ r) = bCons t1 (bCons t2 rest) env (B.st s ++ r) := by
    unfold bCons
    cases t1 env (B.st s ++ r) <;> rfl
  rw [e]
  exact q
theorem j_ret [En α] {o : O σ α} {f : α → X} (hK : RetK B K f) (h : E B n G cs cs1 te s o) : J B n K G cs (bCons (sRet te) rest) s (o.bind fun a s1 => .ok (f a) s1) := fun env r k => by
  have q : RlS B K (sRet te env (B.st s ++ r)) (o.bind fun a s1 => .ok (f a) s1) := (h env r k).thenS fun a s1 r1 _ k1 p1 => hK a s1 r1
  unfold bCons
  cases o with
  | no => trivial
  | ex c fs s' => obtain ⟨r', e, c⟩ := q; rw [e]; exact ⟨r', rfl, c⟩
  | ok x s' =>
    obtain ⟨r', e, k', p⟩ := h env r k
    have e2 : sRet te env (B.st s ++ r) = .rt (w_ x) (B.st s' ++ r') := by unfold sRet; rw [e]; rfl
    rw [e2]
    exact hK x s' r'
/-! assignments -/
theorem j_set [En α] {i : Nat} {o : O σ α} {k : α → σ → O σ X} (hi : i < n) (h : E B n G cs cs1 te s o) (hr : ∀ a s1, J B n K ((i, w_ a) :: G) cs1 rest s1 (k a s1)) : J B n K G cs (bCons (sSet i te) rest) s (o.bind k) := fun env r q => by
  have e : bCons (sSet i te) rest env (B.st s ++ r) = (te env (B.st s ++ r)).thenS fun w st1 => rest (env.set i (some w)) st1 := by
    unfold bCons sSet
    cases te env (B.st s ++ r) <;> rfl
  rw [e]
  exact (h env r q).thenS fun a s1 r1 _ k1 p1 => hr a s1 _ _ (k1.set hi _)
theorem j_expr [En α] {o : O σ α} {k : σ → O σ X} (h : E B n G cs cs1 te s o) (hr : ∀ s1, J B n K G cs1 rest s1 (k s1)) : J B n K G cs (bCons (sExpr te) rest) s (o.bind fun _ s1 => k s1) := fun env r q => by
  have e : bCons (sExpr te) rest env (B.st s ++ r) = (te env (B.st s ++ r)).thenS fun w st1 => rest env st1 := by
    unfold bCons sExpr
    cases te env (B.st s ++ r) <;> rfl
  rw [e]
  exact (h env r q).thenS fun a s1 r1 _ k1 p1 => hr s1 _ _ k1
theorem j_setC [En α] {i : Nat} {o : O σ (List α)} {k : List α → σ → O σ X} (hi : i < n) (h : EC B n G cs cs1 te s o) (hr : ∀ c a s1, J B n K ((i, .loc (B.b + c)) :: G) ((c, cl_ a) :: cs1) rest s1 (k a s1)) : J B n K G cs (bCons (sSet i te) rest) s (o.bind k) := fun env r q => by
  have z := h env r q
  have e : bCons (sSet i te) rest env (B.st s ++ r) = (te env (B.st s ++ r)).thenS fun w st1 => rest (env.set i (some w)) st1 := by
    unfold bCons sSet
    cases te env (B.st s ++ r) <;> rfl
  rw [e]
  cases o with
  | no => trivial
  | ex c fs s' => obtain ⟨r', e, k'⟩ := z; rw [e]; exact ⟨r', rfl, k'.cl⟩
  | ok l s1 =>
    obtain ⟨r1, e, k1, p1⟩ := z
    rw [e]
    exact hr r1.length l s1 _ _ ((k1.new rfl).set hi _)
theorem j_asg [En α] {g : TGv} {f : α → List (Nat × W)} {o : O σ α} {k : α → σ → O σ X} (hg : Tgt n g f) (h : E B n G cs cs1 te s o) (hr : ∀ a s1, J B n K (f a ++ G) cs1 rest s1 (k a s1)) : J B n K G cs (bCons (sAsg te g) rest) s (o.bind k) := fun env r q => by
  have e : bCons (sAsg te g) rest env (B.st s ++ r) = (te env (B.st s ++ r)).thenS fun w st1 => match g w env with
      | some env1 => rest env1 st1
      | none => .stuck := by
    unfold bCons sAsg
    cases te env (B.st s ++ r) with
    | ok w st1 => simp only [Res.thenS]; cases g w env <;> rfl
    | _ => rfl
  rw [e]
  refine (h env r q).thenS fun a s1 r1 _ k1 p1 => ?_
  obtain ⟨env', e2, l2, kk⟩ := hg a env k1.len
  rw [e2]
  exact hr a s1 _ _ (k1.inE l2 (kk G k1.var))
/-! lists that change -/
@[irreducible] def appO [En α] (l : List α) (a : α) (s : σ) : O σ (List α) := ofO (if small (l.length + 1) = true then some (l ++ [a]) else none) s
@[irreducible] def extO [En α] (l : List α) (a : List α) (s : σ) : O σ (List α) := ofO (if small (l.length + a.length) = true then some (l ++ a) else none) s
theorem j_app [En α] {i k p : Nat} {l : List α} {o : O σ α} {kk : List α → σ → O σ X} (hv : lk G i = some (.loc (B.b + k))) (h : E B n G cs cs1 te s o) (hc0 : (k, cl_ l) ∈ cs) (hp : cs1[p]? = some (k, cl_ l)) (hr : ∀ l' s1, J B n K G (cs1.set p (k, cl_ l')) rest s1 (kk l' s1)) :
    J B n K G cs (bCons (sExpr (eMut false cAppend (eVar i) (aCons te aNil))) rest) s (o.bind fun a s1 => (appO l a s1).bind kk) := fun env r q => by
  have ev : eVar i env (B.st s ++ r) = .ok (.loc (B.b + k)) (B.st s ++ r) := by
    unfold eVar
    rw [q.var i _ hv]
  have e : bCons (sExpr (eMut false cAppend (eVar i) (aCons te aNil))) rest env (B.st s ++ r) = (te env (B.st s ++ r)).thenS fun w st1 => (doCell cAppend (B.b + k) [w] st1).thenS fun _ st2 => rest env st2 := by
    unfold bCons sExpr eMut aCons aNil
    rw [ev]
    simp only [Res.bind]
    rw [if_pos (by rw [st_get, q.cell _ _ hc0]; rfl)]
    cases te env (B.st s ++ r) with
    | ok w st1 =>
      simp only [Res.bind, Res.thenS]
      cases doCell cAppend (B.b + k) [w] st1 <;> rfl
    | _ => rfl
  rw [e]
  refine (h env r q).thenS fun a s1 r1 _ k1 p1 => ?_
  unfold appO
  by_cases hs : small (l.length + 1) = true
  · rw [if_pos hs]
    have e2 : doCell cAppend (B.b + k) [w_ a] (B.st s1 ++ r1) = .ok (.f .non) (B.st s1 ++ r1.set k (cl_ (l ++ [a]))) := by
      unfold doCell
      rw [st_get, k1.cell _ _ (List.mem_of_getElem? hp)]
      show (match (if small ((l.map En.e).length + 1) = true then some (W.f .non, Cell.lstF (l.map En.e ++ [En.e a])) else none) with
        | some (w, c') => Res.ok w ((B.st s1 ++ r1).set (B.b + k) c')
        | none => .stuck) = _
      rw [if_pos (by rw [List.length_map]; exact hs)]
      show Res.ok (W.f .non) ((B.st s1 ++ r1).set (B.b + k) (Cell.lstF (l.map En.e ++ [En.e a]))) = _
      rw [st_set]
      simp [cl_]
    rw [e2]
    exact hr (l ++ [a]) s1 _ _ (k1.write hp rfl)
  · rw [if_neg hs]; trivial
@[irreducible] def setO [En α] (l : List α) (i : Int) (a : α) (s : σ) : O σ (List α) := ofO ((ixN l.length i).map fun j => l.set j a) s
theorem j_sub [En α] {i k p : Nat} {l : List α} {o : O σ α} {oi : σ → O σ Int} {kk : List α → σ → O σ X} (hv : lk G i = some (.loc (B.b + k))) (h : E B n G cs cs1 te s o) (h2 : ∀ s1, E B n G cs1 cs2 ta s1 (oi s1)) (hp : cs2[p]? = some (k, cl_ l)) (hr : ∀ l' s1, J B n K G (cs2.set p (k, cl_ l')) rest s1 (kk l' s1)) :
    J B n K G cs (bCons (sSub (eVar i) ta te) rest) s (o.bind fun a s1 => (oi s1).bind fun j s2 => (setO l j a s2).bind kk) := fun env r q => by
  have e : bCons (sSub (eVar i) ta te) rest env (B.st s ++ r) = (te env (B.st s ++ r)).thenS fun w st1 => (eVar i env st1).thenS fun o st2 => (ta env st2).thenS fun j st3 => match setI w st3 o j with
      | some st4 => rest env st4
      | none => .stuck := by
    unfold bCons sSub
    cases te env (B.st s ++ r) with
    | ok w st1 =>
      simp only [Res.thenS]
      cases eVar i env st1 with
      | ok o st2 =>
        simp only
        cases ta env st2 with
        | ok j st3 => simp only; cases setI w st3 o j <;> rfl
        | _ => rfl
      | _ => rfl
    | _ => rfl
  rw [e]
  refine (h env r q).thenS fun a s1 r1 _ k1 p1 => ?_
  have ev : eVar i env (B.st s1 ++ r1) = .ok (.loc (B.b + k)) (B.st s1 ++ r1) := by
    unfold eVar
    rw [k1.var i _ hv]
  rw [ev]
  refine (h2 s1 env r1 k1).thenS fun j s2 r2 _ k2 p2 => ?_
  unfold setO
  cases ej : ixN l.length j with
  | none => trivial
  | some jj =>
    have e2 : setI (w_ a) (B.st s2 ++ r2) (.loc (B.b + k)) (w_ j) = some (B.st s2 ++ r2.set k (cl_ (l.set jj a))) := by
      show ((B.st s2 ++ r2)[B.b + k]?).bind (fun c => (setC j (w_ a) c).map fun c' => (B.st s2 ++ r2).set (B.b + k) c') = _
      rw [st_get, k2.cell _ _ (List.mem_of_getElem? hp)]
      show ((ixN (l.map En.e).length j).map fun j => Cell.lstF ((l.map En.e).set j (En.e a))).map (fun c' => (B.st s2 ++ r2).set (B.b + k) c') = _
      rw [List.length_map, ej]
      simp only [Option.map_some]
      rw [st_set]
      simp [cl_, List.map_set]
    rw [e2]
    exact hr (l.set jj a) s2 _ _ (k2.write hp rfl)
/-! if -/
theorem ifD {env : Env} {st : Store} : bCons (sIf wa t1 t2) rest env st = (wa env st).thenS fun b st1 => if b = true then bCons t1 rest env st1 else bCons t2 rest env st1 := by
  unfold bCons sIf
  cases wa env st with
  | ok b st1 => cases b <;> rfl
  | _ => rfl
theorem j_if {o : O σ Bool} {o1 o2 : σ → O σ X} (hc : ET B n G cs cs1 wa s o) (h1 : ∀ s1, J B n K G cs1 (bCons t1 rest) s1 (o1 s1)) (h2 : ∀ s1, J B n K G cs1 (bCons t2 rest) s1 (o2 s1)) : J B n K G cs (bCons (sIf wa t1 t2) rest) s (o.bind fun b s1 => if b = true then o1 s1 else o2 s1) := fun env r q => by
  rw [ifD]
  refine (hc env r q).thenS fun b s1 r1 _ k1 p1 => ?_
  cases b with
  | true => exact h1 s1 env r1 k1
  | false => exact h2 s1 env r1 k1
theorem j_ifT {o : O σ X} (hc : ET B n G cs cs1 wa s (.ok true s)) (h1 : J B n K G cs1 (bCons t1 rest) s o) : J B n K G cs (bCons (sIf wa t1 t2) rest) s o := fun env r q => by
  rw [ifD]
  obtain ⟨r1, e, k1, p⟩ := hc env r q
  rw [e]
  exact h1 env r1 k1
theorem j_ifF {o : O σ X} (hc : ET B n G cs cs1 wa s (.ok false s)) (h1 : J B n K G cs1 (bCons t2 rest) s o) : J B n K G cs (bCons (sIf wa t1 t2) rest) s o := fun env r q => by
  rw [ifD]
  obtain ⟨r1, e, k1, p⟩ := hc env r q
  rw [e]
  exact h1 env r1 k1
/-- a block, then the rest of what goes on -/
theorem j_seq {o : O σ S} {k : S → σ → O σ X} (h : J B n (Kj B n oG oC) G cs t s o) (hr : ∀ v s1, J B n K (oG v) (oC v) rest s1 (k v s1)) : J B n K G cs (bCons t rest) s (o.bind k) := fun env r q => by
  have z := h env r q
  unfold bCons
  cases o with
  | no => trivial
  | ex c fs s' => obtain ⟨r', e, k'⟩ := z; rw [e]; exact ⟨r', rfl, k'⟩
  | ok v s1 =>
    obtain ⟨env', r', e, k'⟩ := z
    rw [e]
    exact hr v s1 env' r' k'
/-- both ways go on -/
theorem j_ifJ {o : O σ Bool} {o1 o2 : σ → O σ S} {k : S → σ → O σ X} (hc : ET B n G cs cs1 wa s o) (h1 : ∀ s1, J B n (Kj B n oG oC) G cs1 t1 s1 (o1 s1)) (h2 : ∀ s1, J B n (Kj B n oG oC) G cs1 t2 s1 (o2 s1)) (hr : ∀ v s1, J B n K (oG v) (oC v) rest s1 (k v s1)) :
    J B n K G cs (bCons (sIf wa t1 t2) rest) s (o.bind fun b s1 => (if b = true then o1 s1 else o2 s1).bind k) := fun env r q => by
  rw [ifD]
  refine (hc env r q).thenS fun b s1 r1 _ k1 p1 => ?_
  cases b with
  | true => exact j_seq (h1 s1) hr env r1 k1
  | false => exact j_seq (h2 s1) hr env r1 k1
/-! loops -/
def foldO (body : β → S → σ → O σ S) : List β → S → σ → O σ S
  | [], v, s => .ok v s
  | x :: xs, v, s => (body x v s).bind fun v1 s1 => foldO body xs v1 s1
def forO (body : β → S → σ → O σ (Fl S R)) : List β → S → σ → O σ (Fl S R)
  | [], v, s => .ok (.nx v) s
  | x :: xs, v, s => (body x v s).bind fun y s1 => match y with
    | .nx v1 => forO body xs v1 s1
    | .bk v1 => .ok (.nx v1) s1
    | .rt a => .ok (.rt a) s1
def flB (k : S → σ → O σ X) (f : R → X) : Fl S R → σ → O σ X := fun y s => match y with
  | .nx v => k v s
  | .bk v => k v s
  | .rt a => .ok (f a) s
theorem for_run [En β] {g : TGv} {f : β → List (Nat × W)} {body : β → S → σ → O σ S} (hg : Tgt n g f) (hb : ∀ x v s, J B n (Ks B n oG oC) (f x ++ oG v) (oC v) t s (body x v s)) :
    ∀ (xs : List β) (v : S) (s : σ), J B n (Kj B n oG oC) (oG v) (oC v) (forL g t (xs.map fun b => w_ b)) s (foldO body xs v s)
  | [], v, s => fun env r k => ⟨env, r, rfl, k⟩
  | x :: xs, v, s => fun env r k => by
    have ih := for_run hg hb xs
    obtain ⟨env', e, l', kk⟩ := hg x env k.len
    have k1 : Ok B.b n (f x ++ oG v) (oC v) env' r := k.inE l' (kk _ k.var)
    have z := hb x v s env' r k1
    rw [List.map_cons]
    unfold forL
    rw [e]
    unfold foldO
    cases eb : body x v s with
    | no => trivial
    | ex c fs s' => rw [eb] at z; obtain ⟨r', e', c'⟩ := z; simp only [e']; exact ⟨r', rfl, c'⟩
    | ok v1 s1 =>
      rw [eb] at z
      obtain ⟨env2, r2, e2, k2⟩ := z
      rcases e2 with e2 | e2
      · simp only [e2]; exact ih v1 s1 env2 r2 k2
      · simp only [e2]; exact ih v1 s1 env2 r2 k2
/-- a block with a loop's ends -/
def KF [En R] (B : Bs wr) (n : Nat) (oG : S → List (Nat × W)) (oC : S → List (Nat × Cell)) : Fl S R → σ → SR → Prop := fun x s sr => match x with
  | .nx v => ∃ env' r', sr = .nx env' (B.st s ++ r') ∧ Ok B.b n (oG v) (oC v) env' r'
  | .bk v => ∃ env' r', sr = .nx env' (B.st s ++ r') ∧ Ok B.b n (oG v) (oC v) env' r'
  | .rt a => ∃ r', sr = .rt (w_ a) (B.st s ++ r')
theorem for_runL [En β] [En R] {g : TGv} {f : β → List (Nat × W)} {body : β → S → σ → O σ (Fl S R)} (hg : Tgt n g f) (hb : ∀ x v s, J B n (Kl B n oG oC) (f x ++ oG v) (oC v) t s (body x v s)) :
    ∀ (xs : List β) (v : S) (s : σ), J B n (KF B n oG oC) (oG v) (oC v) (forL g t (xs.map fun b => w_ b)) s (forO body xs v s)
  | [], v, s => fun env r k => ⟨env, r, rfl, k⟩
  | x :: xs, v, s => fun env r k => by
    have ih := for_runL hg hb xs
    obtain ⟨env', e, l', kk⟩ := hg x env k.len
    have k1 : Ok B.b n (f x ++ oG v) (oC v) env' r := k.inE l' (kk _ k.var)
    have z := hb x v s env' r k1
    rw [List.map_cons]
    unfold forL
    rw [e]
    unfold forO
    cases eb : body x v s with
    | no => trivial
    | ex c fs s' => rw [eb] at z; obtain ⟨r', e', c'⟩ := z; simp only [e']; exact ⟨r', rfl, c'⟩
    | ok y s1 =>
      rw [eb] at z
      cases y with
      | nx v1 =>
        obtain ⟨env2, r2, e2, k2⟩ := z
        rcases e2 with e2 | e2
        · simp only [e2]; exact ih v1 s1 env2 r2 k2
        · simp only [e2]; exact ih v1 s1 env2 r2 k2
      | bk v1 => obtain ⟨env2, r2, e2, k2⟩ := z; simp only [e2]; exact ⟨env2, r2, rfl, k2⟩
      | rt a => obtain ⟨r2, e2⟩ := z; simp only [e2]; exact ⟨r2, rfl⟩
theorem j_seqF [En R] {o : O σ (Fl S R)} {k : S → σ → O σ X} {f : R → X} (hK : RetK B K f) (h : J B n (KF B n oG oC) G cs t s o) (hr : ∀ v s1, J B n K (oG v) (oC v) rest s1 (k v s1)) : J B n K G cs (bCons t rest) s (o.bind (flB k f)) := fun env r q => by
  have z := h env r q
  unfold bCons
  cases o with
  | no => trivial
  | ex c fs s' => obtain ⟨r', e, k'⟩ := z; rw [e]; exact ⟨r', rfl, k'⟩
  | ok y s1 =>
    cases y with
    | nx v => obtain ⟨env', r', e, k'⟩ := z; rw [e]; exact hr v s1 env' r' k'
    | bk v => obtain ⟨env', r', e, k'⟩ := z; rw [e]; exact hr v s1 env' r' k'
    | rt a => obtain ⟨r', e⟩ := z; rw [e]; exact hK a s1 r'
theorem forE {ti : TIv} {g : TGv} {env : Env} {st : Store} : bCons (sFor ti g t) rest env st = (ti env st).thenS fun ws st1 => bCons (forL g t ws) rest env st1 := by
  unfold bCons sFor
  cases ti env st <;> rfl
theorem j_for [En β] {ti : TIv} {g : TGv} {f : β → List (Nat × W)} {body : β → S → σ → O σ S} {v0 : S} {oi : O σ (List β)} {k : S → σ → O σ X} (hi : EI B n G cs cs1 ti s oi) (hg : Tgt n g f) (hb : ∀ x v s, J B n (Ks B n oG oC) (f x ++ oG v) (oC v) t s (body x v s))
    (h0 : Sub (oG v0) G) (hc0 : (oC v0).Sublist cs1) (hr : ∀ v s1, J B n K (oG v) (oC v) rest s1 (k v s1)) : J B n K G cs (bCons (sFor ti g t) rest) s (oi.bind fun xs s1 => (foldO body xs v0 s1).bind k) := fun env r q => by
  rw [forE]
  refine (hi env r q).thenS fun xs s1 r1 _ k1 p1 => ?_
  exact j_seq (for_run hg hb xs v0 s1) hr env r1 (k1.sub h0 hc0)
theorem j_forL [En β] [En R] {ti : TIv} {g : TGv} {f : β → List (Nat × W)} {body : β → S → σ → O σ (Fl S R)} {v0 : S} {oi : O σ (List β)} {k : S → σ → O σ X} {rf : R → X} (hK : RetK B K rf) (hi : EI B n G cs cs1 ti s oi) (hg : Tgt n g f) (hb : ∀ x v s, J B n (Kl B n oG oC) (f x ++ oG v) (oC v) t s (body x v s))
    (h0 : Sub (oG v0) G) (hc0 : (oC v0).Sublist cs1) (hr : ∀ v s1, J B n K (oG v) (oC v) rest s1 (k v s1)) : J B n K G cs (bCons (sFor ti g t) rest) s (oi.bind fun xs s1 => (forO body xs v0 s1).bind (flB k rf)) := fun env r q => by
  rw [forE]
  refine (hi env r q).thenS fun xs s1 r1 _ k1 p1 => ?_
  exact j_seqF hK (for_runL hg hb xs v0 s1) hr env r1 (k1.sub h0 hc0)
/-! defs -/
def argG : Nat → List W → List (Nat × W)
  | _, [] => []
  | i, w :: ws => (i, w) :: argG (i + 1) ws
theorem argG_get : ∀ (ws : List W) (i j : Nat) (w : W), lk (argG i ws) j = some w → i ≤ j ∧ ws[j - i]? = some w
  | [], i, j, w, h => by cases h
  | u :: ws, i, j, w, h => by
    unfold argG at h
    rw [lk_cons] at h
    cases e : Nat.beq i j with
    | true =>
      rw [e] at h; cases h
      cases Nat.eq_of_beq_eq_true e
      exact ⟨Nat.le_refl _, by simp⟩
    | false =>
      rw [e] at h
      obtain ⟨h1, h2⟩ := argG_get ws (i + 1) j w h
      refine ⟨by omega, ?_⟩
      rw [show j - i = (j - (i + 1)) + 1 from by omega]
      simpa using h2
theorem ok_start {b : Nat} {ws : List W} (hl : ws.length ≤ n) {r : Store} {cs : List (Nat × Cell)} (hr : clean (b + r.length) r = true) (hn : (cs.map Prod.fst).Nodup) (hc : ∀ k c, (k, c) ∈ cs → r[k]? = some c) : Ok b n (argG 0 ws) cs (ws.map some ++ List.replicate (n - ws.length) none) r := by
  refine ⟨by simp; omega, hr, hn, hc, fun i w h => ?_⟩
  obtain ⟨_, h2⟩ := argG_get ws 0 i w h
  have h2 : ws[i]? = some w := by simpa using h2
  have hi := (List.getElem?_eq_some_iff.mp h2).1
  rw [List.getElem?_append_left (by simp; exact hi), List.getElem?_map, h2]
  rfl
def mkB (wr : Wr σ) (rest : Store) (s : σ) (h : Cl (wr.put s rest)) : Bs wr := ⟨rest, fun s' => wr.cl s s' rest h, (wr.put s rest).length, fun s' => wr.len s' s rest⟩
theorem fn_ok [En R] [Ar A] {np : Nat} {d : A → σ → O σ R} (hw : ∀ a : A, (Ar.ws a).length = np) (hn : np ≤ n) (h : ∀ (B : Bs wr) (a : A) (s : σ), J B n (Kfn B) (argG 0 (Ar.ws a)) [] t s (d a s)) : FnG wr (fnM np n t) d := fun rest s a hcl => by
  have z := h (mkB wr rest s hcl) a s ((Ar.ws a).map some ++ List.replicate (n - (Ar.ws a).length) none) [] (ok_start (by rw [hw]; exact hn) (by simp [clean]) (by simp) (fun _ _ q => nomatch q))
  rw [List.append_nil] at z
  have e : fnM np n t (Ar.ws a) (wr.put s rest) = (match t ((Ar.ws a).map some ++ List.replicate (n - (Ar.ws a).length) none) (wr.put s rest) with
      | .rt w st1 => retW (wr.put s rest).length w st1
      | .nx _ st1 => retW (wr.put s rest).length (.f .non) st1
      | .exc c fs st1 => .exc c fs st1
      | _ => .stuck) := by
    unfold fnM runFn
    rw [if_pos (hw a)]
    all_goals (cases t ((Ar.ws a).map some ++ List.replicate (n - (Ar.ws a).length) none) (wr.put s rest) <;> rfl)
  rw [e]
  cases ed : d a s with
  | no => trivial
  | ex c fs s' =>
    rw [ed] at z
    obtain ⟨r', e1, e2⟩ := z
    simp only [show t _ (wr.put s rest) = _ from e1]
    refine ⟨r', rfl, ?_⟩
    have hb := wr.cl s s' rest hcl
    unfold Cl VS.clean at hb ⊢
    rw [List.all_append, Bool.and_eq_true, List.length_append]
    refine ⟨below_all (Nat.le_add_right _ _) hb, ?_⟩
    rw [wr.len s' s rest]
    exact e2
  | ok x s' =>
    rw [ed] at z
    have hb := wr.cl s s' rest hcl
    rcases z with ⟨r', e1⟩ | ⟨e0, env', r', e1⟩
    · simp only [show t _ (wr.put s rest) = _ from e1]
      rw [wr.len s s' rest]
      exact retW_tmp hb _ r'
    · simp only [show t _ (wr.put s rest) = _ from e1]
      rw [wr.len s s' rest]
      have z := retW_tmp hb .non r'
      rw [← e0] at z ⊢
      exact z
theorem fn_okP [En R] [Ar A] {np : Nat} {d : A → P R} (hw : ∀ a : A, (Ar.ws a).length = np) (hn : np ≤ n) (h : ∀ (B : Bs wU) (a : A) (s : Unit), J B n (Kfn B) (argG 0 (Ar.ws a)) [] t s (d a)) : FnP (fnM np n t) d := fn_ok hw hn fun B a s => h B a s
end
end TL

set_option Elab.async false
set_option linter.all false
set_option maxRecDepth 100000
set_option maxHeartbeats 4000000
set_option autoImplicit false
/-! T5: objects made as data; the operators. -/
namespace TL
open VS
open L2 (atI ixN)
section
variable {σ α β γ δ R X S A : Type} {wr : Wr σ} {B : Bs wr} {n : Nat} {G G' : List (Nat × W)} {cs cs1 cs2 cs3 : List (Nat × Cell)} {s : σ} {K : X → σ → SR → Prop} {oG : S → List (Nat × W)} {oC : S → List (Nat × Cell)} {rest t t1 t2 : TSv} {ta tb te : TEv} {wa : TTv} {tr : TAv} {T : Tab}
/-! ### __init__ -/
def fsW (fs : List (Nat × F)) : List (Nat × W) := fs.map fun p => (p.1, W.f p.2)
/-- self stands at place 0 -/
def Ki [En R] (c : Nat) (B : Bs wU) : R → Unit → SR → Prop := fun x _ sr => ∃ r' fs, ((∃ env', sr = .nx env' (B.rest ++ r')) ∨ sr = .rt (.f .non) (B.rest ++ r')) ∧ r'[0]? = some (.ins c (fsW fs)) ∧ (En.e x : F) = .obj c fs
theorem end_i [En R] {B : Bs wU} {c : Nat} {x : R} {fs : List (Nat × F)} (hm : (0, Cell.ins c (fsW fs)) ∈ cs) (he : (En.e x : F) = .obj c fs) : EndK B n (Ki c B) G cs x := fun env r s k => ⟨r, fs, .inl ⟨env, rfl⟩, k.cell _ _ hm, he⟩
theorem below_put {b i : Nat} {x : F} : ∀ {fs : List (Nat × W)}, (fs.all fun p => p.2.below b) = true → ((putA i (.f x) fs).all fun p => p.2.below b) = true
  | [], _ => rfl
  | (j, u) :: fs, h => by
    rw [List.all_cons, Bool.and_eq_true] at h
    unfold putA
    by_cases hj : j = i
    · rw [if_pos hj, List.all_cons, Bool.and_eq_true]; exact ⟨rfl, h.2⟩
    · rw [if_neg hj, List.all_cons, Bool.and_eq_true]; exact ⟨h.1, below_put h.2⟩
theorem j_attr [En α] {c i k p : Nat} {o : O σ α} {fs : List (Nat × W)} {kk : α → σ → O σ X} {i0 : Nat} (hv : lk G i0 = some (.loc (B.b + k))) (hT : T.okf c i = true) (hl : fs.length < 1000) (h : E B n G cs cs1 te s o) (hp : cs1[p]? = some (k, .ins c fs)) (hr : ∀ a s1, J B n K G (cs1.set p (k, .ins c (putA i (w_ a) fs))) rest s1 (kk a s1)) :
    J B n K G cs (bCons (sAttr T i (eVar i0) te) rest) s (o.bind kk) := fun env r q => by
  have e : bCons (sAttr T i (eVar i0) te) rest env (B.st s ++ r) = (te env (B.st s ++ r)).thenS fun w st1 => (eVar i0 env st1).thenS fun o st2 => match setA T i w st2 o with
      | some st3 => rest env st3
      | none => .stuck := by
    unfold bCons sAttr
    cases te env (B.st s ++ r) with
    | ok w st1 =>
      simp only [Res.thenS]
      cases eVar i0 env st1 with
      | ok o st2 => simp only; cases setA T i w st2 o <;> rfl
      | _ => rfl
    | _ => rfl
  rw [e]
  refine (h env r q).thenS fun a s1 r1 _ k1 p1 => ?_
  have ev : eVar i0 env (B.st s1 ++ r1) = .ok (.loc (B.b + k)) (B.st s1 ++ r1) := by
    unfold eVar
    rw [k1.var i0 _ hv]
  rw [ev]
  have hm := k1.cell _ _ (List.mem_of_getElem? hp)
  have e2 : setA T i (w_ a) (B.st s1 ++ r1) (.loc (B.b + k)) = some (B.st s1 ++ r1.set k (.ins c (putA i (w_ a) fs))) := by
    show (match (B.st s1 ++ r1)[B.b + k]? with
      | some (.ins c fs) => if T.okf c i = true ∧ fs.length < 1000 then some ((B.st s1 ++ r1).set (B.b + k) (Cell.ins c (putA i (w_ a) fs))) else none
      | _ => none) = _
    rw [st_get, hm]
    show (if T.okf c i = true ∧ fs.length < 1000 then some ((B.st s1 ++ r1).set (B.b + k) (Cell.ins c (putA i (w_ a) fs))) else none) = _
    rw [if_pos ⟨hT, hl⟩, st_set]
  have hb : Cell.below (B.b + r1.length) (.ins c fs) = true := List.all_eq_true.mp k1.cl _ (List.mem_of_getElem? hm)
  simp only [Res.thenS]
  rw [e2]
  exact hr a s1 _ _ (k1.write hp (below_put hb))
theorem deep_fs {b : Nat} {st : Store} {m : Nat} : ∀ fs : List (Nat × F), ((fsW fs).mapM fun p => (deepF b st m p.2).map fun x => (p.1, x)) = some fs
  | [] => rfl
  | (i, x) :: fs => by
    have ih := deep_fs (b := b) (st := st) (m := m) fs
    have e : deepF b st m (W.f x) = some x := by cases m <;> rfl
    show (((i, W.f x) :: fsW fs).mapM fun p => (deepF b st m p.2).map fun x => (p.1, x)) = _
    rw [List.mapM_cons, ih]
    simp [e]
theorem below_fs {b c : Nat} (fs : List (Nat × F)) : Cell.below b (.ins c (fsW fs)) = true := by
  show ((fsW fs).all fun p => p.2.below b) = true
  induction fs with
  | nil => rfl
  | cons p fs ih => exact ih
theorem mk_ok [En R] [Ar A] {np c : Nat} {d : A → P R} (hw : ∀ a : A, (Ar.ws a).length + 1 = np) (hn : np ≤ n) (h : ∀ (B : Bs wU) (a : A) (s : Unit), J B n (Ki c B) (argG 0 (.loc (B.b + 0) :: Ar.ws a)) [(0, .ins c [])] t s (d a)) : FnP (mkF c (fnM np n t)) d := fun rest s a hcl => by
  have hcl : Cl rest := hcl
  have z := h (mkB wU rest () hcl) a () ((W.loc (rest.length + 0) :: Ar.ws a).map some ++ List.replicate (n - (W.loc (rest.length + 0) :: Ar.ws a).length) none) [.ins c []] (ok_start (by rw [List.length_cons, hw]; exact hn) (by simp [clean, Cell.below]) (by simp) (fun k c' q => by simp at q; obtain ⟨rfl, rfl⟩ := q; rfl))
  have z : RlS (mkB wU rest () hcl) (Ki c (mkB wU rest () hcl)) (t ((W.loc (rest.length + 0) :: Ar.ws a).map some ++ List.replicate (n - (W.loc (rest.length + 0) :: Ar.ws a).length) none) (rest ++ [.ins c []])) (d a) := z
  rw [Nat.add_zero] at z
  have e : fnM np n t (W.loc rest.length :: Ar.ws a) (rest ++ [.ins c []]) = (match t ((W.loc rest.length :: Ar.ws a).map some ++ List.replicate (n - (W.loc rest.length :: Ar.ws a).length) none) (rest ++ [.ins c []]) with
      | .rt w st1 => retW (rest ++ [Cell.ins c []]).length w st1
      | .nx _ st1 => retW (rest ++ [Cell.ins c []]).length (.f .non) st1
      | .exc c fs st1 => .exc c fs st1
      | _ => .stuck) := by
    unfold fnM runFn
    rw [if_pos (by rw [List.length_cons]; exact hw a)]
    all_goals (cases t ((W.loc rest.length :: Ar.ws a).map some ++ List.replicate (n - (W.loc rest.length :: Ar.ws a).length) none) (rest ++ [.ins c []]) <;> rfl)
  dsimp only
  cases ed : d a with
  | no => trivial
  | ex c' fs s' =>
    rw [ed] at z
    obtain ⟨r', e1, e2⟩ := z
    refine ⟨r', ?_, ?_⟩
    · show mkF c (fnM np n t) (Ar.ws a) rest = .exc c' fs (rest ++ r')
      unfold mkF
      rw [e, e1]
      rfl
    · show Cl (rest ++ r')
      unfold Cl VS.clean at hcl ⊢
      rw [List.all_append, Bool.and_eq_true, List.length_append]
      exact ⟨below_all (Nat.le_add_right _ _) hcl, e2⟩
  | ok x s' =>
    rw [ed] at z
    obtain ⟨r', fs, e1, e2, e3⟩ := z
    have e1 : (∃ env', t ((W.loc rest.length :: Ar.ws a).map some ++ List.replicate (n - (W.loc rest.length :: Ar.ws a).length) none) (rest ++ [.ins c []]) = .nx env' (rest ++ r')) ∨ t ((W.loc rest.length :: Ar.ws a).map some ++ List.replicate (n - (W.loc rest.length :: Ar.ws a).length) none) (rest ++ [.ins c []]) = .rt (.f .non) (rest ++ r') := e1
    obtain ⟨r2, rfl⟩ : ∃ r2, r' = .ins c (fsW fs) :: r2 := by
      cases r' with
      | nil => cases e2
      | cons y r2 => simp at e2; subst e2; exact ⟨r2, rfl⟩
    have hc1 : Cl (rest ++ [Cell.ins c (fsW fs)]) := by
      unfold Cl VS.clean at hcl ⊢
      rw [List.all_append, Bool.and_eq_true, List.length_append]
      refine ⟨below_all (Nat.le_add_right _ _) hcl, ?_⟩
      rw [List.all_cons, below_fs]; rfl
    have er : retW (rest ++ [Cell.ins c []]).length (.f .non) (rest ++ .ins c (fsW fs) :: r2) = .ok (.f .non) (rest ++ [.ins c (fsW fs)]) := by
      have := retW_tmp hc1 .non r2
      rw [List.length_append, List.append_assoc] at this
      rw [List.length_append]
      exact this
    have e4 : fnM np n t (W.loc rest.length :: Ar.ws a) (rest ++ [.ins c []]) = .ok (.f .non) (rest ++ [.ins c (fsW fs)]) := by
      rw [e]
      rcases e1 with ⟨env', e1⟩ | e1
      · rw [e1]; exact er
      · rw [e1]; exact er
    show mkF c (fnM np n t) (Ar.ws a) rest = .ok (w_ x) rest
    unfold mkF
    rw [e4]
    show frz rest.length (.loc rest.length) (rest ++ [.ins c (fsW fs)]) = _
    have e5 : deepF rest.length (rest ++ [.ins c (fsW fs)]) 3 (.loc rest.length) = some (.obj c fs) := by
      unfold deepF
      rw [if_pos (Nat.le_refl _), last_get]
      show ((fsW fs).mapM fun p => (deepF rest.length (rest ++ [.ins c (fsW fs)]) 2 p.2).map fun x => (p.1, x)).map (F.obj c) = _
      rw [deep_fs]; rfl
    unfold frz
    rw [e5]
    simp only [List.take_left]
    rw [if_pos hcl, ← e3]
end
end TL

set_option Elab.async false
set_option linter.all false
set_option maxRecDepth 100000
set_option maxHeartbeats 4000000
set_option autoImplicit false
/-! T6: the operators. -/
namespace TL
open VS
open L2 (atI ixN)
section
variable {σ α β γ δ R : Type}
/-! ### numbers -/
theorem o_addI : Op2T addF fun (a b : Int) => some (a + b) := fun a b c h => by cases h; rfl
theorem o_subI : Op2T subF fun (a b : Int) => some (a - b) := fun a b c h => by cases h; rfl
@[irreducible] def mulO (i j : Int) : Option Int := if (inRg 18446744073709551615 i || (inRg 18446744073709551615 j || Nat.ble (bitsI i + bitsI j) 999999)) = true then some (i * j) else none
theorem o_mulI : Op2T mulF mulO := fun a b c h => by
  unfold mulO at h
  obtain ⟨hs, rfl⟩ := ifSome h
  rw [Bool.or_eq_true, Bool.or_eq_true, inRg_iff, inRg_iff, Nat.ble_eq] at hs
  refine if_pos ?_
  rcases hs with hs | hs | hs
  · exact .inl (by simp only [Bool.and_eq_true, decide_eq_true_eq]; omega)
  · exact .inr (.inl (by simp only [Bool.and_eq_true, decide_eq_true_eq]; omega))
  · exact .inr (.inr (by omega))
theorem mulO_ok {i j : Int} (h : -(2 ^ 64) < i ∧ i < 2 ^ 64 ∨ -(2 ^ 64) < j ∧ j < 2 ^ 64) : mulO i j = some (i * j) := by
  unfold mulO
  refine if_pos ?_
  rw [Bool.or_eq_true, Bool.or_eq_true, inRg_iff, inRg_iff]
  rcases h with h | h
  · exact .inl (by omega)
  · exact .inr (.inl (by omega))
@[irreducible] def divO (i j : Int) : Option Int := if 0 < j ∧ bitsI j < 9000 then some (i / j) else none
theorem o_divI : Op2T fdivF divO := fun a b c h => by
  unfold divO at h
  obtain ⟨hs, rfl⟩ := ifSome h
  exact if_pos hs
theorem log2_64 {n : Nat} (h : n < 2 ^ 64) : n.log2 < 9000 := by
  by_cases q : n = 0
  · subst q; decide
  · have h1 := (Nat.log2_lt q (k := 64)).mpr h
    omega
theorem divO_ok {i j : Int} (h : 0 < j) (h' : j < 2 ^ 64) : divO i j = some (i / j) := by
  unfold divO
  exact if_pos ⟨h, log2_64 (by omega)⟩
@[irreducible] def modO (i j : Int) : Option Int := if 0 < j then some (i % j) else none
theorem o_modI : Op2T modF modO := fun a b c h => by
  unfold modO at h
  obtain ⟨hs, rfl⟩ := ifSome h
  exact if_pos hs
theorem modO_ok {i j : Int} (h : 0 < j) : modO i j = some (i % j) := by
  unfold modO
  exact if_pos h
@[irreducible] def powO (i j : Int) : Option Int := if (posB j && (inRg 1000 j && inRg 18446744073709551615 i)) = true then some (i ^ j.toNat) else none
theorem o_powI : Op2T powF powO := fun a b c h => by
  unfold powO at h
  obtain ⟨hs, rfl⟩ := ifSome h
  rw [Bool.and_eq_true, Bool.and_eq_true, inRg_iff, inRg_iff, posB_iff] at hs
  exact if_pos ⟨hs.1, by omega, by omega⟩
theorem powO_ok {i : Int} {j : Nat} (hj : j ≤ 1000) (hi : i.natAbs < 2 ^ 64) : powO i j = some (i ^ j) := by
  unfold powO
  rw [if_pos (by rw [Bool.and_eq_true, Bool.and_eq_true, inRg_iff, inRg_iff, posB_iff]; omega)]
  rfl
theorem o_neg : Op1T negF fun (a : Int) => some (-a) := fun a c h => by cases h; rfl
theorem o_lt : Op2T ltF fun (a b : Int) => some (decide (a < b)) := fun a b c h => by cases h; rfl
theorem o_le : Op2T leF fun (a b : Int) => some (decide (a ≤ b)) := fun a b c h => by cases h; rfl
theorem o_gt : Op2T gtF fun (a b : Int) => some (decide (b < a)) := fun a b c h => by cases h; rfl
theorem o_ge : Op2T geF fun (a b : Int) => some (decide (b ≤ a)) := fun a b c h => by cases h; rfl
theorem o_intI : Op1T intF fun (a : Int) => some a := fun a c h => by cases h; rfl
@[irreducible] def lenRg (a : Int) : Option Int := if Nat.ble a.toNat 4611686018427387903 = true then some ((a.toNat : Nat) : Int) else none
/-! ### texts and lists -/
@[irreducible] def addS (a b : List Nat) : Option (List Nat) := if small (a.length + b.length) = true then some (a ++ b) else none
theorem o_addS : Op2T addF addS := fun a b c h => by
  unfold addS at h
  obtain ⟨hs, rfl⟩ := ifSome h
  exact if_pos hs
@[irreducible] def addL (a b : List α) : Option (List α) := if small (a.length + b.length) = true then some (a ++ b) else none
theorem o_addL [En α] : Op2T addF (addL (α := α)) := fun a b c h => by
  unfold addL at h
  obtain ⟨hs, rfl⟩ := ifSome h
  show (if small ((a.map En.e).length + (b.map En.e).length) = true then some (F.lst (a.map En.e ++ b.map En.e)) else none) = _
  rw [if_pos (by rw [List.length_map, List.length_map]; exact hs), ← List.map_append]
  rfl
@[irreducible] def mulS (a : List Nat) (k : Int) : Option (List Nat) := if decide (-1000000 ≤ k) = true ∧ decide (k ≤ 1000000) = true ∧ small (a.length * k.toNat) = true then some (repS k a) else none
theorem o_mulS : Op2T mulF mulS := fun a b c h => by
  unfold mulS at h
  obtain ⟨hs, rfl⟩ := ifSome h
  exact if_pos hs
@[irreducible] def mulL (a : List α) (k : Int) : Option (List α) := if decide (-1000000 ≤ k) = true ∧ decide (k ≤ 1000000) = true ∧ small (a.length * k.toNat) = true then some (List.replicate k.toNat a).flatten else none
theorem o_mulL [En α] : Op2T mulF (mulL (α := α)) := fun a b c h => by
  unfold mulL at h
  obtain ⟨hs, rfl⟩ := ifSome h
  show (if decide (-1000000 ≤ b) = true ∧ decide (b ≤ 1000000) = true ∧ small ((a.map En.e).length * b.toNat) = true then some (F.lst (List.replicate b.toNat (a.map En.e)).flatten) else none) = _
  rw [if_pos (by rw [List.length_map]; exact hs)]
  show some (F.lst _) = some (F.lst _)
  rw [List.map_flatten, List.map_replicate]
theorem o_lenL [En α] : Op1T lenF fun (l : List α) => some (l.length : Int) := fun a c h => by
  cases h
  show some (F.int ((a.map En.e).length : Nat)) = _
  rw [List.length_map]; rfl
theorem o_lenP [En α] [En β] : Op1T lenF fun (_ : α × β) => some (2 : Int) := fun a c h => by cases h; rfl
@[irreducible] def lenS (l : List Nat) : Option Int := if small l.length = true then some (l.length : Int) else none
theorem o_lenS : Op1T lenF lenS := fun a c h => by
  unfold lenS at h
  obtain ⟨hs, rfl⟩ := ifSome h
  exact if_pos hs
theorem lenS_ok {l : List Nat} (h : l.length ≤ 1000000) : lenS l = some (l.length : Int) := by
  unfold lenS
  exact if_pos (decide_eq_true h)
theorem blsOf_e (l : List Bool) : blsOf (l.map En.e) = some l := blsOf_map l
theorem strsOf_e (l : List (List Nat)) : strsOf (l.map En.e) = some l := strsOf_map l
theorem strsOf_ch (l : List Ch) : strsOf (l.map En.e) = some (l.map fun c => [c.c]) := by
  have := strsOf_map (l.map fun c => [c.c])
  rw [List.map_map] at this
  exact this
theorem o_all : Op1T allB fun (l : List Bool) => some (l.all id) := fun a c h => by
  cases h
  show (blsOf (a.map En.e)).map _ = _
  rw [blsOf_e]; rfl
@[irreducible] def joinS (sep : List Nat) (ts : List (List Nat)) : Option (List Nat) := if small ((ts.map List.length).sum + ts.length * sep.length) = true then some (VS.joinL sep ts) else none
theorem o_joinS : OpMT "str" joinF joinS := ⟨fun _ => rfl, fun a b c h => by
  unfold joinS at h
  obtain ⟨hs, rfl⟩ := ifSome h
  show (strsOf (b.map En.e)).bind _ = _
  rw [strsOf_e, Option.bind_some]
  rw [if_pos hs]; rfl⟩
def joinCh (sep : List Nat) (ts : List Ch) : Option (List Nat) := joinS sep (ts.map fun c => [c.c])
theorem o_joinCh : OpMT "str" joinF joinCh := ⟨fun _ => rfl, fun a b c h => by
  unfold joinCh joinS at h
  obtain ⟨hs, rfl⟩ := ifSome h
  show (strsOf (b.map En.e)).bind _ = _
  rw [strsOf_ch, Option.bind_some]
  rw [if_pos hs]; rfl⟩
@[irreducible] def sidx (l : List Nat) (c : Ch) : Option Int := match sidxF (.str l) [.str [c.c]] with
  | some (.int i) => some i
  | _ => none
/-! in -/
theorem o_inCh : Op2T inF fun (c : Ch) (z : List Nat) => some (decide (c.c ∈ z)) := fun a b c h => by cases h; rfl
/-! is None -/
class NN (α : Type) [En α] where
  nn : ∀ a : α, isNF (En.e a) .non = some (.bl false)
instance : NN Int := ⟨fun _ => rfl⟩
instance : NN Bool := ⟨fun _ => rfl⟩
instance : NN Ch := ⟨fun _ => rfl⟩
instance : NN (List Nat) := ⟨fun _ => rfl⟩
instance {α : Type} [En α] : NN (List α) := ⟨fun _ => rfl⟩
instance {α : Type} [En α] : NN (Tu α) := ⟨fun _ => rfl⟩
instance {α β : Type} [En α] [En β] : NN (α × β) := ⟨fun _ => rfl⟩
instance {α β γ : Type} [En α] [En β] [En γ] : NN (T3 α β γ) := ⟨fun _ => rfl⟩
instance {α β γ δ : Type} [En α] [En β] [En γ] [En δ] : NN (T4 α β γ δ) := ⟨fun _ => rfl⟩
theorem o_isO [En α] [NN α] : Op2T isNF fun (o : Option α) (_ : Unit) => some o.isNone := fun a b c h => by
  cases h
  cases a with
  | none => rfl
  | some a => exact NN.nn a
/-! equality -/
theorem o_eqI : Op2T eqF fun (a b : Int) => some (decide (a = b)) := fun a b c h => by cases h; rfl
theorem o_eqS : Op2T eqF fun (a b : List Nat) => some (decide (a = b)) := fun a b c h => by cases h; rfl
theorem dec_ch (a b : Ch) : decide ([a.c] = [b.c]) = decide (a = b) := by
  obtain ⟨a⟩ := a; obtain ⟨b⟩ := b
  simp
theorem o_eqC : Op2T eqF fun (a b : Ch) => some (decide (a = b)) := fun a b c h => by
  cases h
  show some (F.bl (decide ([a.c] = [b.c]))) = _
  rw [dec_ch]; rfl
theorem ne_of {op : α → β → Option Bool} [En α] [En β] (h : Op2T eqF op) : Op2T neF fun a b => (op a b).map fun c => !c := fun a b c q => by
  obtain ⟨d, e, rfl⟩ := opt_map_some q
  have z := h a b d e
  obtain ⟨b', e1, e2⟩ := opt_map_some (show (eqB (En.e a) (En.e b)).map F.bl = some (F.bl d) from z)
  cases e2
  show (eqB (En.e a) (En.e b)).map _ = _
  rw [e1]; rfl
theorem S_beq (a b : List Nat) : (VS.S a == VS.S b) = decide (a = b) := by
  by_cases e : a = b
  · subst e; simp
  · rw [beq_eq_false_iff_ne.mpr (fun q => e (S_inj.mp q)), decide_eq_false e]
/-- data whose == is equality -/
class EqT (α : Type) [En α] [DecidableEq α] where
  d : α → PySem.PyData
  ok : α → Bool
  dep : Nat
  toD : ∀ a, VS.toD (En.e a) = some (d a)
  lay : ∀ a, ok a = true → (d a).canLay0 = true
  depth : ∀ a, (d a).depth ≤ dep
  eqv : ∀ a b, PySem.PyData.eqv (d a) (d b) = decide (a = b)
instance : EqT Int := ⟨.int, fun _ => true, 0, fun _ => rfl, fun _ _ => by simp [PySem.PyData.canLay0], fun _ => by simp [PySem.PyData.depth], fun a b => by simp [PySem.PyData.eqv]; rfl⟩
instance : EqT Bool := ⟨.bool, fun _ => true, 0, fun _ => rfl, fun _ _ => by simp [PySem.PyData.canLay0], fun _ => by simp [PySem.PyData.depth], fun a b => by simp [PySem.PyData.eqv]; rfl⟩
instance : EqT (List Nat) := ⟨fun s => .str (S s), fun s => s.all (· < 0x110000), 0, fun _ => rfl, fun s h => by simp only [PySem.PyData.canLay0, PySem.PyData.strOk, S]; simpa using h, fun _ => by simp [PySem.PyData.depth], fun a b => by simp only [PySem.PyData.eqv]; exact S_beq a b⟩
instance : EqT Ch := ⟨fun s => .str (S [s.c]), fun s => decide (s.c < 0x110000), 0, fun _ => rfl, fun s h => by simp only [PySem.PyData.canLay0, PySem.PyData.strOk, S]; simpa using h, fun _ => by simp [PySem.PyData.depth], fun a b => by rw [← dec_ch]; simp only [PySem.PyData.eqv]; exact S_beq _ _⟩
end
section
variable {α β γ δ : Type} [En α] [DecidableEq α] [EqT α] [En β] [DecidableEq β] [EqT β] [En γ] [DecidableEq γ] [EqT γ] [En δ] [DecidableEq δ] [EqT δ]
theorem toDs_e : ∀ l : List α, toDs (l.map En.e) = some (l.map EqT.d)
  | [] => rfl
  | x :: l => by
    show (VS.toD (En.e x)).bind _ = _
    rw [EqT.toD x]
    show (toDs (l.map En.e)).map _ = _
    rw [toDs_e l]; rfl
theorem lay_all : ∀ l : List α, l.all EqT.ok = true → PySem.PyData.canLayAll0 (l.map EqT.d) = true
  | [], _ => by simp [PySem.PyData.canLayAll0]
  | x :: l, h => by
    rw [List.all_cons, Bool.and_eq_true] at h
    simp [PySem.PyData.canLayAll0, EqT.lay x h.1, lay_all l h.2]
theorem depth_all : ∀ l : List α, PySem.PyData.depthAll (l.map EqT.d) ≤ EqT.dep α
  | [] => by simp [PySem.PyData.depthAll]
  | x :: l => by
    simp only [List.map_cons, PySem.PyData.depthAll]
    have := EqT.depth x
    have := depth_all l
    omega
theorem eqv_all : ∀ l m : List α, PySem.PyData.eqvAll (l.map EqT.d) (m.map EqT.d) = decide (l = m)
  | [], [] => by simp [PySem.PyData.eqvAll]
  | [], _ :: _ => by simp [PySem.PyData.eqvAll]
  | _ :: _, [] => by simp [PySem.PyData.eqvAll]
  | x :: l, y :: m => by
    simp only [List.map_cons, PySem.PyData.eqvAll, EqT.eqv x y, eqv_all l m, List.cons.injEq, Bool.decide_and]
instance : EqT (List α) := ⟨fun l => .list (l.map EqT.d), fun l => l.all EqT.ok, EqT.dep α + 1, fun l => by
    show (toDs (l.map En.e)).map _ = _
    rw [toDs_e]; rfl, fun l h => by simpa [PySem.PyData.canLay0] using lay_all l h, fun l => by
    have := depth_all l
    simp only [PySem.PyData.depth]; omega, fun a b => by simp only [PySem.PyData.eqv]; exact eqv_all a b⟩
instance : EqT (Tu α) := ⟨fun l => .tuple (l.l.map EqT.d), fun l => l.l.all EqT.ok, EqT.dep α + 1, fun l => by
    show (toDs (l.l.map En.e)).map _ = _
    rw [toDs_e]; rfl, fun l h => by simpa [PySem.PyData.canLay0] using lay_all l.l h, fun l => by
    have := depth_all l.l
    simp only [PySem.PyData.depth]; omega, fun a b => by
      simp only [PySem.PyData.eqv]; rw [eqv_all a.l b.l]
      cases a; cases b; simp⟩
instance : EqT (α × β) := ⟨fun p => .tuple [EqT.d p.1, EqT.d p.2], fun p => EqT.ok p.1 && EqT.ok p.2, max (EqT.dep α) (EqT.dep β) + 1, fun p => by
    show (toDs [En.e p.1, En.e p.2]).map _ = _
    simp [toDs, EqT.toD p.1, EqT.toD p.2], fun p h => by
    rw [Bool.and_eq_true] at h
    simp [PySem.PyData.canLay0, PySem.PyData.canLayAll0, EqT.lay _ h.1, EqT.lay _ h.2], fun p => by
    have := EqT.depth p.1; have := EqT.depth p.2
    simp only [PySem.PyData.depth, PySem.PyData.depthAll]; omega, fun a b => by
      obtain ⟨a1, a2⟩ := a; obtain ⟨b1, b2⟩ := b
      simp [PySem.PyData.eqv, PySem.PyData.eqvAll, EqT.eqv]⟩
instance : EqT (T3 α β γ) := ⟨fun p => .tuple [EqT.d p.a, EqT.d p.b, EqT.d p.c], fun p => EqT.ok p.a && (EqT.ok p.b && EqT.ok p.c), max (EqT.dep α) (max (EqT.dep β) (EqT.dep γ)) + 1, fun p => by
    show (toDs [En.e p.a, En.e p.b, En.e p.c]).map _ = _
    simp [toDs, EqT.toD p.a, EqT.toD p.b, EqT.toD p.c], fun p h => by
    rw [Bool.and_eq_true, Bool.and_eq_true] at h
    simp [PySem.PyData.canLay0, PySem.PyData.canLayAll0, EqT.lay _ h.1, EqT.lay _ h.2.1, EqT.lay _ h.2.2], fun p => by
    have := EqT.depth p.a; have := EqT.depth p.b; have := EqT.depth p.c
    simp only [PySem.PyData.depth, PySem.PyData.depthAll]; omega, fun a b => by
      obtain ⟨a1, a2, a3⟩ := a; obtain ⟨b1, b2, b3⟩ := b
      simp [PySem.PyData.eqv, PySem.PyData.eqvAll, EqT.eqv]⟩
@[irreducible] def eqO (a b : α) : Option Bool := if EqT.ok a = true ∧ EqT.ok b = true then some (decide (a = b)) else none
theorem o_eq (hd : EqT.dep α ≤ 64) : Op2T eqF (eqO (α := α)) := fun a b c h => by
  unfold eqO at h
  obtain ⟨⟨h1, h2⟩, rfl⟩ := ifSome h
  have e1 := EqT.toD a
  have e2 := EqT.toD b
  have key : eqD (En.e a) (En.e b) = some (decide (a = b)) := by
    unfold eqD
    rw [e1, e2]
    have s1 : PySem.SeqAt.shaped (EqT.d a) = true := by unfold PySem.SeqAt.shaped; rw [EqT.lay a h1]; simpa using Nat.le_trans (EqT.depth a) hd
    have s2 : PySem.SeqAt.shaped (EqT.d b) = true := by unfold PySem.SeqAt.shaped; rw [EqT.lay b h2]; simpa using Nat.le_trans (EqT.depth b) hd
    simp [s1, s2, EqT.eqv]
  show (eqB (En.e a) (En.e b)).map F.bl = _
  have : eqB (En.e a) (En.e b) = some (decide (a = b)) := by
    have ev := EqT.eqv a b
    generalize (En.e a : F) = x at e1 key
    generalize (En.e b : F) = y at e2 key
    unfold eqB
    split
    · rename_i i j
      have h1 : PySem.PyData.int i = EqT.d a := Option.some.inj e1
      have h2 : PySem.PyData.int j = EqT.d b := Option.some.inj e2
      rw [← ev, ← h1, ← h2]; simp only [PySem.PyData.eqv]; rfl
    · rename_i i j
      have h1 : PySem.PyData.str (S i) = EqT.d a := Option.some.inj e1
      have h2 : PySem.PyData.str (S j) = EqT.d b := Option.some.inj e2
      rw [← ev, ← h1, ← h2]; simp only [PySem.PyData.eqv]; rw [S_beq]
    · rename_i i j
      have h1 : PySem.PyData.bool i = EqT.d a := Option.some.inj e1
      have h2 : PySem.PyData.bool j = EqT.d b := Option.some.inj e2
      rw [← ev, ← h1, ← h2]; simp only [PySem.PyData.eqv]; rfl
    · exact key
  rw [this]; rfl
end
/-! slices -/
section
variable {σ α : Type} {wr : Wr σ} {B : Bs wr} {n : Nat} {G : List (Nat × W)} {cs cs1 cs2 cs3 : List (Nat × Cell)} {s : σ} {ta te : TEv} {tl th : TOv}
def EO (B : Bs wr) (n : Nat) (G : List (Nat × W)) (cs cs' : List (Nat × Cell)) (t : TOv) (s : σ) (o : O σ (Option Int)) : Prop :=
  ∀ env r, Ok B.b n G cs env r → Rl B n G cs' env r (fun a => a) (t env (B.st s ++ r)) o
theorem o_no : EO B n G cs cs oNone s (.ok none s) := fun env r k => Rl.mk rfl k .refl
theorem o_so {o : O σ Int} (h : E B n G cs cs1 te s o) : EO B n G cs cs1 (oSome te) s (o.bind fun i s1 => .ok (some i) s1) := fun env r k => by
  refine (h env r k).bind fun i s1 r1 _ k1 hl => ?_
  exact Rl.mk rfl k1 hl
def SlT [En α] (op : Option Int → Option Int → α → Option α) : Prop := ∀ lo hi a c, op lo hi a = some c → slF lo hi (En.e a) = some (En.e c)
theorem e_sl [En α] {op : Option Int → Option Int → α → Option α} {o1 : O σ α} {o2 o3 : σ → O σ (Option Int)} (hs : SlT op) (h1 : EL B n G cs cs1 ta s o1) (h2 : ∀ s1, EO B n G cs1 cs1 tl s1 (o2 s1)) (h3 : ∀ s1, EO B n G cs1 cs1 th s1 (o3 s1)) :
    E B n G cs cs1 (eSl ta tl th) s (o1.bind fun a s1 => (o2 s1).bind fun lo s2 => (o3 s2).bind fun hi s3 => ofO (op lo hi a) s3) := fun env r k => by
  refine h1.bind k fun a s1 w r1 k1 hl1 hw => ?_
  refine Rl.up hl1 ?_
  refine (h2 s1 env r1 k1).bind fun lo s2 r2 _ k2 hl2 => ?_
  refine Rl.up hl2 ?_
  refine (h3 s2 env r2 k2).bind fun hi s3 r3 _ k3 hl3 => ?_
  refine Rl.opt (fun c hc => ?_) k3 hl3
  show lk1 (slF lo hi) w _ = _
  unfold lk1
  rw [hw s3 r3 env k3]
  show ofOpt (slF lo hi (En.e a)) _ = _
  rw [hs lo hi a c hc]; rfl
theorem cutL_map {α β : Type} (f : α → β) (l : List α) (lo hi : Option Int) : cutL (l.map f) lo hi = (cutL l lo hi).map f := by
  unfold cutL
  rw [List.length_map, ← List.map_drop, ← List.map_take]
theorem sl_lst [En α] : SlT fun lo hi (l : List α) => some (cutL l lo hi) := fun lo hi a c h => by
  cases h
  show some (F.lst (cutL (a.map En.e) lo hi)) = _
  rw [cutL_map]; rfl
@[irreducible] def slS (lo hi : Option Int) (l : List Nat) : Option (List Nat) := if small l.length = true then some (cutL l lo hi) else none
theorem sl_str : SlT slS := fun lo hi a c h => by
  unfold slS at h
  obtain ⟨hs, rfl⟩ := ifSome h
  exact if_pos hs
end
end TL

set_option Elab.async false
set_option linter.all false
set_option maxRecDepth 100000
set_option maxHeartbeats 4000000
set_option autoImplicit false
/-! T7: further rules; the spring of draws as a state. -/
namespace TL
open VS
open L2 (atI ixN)
section
variable {σ α β γ δ R X S A : Type} {wr : Wr σ} {B : Bs wr} {n : Nat} {G G' : List (Nat × W)} {cs cs1 cs2 cs3 : List (Nat × Cell)} {s : σ} {K : X → σ → SR → Prop} {rest t t1 t2 : TSv} {ta tb te : TEv} {wa : TTv} {tr : TAv} {T : Tab}
theorem j_retI [En R] {K : R → σ → SR → Prop} {o : O σ R} (hK : RetK B K fun a : R => a) (h : E B n G cs cs1 te s o) : J B n K G cs (bCons (sRet te) rest) s o := by
  have q := j_ret (rest := rest) hK h
  rw [bind_pure] at q
  exact q
theorem co_none [En α] : ∀ a : Unit, (En.e (none : Option α) : F) = En.e a := fun _ => rfl
end
/-! ### the spring -/
structure Sp where
  cells : List Int
  big : Int
  cnt : Int
  mix : Int
def spS (s : Sp) : Store := [.lstF (s.cells.map F.int), .lstW [.loc 0, .f (.int s.big), .f (.int s.cnt), .f (.int s.mix)]]
def wS : Wr Sp := ⟨fun s r => spS s ++ r, fun _ _ _ => by simp [spS], fun s s' r h => by
    unfold Cl clean at h ⊢
    rw [List.all_append, Bool.and_eq_true] at h ⊢
    refine ⟨?_, ?_⟩
    · simp [spS, Cell.below, W.below]
    · have := h.2
      simpa [spS] using this, fun s r t => by simp [List.append_assoc]⟩
/-- the spring as an argument -/
structure Rs where
instance {A : Type} [Ar A] : Ar (Rs × A) := ⟨fun p => W.loc 1 :: Ar.ws p.2⟩
section
variable {α β X A : Type} {B : Bs wS} {n : Nat} {G : List (Nat × W)} {cs cs1 cs2 : List (Nat × Cell)} {s : Sp} {K : X → Sp → SR → Prop} {rest t : TSv} {ta tb te : TEv} {tr : TAv}
theorem a_sp [Ar A] {i : Nat} {q : (β : Type) → (A → Sp → O Sp β) → O Sp β} (h : lk G i = some (.loc 1)) (h2 : EA B n G cs cs2 tr s q) : EA B n G cs cs2 (aCons (eVar i) tr) s (fun β k => q β fun x s2 => k (Rs.mk, x) s2) := by
  obtain ⟨oa, h3, h4⟩ := h2
  refine ⟨oa.bind fun x s2 => .ok (Rs.mk, x) s2, fun env r q => ?_, fun β k => ?_⟩
  · have e : eVar i env (B.st s ++ r) = .ok (.loc 1) (B.st s ++ r) := by
      unfold eVar
      rw [q.var i _ h]
    unfold aCons
    rw [e]
    refine (h3 env r q).bind fun x s2 r2 _ k2 hl2 => ?_
    exact Rl.mk rfl k2 hl2
  · simp only [h4, bind_assoc, bind_ok]
theorem sp_at0 (B : Bs wS) (s : Sp) (r : Store) : (B.st s ++ r)[0]? = some (.lstF (s.cells.map F.int)) := rfl
theorem sp_ev {i : Nat} (h : lk G i = some (.loc 1)) {env : Env} {r : Store} (q : Ok B.b n G cs env r) : eVar i env (B.st s ++ r) = .ok (.loc 1) (B.st s ++ r) := by
  unfold eVar
  rw [q.var i _ h]
theorem e_sp1 {i : Nat} (h : lk G i = some (.loc 1)) : E B n G cs cs (eIx (eVar i) (eC (.int 1))) s (.ok s.big s) := fun env r q => by
  refine Rl.mk ?_ q .refl
  unfold eIx
  rw [sp_ev h q]
  rfl
theorem e_sp2 {i : Nat} (h : lk G i = some (.loc 1)) : E B n G cs cs (eIx (eVar i) (eC (.int 2))) s (.ok s.cnt s) := fun env r q => by
  refine Rl.mk ?_ q .refl
  unfold eIx
  rw [sp_ev h q]
  rfl
theorem e_sp3 {i : Nat} (h : lk G i = some (.loc 1)) : E B n G cs cs (eIx (eVar i) (eC (.int 3))) s (.ok s.mix s) := fun env r q => by
  refine Rl.mk ?_ q .refl
  unfold eIx
  rw [sp_ev h q]
  rfl
theorem okEs_int : ∀ l : List Int, okEs 0 (l.map F.int) = true
  | [] => by simp [okEs]
  | x :: l => by simp [okEs, okE, okEs_int l]
theorem ne_nil (l : List Int) : neF (.lst (l.map F.int)) (.lst []) = some (.bl (!l.isEmpty)) := by
  unfold neF
  cases l with
  | nil => rw [show List.map F.int [] = [] from rfl, eqB_yes (n := 1) (by decide) (by simp [okE, okEs])]; rfl
  | cons x r => rw [eqB_no (n := 1) (m := 1) (by decide) (by decide) (by simpa [okE] using okEs_int (x :: r)) (by simp [okE, okEs]) (by simp)]; rfl
theorem t_sp0 {i : Nat} (h : lk G i = some (.loc 1)) : ET B n G cs cs (tVal (eOp2 neF (eIx (eVar i) (eC (.int 0))) (eLst aNil))) s (.ok (!s.cells.isEmpty) s) := fun env r q => by
  refine Rl.mk ?_ q .refl
  unfold tVal eOp2 eIx
  rw [sp_ev h q]
  show (lk2 neF (.loc 0) (.f (.lst [])) (B.st s ++ r)).bind _ = _
  have e : lk2 neF (.loc 0) (.f (.lst [])) (B.st s ++ r) = .ok (.f (.bl (!s.cells.isEmpty))) (B.st s ++ r) := by
    unfold lk2
    show ofOpt ((lookC (some (Cell.lstF (s.cells.map F.int)))).bind fun x => (some (F.lst [])).bind fun y => neF x y) _ = _
    show ofOpt (neF (.lst (s.cells.map F.int)) (.lst [])) _ = _
    rw [ne_nil]; rfl
  rw [e]; rfl
theorem j_sp {i j : Nat} {o : O Sp Int} {up : Sp → Int → Sp} {k : Sp → O Sp X} {ti : Int} (h : lk G i = some (.loc 1)) (he : E B n G cs cs1 te s o)
    (hu : ∀ (s1 : Sp) (a : Int) (r : Store), setI (.f (.int a)) (wS.put s1 r) (.loc 1) (.f (.int ti)) = some (wS.put (up s1 a) r)) (hr : ∀ s1, J B n K G cs1 rest s1 (k s1)) :
    J B n K G cs (bCons (sSub (eVar i) (eC (.int ti)) te) rest) s (o.bind fun a s1 => k (up s1 a)) := fun env r q => by
  have e : bCons (sSub (eVar i) (eC (.int ti)) te) rest env (B.st s ++ r) = (te env (B.st s ++ r)).thenS fun w st1 => (eVar i env st1).thenS fun o st2 => match setI w st2 o (.f (.int ti)) with
      | some st4 => rest env st4
      | none => .stuck := by
    unfold bCons sSub
    cases te env (B.st s ++ r) with
    | ok w st1 =>
      simp only [Res.thenS]
      cases eVar i env st1 with
      | ok o st2 => simp only [eC]; cases setI w st2 o (.f (.int ti)) <;> rfl
      | _ => rfl
    | _ => rfl
  rw [e]
  refine (he env r q).thenS fun a s1 r1 _ k1 p1 => ?_
  rw [sp_ev h k1]
  have e2 : setI (w_ a) (B.st s1 ++ r1) (.loc 1) (.f (.int ti)) = some (B.st (up s1 a) ++ r1) := by
    have := hu s1 a (B.rest ++ r1)
    rw [wS.app, wS.app] at this
    exact this
  simp only [Res.thenS]
  rw [e2]
  exact hr (up s1 a) _ _ k1
theorem j_spPop {i j : Nat} {k : Int → Sp → O Sp X} (hj : j < n) (h : lk G i = some (.loc 1)) (hr : ∀ a s1, J B n K ((j, w_ a) :: G) cs rest s1 (k a s1)) :
    J B n K G cs (bCons (sSet j (eMut false cPopAt (eIx (eVar i) (eC (.int 0))) (aCons (eC (.int 0)) aNil))) rest) s (match s.cells with
      | [] => .no
      | a :: l => k a { s with cells := l }) := fun env r q => by
  cases hs : s.cells with
  | nil => trivial
  | cons a l =>
    have hd : doCell cPopAt 0 [.f (.int 0)] (B.st s ++ r) = .ok (.f (.int a)) (B.st { s with cells := l } ++ r) := by
      have e0 : cPopAt (Cell.lstF ((a :: l).map F.int)) [.f (.int 0)] = some (.f (.int a), .lstF (l.map F.int)) := by
        have e1 : PySem.seqIndex? 0 ((a :: l).map F.int).length = some 0 := by
          unfold PySem.seqIndex?
          simp
        show (if smallI 0 = true then (PySem.seqIndex? 0 ((a :: l).map F.int).length).bind fun k => (((a :: l).map F.int)[k]?).map fun x => (W.f x, Cell.lstF (((a :: l).map F.int).eraseIdx k)) else none) = _
        rw [e1]
        rfl
      unfold doCell
      rw [sp_at0, hs]
      show (match cPopAt (Cell.lstF ((a :: l).map F.int)) [.f (.int 0)] with
        | some (w, c') => Res.ok w ((B.st s ++ r).set 0 c')
        | none => .stuck) = _
      rw [e0]
      rfl
    have e : bCons (sSet j (eMut false cPopAt (eIx (eVar i) (eC (.int 0))) (aCons (eC (.int 0)) aNil))) rest env (B.st s ++ r) = rest (env.set j (some (w_ a))) (B.st { s with cells := l } ++ r) := by
      unfold bCons sSet eMut eIx
      rw [sp_ev h q]
      show (match Res.thenS (if isCell false (B.st s ++ r)[0]? = true then Res.bind (.ok [.f (.int 0)] (B.st s ++ r)) fun ws st2 => doCell cPopAt 0 ws st2 else .stuck) fun w st1 => SR.nx (env.set j (some w)) st1 with
        | .nx env1 st1 => rest env1 st1
        | x => x) = _
      rw [sp_at0]
      show (match Res.thenS (doCell cPopAt 0 [.f (.int 0)] (B.st s ++ r)) fun w st1 => SR.nx (env.set j (some w)) st1 with
        | .nx env1 st1 => rest env1 st1
        | x => x) = _
      rw [hd]
      rfl
    show RlS B K _ _
    rw [e]
    exact hr a { s with cells := l } _ _ (q.set hj _)
end
end TL

set_option Elab.async false
set_option linter.all false
set_option maxRecDepth 100000
set_option maxHeartbeats 4000000
set_option autoImplicit false
/-! T8: the law's own sameness; the law itself. -/
namespace TL
open VS
open L2 (atI ixN)
/-! ### equality of plain data -/
mutual
def eqS : F → F → Bool
  | .non, .non => true
  | .bl a, .bl b => a == b
  | .int a, .int b => decide (a = b)
  | .str a, .str b => decide (a = b)
  | .lst xs, .lst ys => eqSs xs ys
  | .tup xs, .tup ys => eqSs xs ys
  | _, _ => false
def eqSs : List F → List F → Bool
  | [], [] => true
  | x :: xs, y :: ys => eqS x y && eqSs xs ys
  | _, _ => false
end
mutual
def okP : Nat → F → Bool
  | _, .non => true
  | _, .bl _ => true
  | _, .int _ => true
  | _, .str s => s.all (· < 0x110000)
  | n + 1, .lst xs => small xs.length && okPs n xs
  | n + 1, .tup xs => small xs.length && okPs n xs
  | _, _ => false
def okPs : Nat → List F → Bool
  | _, [] => true
  | n, x :: xs => okP n x && okPs n xs
end
mutual
theorem eqS_refl : ∀ (n : Nat) (x : F), okP n x = true → eqS x x = true
  | _, .non, _ => by simp [eqS]
  | _, .bl _, _ => by simp [eqS]
  | _, .int _, _ => by simp [eqS]
  | _, .str _, _ => by simp [eqS]
  | n + 1, .lst xs, h => by simp only [eqS]; exact eqSs_refl n xs (by rw [okP, Bool.and_eq_true] at h; exact h.2)
  | n + 1, .tup xs, h => by simp only [eqS]; exact eqSs_refl n xs (by rw [okP, Bool.and_eq_true] at h; exact h.2)
  | 0, .lst xs, h => by simp [okP] at h
  | 0, .tup xs, h => by simp [okP] at h
  | 0, .dct _, h => by simp [okP] at h
  | 0, .dlk _ _, h => by simp [okP] at h
  | 0, .ktp _, h => by simp [okP] at h
  | 0, .obj _ _, h => by simp [okP] at h
  | 0, .scr _, h => by simp [okP] at h
  | _ + 1, .dct _, h => by simp [okP] at h
  | _ + 1, .dlk _ _, h => by simp [okP] at h
  | _ + 1, .ktp _, h => by simp [okP] at h
  | _ + 1, .obj _ _, h => by simp [okP] at h
  | _ + 1, .scr _, h => by simp [okP] at h
theorem eqSs_refl : ∀ (n : Nat) (x : List F), okPs n x = true → eqSs x x = true
  | _, [], _ => by simp [eqSs]
  | n, x :: xs, h => by
    have h : okP n x = true ∧ okPs n xs = true := by simpa [okPs] using h
    simp [eqSs, eqS_refl n x h.1, eqSs_refl n xs h.2]
end
def d_same (x y : F) : P Bool := if okP 7 x = true ∧ okP 7 y = true then .ok (eqS x y) () else .no
theorem same_refl {x : F} (h : okP 7 x = true) : d_same x x = .ok true () := by
  unfold d_same
  rw [if_pos ⟨h, h⟩, eqS_refl 7 x h]
def tSame (r : FnM) : TSv :=
  (bCons (sIf (tVal (eIsi [.lst, .tup] (eVar 1))) (bCons (sIf (tOrV (tVal (eOp2 neF (eIsi [.lst] (eVar 0)) (eIsi [.lst] (eVar 1)))) (tVal (eOp2 neF (eIsi [.tup] (eVar 0)) (eIsi [.tup] (eVar 1))))) (sRet (eC (.bl false))) bNil)
    (sRet (eAnd (eOp2 eqF (eCB (g1 lenF) (aCons (eVar 0) aNil)) (eCB (g1 lenF) (aCons (eVar 1) aNil))) (eCB (g1 allB) (aCons (eFrz (eLc (iZip (aCons (eVar 0) (aCons (eVar 1) aNil))) (gTp (gsCons (gNm 2) (gsCons (gNm 3) gsNil))) tYesV (eCall r (aCons (eVar 2) (aCons (eVar 3) aNil))) [2, 3])) aNil))))) bNil)
    (bCons (sIf (tVal (eIsi [.int] (eVar 1))) (sRet (eAnd (eIsi [.int] (eVar 0)) (eAnd (eOp2 eqF (eIsi [.bl] (eVar 0)) (eIsi [.bl] (eVar 1))) (eOp2 eqF (eVar 0) (eVar 1))))) bNil)
    (sRet (eAnd (eOp2 isNF (eIsi [.int, .lst, .tup] (eVar 0)) (eC (.bl false))) (eOp2 eqF (eVar 0) (eVar 1))))))
def mSame : Nat → FnM
  | 0 => fnM 2 4 bStuck
  | n + 1 => fnM 2 4 (tSame (mSame n))
mutual
theorem okP_toD : ∀ (n : Nat) (x : F), okP n x = true → ∃ d, toD x = some d ∧ d.canLay0 = true ∧ d.depth ≤ n
  | _, .non, _ => ⟨.none, rfl, by simp [PySem.PyData.canLay0], by simp [PySem.PyData.depth]⟩
  | _, .bl b, _ => ⟨.bool b, rfl, by simp [PySem.PyData.canLay0], by simp [PySem.PyData.depth]⟩
  | _, .int i, _ => ⟨.int i, rfl, by simp [PySem.PyData.canLay0], by simp [PySem.PyData.depth]⟩
  | _, .str s, h => ⟨.str (S s), rfl, by
      have h : s.all (· < 0x110000) = true := by simpa [okP] using h
      simp only [PySem.PyData.canLay0, PySem.PyData.strOk, S]
      simpa using h, by simp [PySem.PyData.depth]⟩
  | n + 1, .lst xs, h => by
    obtain ⟨ds, e, c, dp⟩ := okPs_toD n xs (by rw [okP, Bool.and_eq_true] at h; exact h.2)
    exact ⟨.list ds, by simp [toD, e], by simpa [PySem.PyData.canLay0] using c, by simp only [PySem.PyData.depth]; omega⟩
  | n + 1, .tup xs, h => by
    obtain ⟨ds, e, c, dp⟩ := okPs_toD n xs (by rw [okP, Bool.and_eq_true] at h; exact h.2)
    exact ⟨.tuple ds, by simp [toD, e], by simpa [PySem.PyData.canLay0] using c, by simp only [PySem.PyData.depth]; omega⟩
  | 0, .lst xs, h => by simp [okP] at h
  | 0, .tup xs, h => by simp [okP] at h
  | 0, .dct _, h => by simp [okP] at h
  | 0, .dlk _ _, h => by simp [okP] at h
  | 0, .ktp _, h => by simp [okP] at h
  | 0, .obj _ _, h => by simp [okP] at h
  | 0, .scr _, h => by simp [okP] at h
  | _ + 1, .dct _, h => by simp [okP] at h
  | _ + 1, .dlk _ _, h => by simp [okP] at h
  | _ + 1, .ktp _, h => by simp [okP] at h
  | _ + 1, .obj _ _, h => by simp [okP] at h
  | _ + 1, .scr _, h => by simp [okP] at h
theorem okPs_toD : ∀ (n : Nat) (xs : List F), okPs n xs = true → ∃ ds, toDs xs = some ds ∧ PySem.PyData.canLayAll0 ds = true ∧ PySem.PyData.depthAll ds ≤ n
  | _, [], _ => ⟨[], rfl, by simp [PySem.PyData.canLayAll0], by simp [PySem.PyData.depthAll]⟩
  | n, x :: xs, h => by
    have h : okP n x = true ∧ okPs n xs = true := by simpa [okPs] using h
    obtain ⟨d, e, c, dp⟩ := okP_toD n x h.1
    obtain ⟨ds, e', c', dp'⟩ := okPs_toD n xs h.2
    exact ⟨d :: ds, by simp [toDs, e, e'], by simp [PySem.PyData.canLayAll0, c, c'], by simp only [PySem.PyData.depthAll]; omega⟩
end
theorem okP_shaped {n : Nat} (hn : n ≤ 64) {x : F} (h : okP n x = true) : ∃ d, toD x = some d ∧ PySem.SeqAt.shaped d = true := by
  obtain ⟨d, e, c, dp⟩ := okP_toD n x h
  exact ⟨d, e, by unfold PySem.SeqAt.shaped; rw [c]; simp; omega⟩
/-- == of other kinds than the text's or None's -/
theorem eqB_other {n : Nat} (hn : n ≤ 64) {x y : F} (hx : okP n x = true) (hy : okP n y = true) (h1 : kyF x = .non ∨ kyF x = .str) (h2 : kyF y = .non ∨ kyF y = .str) : eqB x y = some (eqS x y) := by
  obtain ⟨d, e, s⟩ := okP_shaped hn hx
  obtain ⟨d', e', s'⟩ := okP_shaped hn hy
  cases x <;> simp [kyF] at h1 <;> cases y <;> simp [kyF] at h2
  · simp only [eqB, eqD, toD, eqS]; rfl
  · have e' : some (PySem.PyData.str (S _)) = some d' := e'
    have := Option.some.inj e'
    subst this
    simp only [eqB, eqD, toD, eqS, Option.bind_some, s']
    rfl
  · have e : some (PySem.PyData.str (S _)) = some d := e
    have := Option.some.inj e
    subst this
    simp only [eqB, eqD, toD, eqS, Option.bind_some, s]
    rfl
  · simp [eqB, eqS]
theorem same_rt {r : FnM} {x y : F} {st : Store} {b : Bool} (h : tSame r [some (.f x), some (.f y), none, none] st = .rt (.f (.bl b)) st) : fnM 2 4 (tSame r) [.f x, .f y] st = .ok (.f (.bl b)) st := by
  show (match tSame r [some (.f x), some (.f y), none, none] st with
    | .rt w st1 => retW st.length w st1
    | .nx _ st1 => retW st.length (.f .non) st1
    | .exc c fs st1 => .exc c fs st1
    | _ => .stuck) = _
  rw [h]
  exact retW_same st _
theorem same_oth {r : FnM} {n : Nat} (hn : n ≤ 64) {x y : F} {st : Store} (hx : okP n x = true) (hy : okP n y = true) (h1 : kyF x = .non ∨ kyF x = .str) (h2 : kyF y = .non ∨ kyF y = .str) : fnM 2 4 (tSame r) [.f x, .f y] st = .ok (.f (.bl (eqS x y))) st := by
  apply same_rt
  have e : tSame r [some (.f x), some (.f y), none, none] st = (ofOpt ((eqB x y).map F.bl) st).thenS fun w st1 => .rt w st1 := by
    cases x <;> simp [kyF] at h1 <;> cases y <;> simp [kyF] at h2 <;> rfl
  rw [e, eqB_other hn hx hy h1 h2]
  rfl
def sameZ (w : W) : F := match w with
  | .f (.tup [a, b]) => .bl (eqS a b)
  | _ => .non
theorem sameZ_all : ∀ (xs ys : List F), xs.length = ys.length → blsOf (((xs.zip ys).map fun q => W.f (.tup [q.1, q.2])).map sameZ) = some ((xs.zip ys).map fun q => eqS q.1 q.2) ∧ ((xs.zip ys).map fun q => eqS q.1 q.2).all id = eqSs xs ys
  | [], [], _ => ⟨rfl, by simp [eqSs]⟩
  | [], _ :: _, h => by simp at h
  | _ :: _, [], h => by simp at h
  | x :: xs, y :: ys, h => by
    obtain ⟨h1, h2⟩ := sameZ_all xs ys (by simpa using h)
    refine ⟨?_, ?_⟩
    · show (blsOf (((xs.zip ys).map fun q => W.f (.tup [q.1, q.2])).map sameZ)).map (eqS x y :: ·) = _
      rw [h1]; rfl
    · show (eqS x y && ((xs.zip ys).map fun q => eqS q.1 q.2).all id) = _
      rw [h2]
      simp [eqSs]
theorem eqSs_len : ∀ (xs ys : List F), xs.length ≠ ys.length → eqSs xs ys = false
  | [], [], h => by simp at h
  | [], _ :: _, _ => by simp [eqSs]
  | _ :: _, [], _ => by simp [eqSs]
  | x :: xs, y :: ys, h => by simp [eqSs, eqSs_len xs ys (by simpa using h)]
theorem okPs_mem {n : Nat} : ∀ {xs : List F} {x : F}, okPs n xs = true → x ∈ xs → okP n x = true
  | y :: ys, x, h, hm => by
    have h : okP n y = true ∧ okPs n ys = true := by simpa [okPs] using h
    rcases List.mem_cons.mp hm with q | q
    · subst q; exact h.1
    · exact okPs_mem h.2 q
abbrev sameC (r : FnM) : TEv := eFrz (eLc (iZip (aCons (eVar 0) (aCons (eVar 1) aNil))) (gTp (gsCons (gNm 2) (gsCons (gNm 3) gsNil))) tYesV (eCall r (aCons (eVar 2) (aCons (eVar 3) aNil))) [2, 3])
theorem same_seq {r : FnM} {n : Nat} {x y : F} {xs ys : List F} {st : Store} (hc : Cl st) (hx : okPs n xs = true) (hy : okPs n ys = true) (dx : itemsD x = some xs) (dy : itemsD y = some ys) (hl : xs.length ≤ 1000000)
    (ih : ∀ a b, okP n a = true → okP n b = true → ∀ st, Cl st → r [.f a, .f b] st = .ok (.f (.bl (eqS a b))) st) (he : xs.length = ys.length) :
    (eCB (g1 allB) (aCons (sameC r) aNil)) [some (.f x), some (.f y), none, none] st = .ok (.f (.bl (eqSs xs ys))) st := by
  obtain ⟨z1, z2⟩ := sameZ_all xs ys he
  have hz : iZip (aCons (eVar 0) (aCons (eVar 1) aNil)) [some (.f x), some (.f y), none, none] st = .ok ((xs.zip ys).map fun q => W.f (.tup [q.1, q.2])) st := by
    show zipW [.f x, .f y] st = _
    unfold zipW
    simp only [dx, dy]
  have e : sameC r [some (.f x), some (.f y), none, none] st = .ok (.f (.lst (((xs.zip ys).map fun q => W.f (.tup [q.1, q.2])).map sameZ))) st := by
    refine lcf_map hc sameZ hz (by simp; omega) fun w hw acc => ?_
    obtain ⟨⟨a, b⟩, hab, rfl⟩ := List.mem_map.mp hw
    have h1 := List.of_mem_zip hab
    refine ⟨_, rfl, ?_⟩
    show r [.f a, .f b] (st ++ [.lstF acc]) = _
    rw [ih a b (okPs_mem hx h1.1) (okPs_mem hy h1.2) _ (hc.push acc)]
    rfl
  have e2 : (eCB (g1 allB) (aCons (sameC r) aNil)) [some (.f x), some (.f y), none, none] st = ((sameC r [some (.f x), some (.f y), none, none] st).bind fun w st1 => lkN (g1 allB) [w] st1) := by
    unfold eCB aCons
    cases sameC r [some (.f x), some (.f y), none, none] st <;> rfl
  rw [e2, e]
  show ofOpt ((blsOf _).map fun ns => F.bl (ns.all id)) st = _
  rw [z1]
  show Res.ok (W.f (F.bl _)) st = _
  rw [z2]
theorem bCons_rt {t rest : TSv} {env : Env} {st : Store} {R : Res W} (h : t env st = R.thenS fun w s => .rt w s) : bCons t rest env st = R.thenS fun w s => .rt w s := by
  unfold bCons
  rw [h]
  cases R <;> rfl
theorem same_ok : ∀ (n : Nat), n ≤ 60 → ∀ (x y : F), okP n x = true → okP n y = true → ∀ st, Cl st → mSame (n + 1) [.f x, .f y] st = .ok (.f (.bl (eqS x y))) st
  | n, hn, x, y, hx, hy, st, hc => by
    show fnM 2 4 (tSame (mSame n)) [.f x, .f y] st = _
    have other : (kyF x = .non ∨ kyF x = .str) → (kyF y = .non ∨ kyF y = .str) → fnM 2 4 (tSame (mSame n)) [.f x, .f y] st = .ok (.f (.bl (eqS x y))) st := fun h1 h2 => same_oth (by omega) hx hy h1 h2
    have seq : ∀ (xs ys : List F), itemsD x = some xs → itemsD y = some ys → (∃ m, n = m + 1 ∧ okPs m xs = true ∧ okPs m ys = true) → xs.length ≤ 1000000 → eqS x y = eqSs xs ys →
        (tSame (mSame n) [some (.f x), some (.f y), none, none] st = ((if decide ((xs.length : Int) = ys.length) = true then (eCB (g1 allB) (aCons (sameC (mSame n)) aNil)) [some (.f x), some (.f y), none, none] st else .ok (.f (.bl false)) st)).thenS fun w st1 => .rt w st1) →
        fnM 2 4 (tSame (mSame n)) [.f x, .f y] st = .ok (.f (.bl (eqS x y))) st := by
      intro xs ys dx dy hm hl he e
      obtain ⟨m, rfl, h1, h2⟩ := hm
      apply same_rt
      rw [e]
      by_cases hq : xs.length = ys.length
      · rw [if_pos (decide_eq_true (by omega)), same_seq hc h1 h2 dx dy hl (fun a b ha hb st' hc' => same_ok m (by omega) a b ha hb st' hc') hq, he]
        rfl
      · rw [if_neg (by simp; omega), he, eqSs_len xs ys hq]
        rfl
    cases y with
    | non =>
      cases x with
      | non => exact other (.inl rfl) (.inl rfl)
      | str a => exact other (.inr rfl) (.inl rfl)
      | bl a => exact same_rt rfl
      | int a => exact same_rt rfl
      | lst a => exact same_rt rfl
      | tup a => exact same_rt rfl
      | _ => cases n <;> simp [okP] at hx
    | str b =>
      cases x with
      | non => exact other (.inl rfl) (.inr rfl)
      | str a => exact other (.inr rfl) (.inr rfl)
      | bl a => exact same_rt rfl
      | int a => exact same_rt rfl
      | lst a => exact same_rt rfl
      | tup a => exact same_rt rfl
      | _ => cases n <;> simp [okP] at hx
    | bl b =>
      cases x with
      | non => exact same_rt rfl
      | str a => exact same_rt rfl
      | bl a => refine same_rt ?_; cases a <;> cases b <;> rfl
      | int a => exact same_rt rfl
      | lst a => exact same_rt rfl
      | tup a => exact same_rt rfl
      | _ => cases n <;> simp [okP] at hx
    | int b =>
      cases x with
      | non => exact same_rt rfl
      | str a => exact same_rt rfl
      | bl a => exact same_rt rfl
      | int a => exact same_rt rfl
      | lst a => exact same_rt rfl
      | tup a => exact same_rt rfl
      | _ => cases n <;> simp [okP] at hx
    | lst ys =>
      cases x with
      | non => exact same_rt rfl
      | str a => exact same_rt rfl
      | bl a => exact same_rt rfl
      | int a => exact same_rt rfl
      | tup a => exact same_rt rfl
      | lst xs =>
        cases n with
        | zero => simp [okP] at hx
        | succ m =>
          rw [okP, Bool.and_eq_true] at hx hy
          exact seq xs ys rfl rfl ⟨m, rfl, hx.2, hy.2⟩ (of_decide_eq_true hx.1) rfl (bCons_rt rfl)
      | _ => cases n <;> simp [okP] at hx
    | tup ys =>
      cases x with
      | non => exact same_rt rfl
      | str a => exact same_rt rfl
      | bl a => exact same_rt rfl
      | int a => exact same_rt rfl
      | lst a => exact same_rt rfl
      | tup xs =>
        cases n with
        | zero => simp [okP] at hx
        | succ m =>
          rw [okP, Bool.and_eq_true] at hx hy
          exact seq xs ys rfl rfl ⟨m, rfl, hx.2, hy.2⟩ (of_decide_eq_true hx.1) rfl (bCons_rt rfl)
      | _ => cases n <;> simp [okP] at hx
    | _ => cases n <;> simp [okP] at hy
theorem r_same : FnP (A := F × F × Unit) (R := Bool) (mSame 8) (fun a => d_same a.1 a.2.1) := fun rest s a hcl => by
  dsimp only
  unfold d_same
  by_cases h : okP 7 a.1 = true ∧ okP 7 a.2.1 = true
  · rw [if_pos h]
    exact same_ok 7 (by decide) a.1 a.2.1 h.1 h.2 rest hcl
  · rw [if_neg h]
    trivial
theorem J.cast {σ X : Type} {wr : Wr σ} {B : Bs wr} {n : Nat} {K : X → σ → SR → Prop} {G : List (Nat × W)} {cs : List (Nat × Cell)} {t : TSv} {s : σ} {o o' : O σ X} (h : J B n K G cs t s o) (e : o = o') : J B n K G cs t s o' := e ▸ h
/-! ### the law -/
theorem law_run {n i : Nat} {ms : FnM} {rest : TSv} {ns : List Int} {o : O Sp Bool} (hn : 1 ≤ n) (hi : i < n) (hs : ms [.f (.scr ns)] [] = .ok (.loc 1) (spS ⟨ns, 0, 0, 11⟩))
    (h : ∀ B : Bs wS, J B n (Kfn B) [(i, .loc 1)] [] rest ⟨ns, 0, 0, 11⟩ o) (ho : ∃ s', o = .ok true s') : ∃ st, fnM 1 n (bCons (sSet i (eCall ms (aCons (eVar 0) aNil))) rest) [.f (.scr ns)] [] = .ok (.f (.bl true)) st := by
  obtain ⟨s', rfl⟩ := ho
  have hcl : Cl (wS.put ⟨ns, 0, 0, 11⟩ []) := by
    show clean _ _ = true
    simp [wS, spS, clean, Cell.below, W.below]
  have ok0 : Ok (mkB wS [] ⟨ns, 0, 0, 11⟩ hcl).b n [(i, W.loc 1)] [] ((some (W.f (F.scr ns)) :: List.replicate (n - 1) none).set i (some (.loc 1))) [] := by
    refine ⟨by simp; omega, by simp [clean], by simp, (fun _ _ q => nomatch q), fun j w q => ?_⟩
    rw [lk_cons] at q
    cases e : Nat.beq i j with
    | true =>
      rw [e] at q; cases q
      cases Nat.eq_of_beq_eq_true e
      exact List.getElem?_set_self (by simp; omega)
    | false => rw [e] at q; cases q
  have z := h (mkB wS [] ⟨ns, 0, 0, 11⟩ hcl) _ _ ok0
  have e : bCons (sSet i (eCall ms (aCons (eVar 0) aNil))) rest (some (W.f (F.scr ns)) :: List.replicate (n - 1) none) [] = rest ((some (W.f (F.scr ns)) :: List.replicate (n - 1) none).set i (some (.loc 1))) (spS ⟨ns, 0, 0, 11⟩) := by
    unfold bCons sSet eCall
    show (match Res.thenS (Res.bind (.ok [W.f (F.scr ns)] []) fun ws st1 => ms ws st1) fun w st1 => SR.nx ((some (W.f (F.scr ns)) :: List.replicate (n - 1) none).set i (some w)) st1 with
      | .nx env1 st1 => rest env1 st1
      | x => x) = _
    show (match Res.thenS (ms [W.f (F.scr ns)] []) fun w st1 => SR.nx ((some (W.f (F.scr ns)) :: List.replicate (n - 1) none).set i (some w)) st1 with
      | .nx env1 st1 => rest env1 st1
      | x => x) = _
    rw [hs]; rfl
  have e0 : fnM 1 n (bCons (sSet i (eCall ms (aCons (eVar 0) aNil))) rest) [.f (.scr ns)] [] = (match rest ((some (W.f (F.scr ns)) :: List.replicate (n - 1) none).set i (some (.loc 1))) (spS ⟨ns, 0, 0, 11⟩) with
      | .rt w st1 => retW 0 w st1
      | .nx _ st1 => retW 0 (.f .non) st1
      | .exc c fs st1 => .exc c fs st1
      | _ => .stuck) := by
    rw [← e]
    show (match bCons (sSet i (eCall ms (aCons (eVar 0) aNil))) rest (some (W.f (F.scr ns)) :: List.replicate (n - 1) none) [] with
      | .rt w st1 => retW 0 w st1
      | .nx _ st1 => retW 0 (.f .non) st1
      | .exc c fs st1 => .exc c fs st1
      | _ => .stuck) = _
    cases bCons (sSet i (eCall ms (aCons (eVar 0) aNil))) rest (some (W.f (F.scr ns)) :: List.replicate (n - 1) none) [] <;> rfl
  have hz : rest ((some (W.f (F.scr ns)) :: List.replicate (n - 1) none).set i (some (.loc 1))) (spS ⟨ns, 0, 0, 11⟩) = rest ((some (W.f (F.scr ns)) :: List.replicate (n - 1) none).set i (some (.loc 1))) ((mkB wS [] ⟨ns, 0, 0, 11⟩ hcl).st ⟨ns, 0, 0, 11⟩ ++ []) := by
    show _ = rest _ ((spS ⟨ns, 0, 0, 11⟩ ++ []) ++ [])
    rw [List.append_nil, List.append_nil]
  rw [e0, hz]
  rcases z with ⟨r', e1⟩ | ⟨e1, _⟩
  · rw [e1]
    exact ⟨[], rfl⟩
  · cases e1
end TL

set_option Elab.async false
set_option linter.all false
set_option maxRecDepth 100000
set_option maxHeartbeats 4000000
set_option autoImplicit false
/-! T9: parallel assignments, of data and of cells. -/
namespace TL
open VS
open L2 (atI ixN)
section
variable {σ α β γ δ R X S A : Type} {wr : Wr σ} {B : Bs wr} {n : Nat} {G G' : List (Nat × W)} {cs cs1 cs2 cs3 : List (Nat × Cell)} {s : σ} {K : X → σ → SR → Prop} {rest t t1 t2 : TSv} {ta tb te : TEv} {wa : TTv} {tr : TAv} {T : Tab} {fin : List W → TSv} {acc : List W}
def JA (B : Bs wr) (n : Nat) (K : X → σ → SR → Prop) (G : List (Nat × W)) (cs : List (Nat × Cell)) (fin : List W → TSv) (acc : List W) (tr : TAv) (s : σ) (o : O σ X) : Prop :=
  ∀ env r, Ok B.b n G cs env r → RlS B K ((tr env (B.st s ++ r)).thenS fun ws st => fin (acc ++ ws) env st) o
def bindG : List Nat → List W → List (Nat × W) → List (Nat × W)
  | i :: is, w :: ws, G => bindG is ws ((i, w) :: G)
  | _, _, G => G
def setAll (env : Env) : List Nat → List W → Env
  | i :: is, w :: ws => setAll (env.set i (some w)) is ws
  | _, _ => env
theorem setAll_ok {b : Nat} {r : Store} : ∀ {is : List Nat} {ws : List W} {G : List (Nat × W)} {env : Env}, (is.all fun i => decide (i < n)) = true → Ok b n G cs env r → Ok b n (bindG is ws G) cs (setAll env is ws) r
  | [], _, _, _, _, k => k
  | _ :: _, [], _, _, _, k => k
  | i :: is, w :: ws, G, env, h, k => by
    rw [List.all_cons, Bool.and_eq_true] at h
    exact setAll_ok (is := is) (ws := ws) h.2 (k.set (of_decide_eq_true h.1) w)
theorem ja_end {is : List Nat} {o : O σ X} (hi : (is.all fun i => decide (i < n)) = true) (hf : ∀ env st, fin (acc ++ []) env st = rest (setAll env is acc) st) (h : J B n K (bindG is acc G) cs rest s o) : JA B n K G cs fin acc aNil s o := fun env r k => by
  show RlS B K (fin (acc ++ []) env (B.st s ++ r)) o
  rw [hf]
  exact h _ _ (setAll_ok hi k)
theorem ja_v [En α] {o : O σ α} {k : α → σ → O σ X} (h : E B n G cs cs1 ta s o) (hr : ∀ a s1, JA B n K G cs1 fin (acc ++ [w_ a]) tr s1 (k a s1)) : JA B n K G cs fin acc (aCons ta tr) s (o.bind k) := fun env r q => by
  have e : ((aCons ta tr) env (B.st s ++ r)).thenS (fun ws st => fin (acc ++ ws) env st) = (ta env (B.st s ++ r)).thenS fun w st1 => (tr env st1).thenS fun ws st2 => fin ((acc ++ [w]) ++ ws) env st2 := by
    unfold aCons
    cases ta env (B.st s ++ r) with
    | ok w st1 =>
      simp only [Res.bind, Res.thenS]
      cases tr env st1 with
      | ok ws st2 => simp
      | _ => rfl
    | _ => rfl
  rw [e]
  exact (h env r q).thenS fun a s1 r1 _ k1 p1 => hr a s1 env r1 k1
theorem ja_c [En α] {o : O σ (List α)} {k : List α → σ → O σ X} (h : EC B n G cs cs1 ta s o) (hr : ∀ c a s1, JA B n K G ((c, cl_ a) :: cs1) fin (acc ++ [.loc (B.b + c)]) tr s1 (k a s1)) : JA B n K G cs fin acc (aCons ta tr) s (o.bind k) := fun env r q => by
  have e : ((aCons ta tr) env (B.st s ++ r)).thenS (fun ws st => fin (acc ++ ws) env st) = (ta env (B.st s ++ r)).thenS fun w st1 => (tr env st1).thenS fun ws st2 => fin ((acc ++ [w]) ++ ws) env st2 := by
    unfold aCons
    cases ta env (B.st s ++ r) with
    | ok w st1 =>
      simp only [Res.bind, Res.thenS]
      cases tr env st1 with
      | ok ws st2 => simp
      | _ => rfl
    | _ => rfl
  rw [e]
  have z := h env r q
  cases o with
  | no => trivial
  | ex c fs s' => obtain ⟨r', e, k'⟩ := z; rw [e]; exact ⟨r', rfl, k'.cl⟩
  | ok l s1 =>
    obtain ⟨r1, e, k1, p1⟩ := z
    rw [e]
    exact hr r1.length l s1 env _ (k1.new rfl)
def fin2 (i j : Nat) (rest : TSv) : List W → TSv := fun ws env st => match ws with
  | [w1, w2] => rest ((env.set i (some w1)).set j (some w2)) st
  | _ => .stuck
def finU (gs : List TM) (rest : TSv) : List W → TSv := fun ws env st => if small ws.length = true then (match msRun gs ws env st with
  | some r => rest r.1 r.2
  | none => .stuck) else .stuck
theorem j_a2 {i j : Nat} {o : O σ X} (h : JA B n K G cs (fin2 i j rest) [] tr s o) : J B n K G cs (bCons (sPar2 i j tr) rest) s o := fun env r q => by
  have z := h env r q
  have e : bCons (sPar2 i j tr) rest env (B.st s ++ r) = (tr env (B.st s ++ r)).thenS fun ws st => fin2 i j rest ([] ++ ws) env st := by
    unfold bCons sPar2
    cases tr env (B.st s ++ r) with
    | ok w st1 => simp only [Res.thenS]; rcases w with _ | ⟨a, _ | ⟨b, _ | ⟨c, d⟩⟩⟩ <;> rfl
    | _ => rfl
  rw [e]
  exact z
theorem j_aU {gs : List TM} {o : O σ X} (h : JA B n K G cs (finU gs rest) [] tr s o) : J B n K G cs (bCons (sUnp gs tr) rest) s o := fun env r q => by
  have z := h env r q
  have e : bCons (sUnp gs tr) rest env (B.st s ++ r) = (tr env (B.st s ++ r)).thenS fun ws st => finU gs rest ([] ++ ws) env st := by
    unfold bCons sUnp
    cases tr env (B.st s ++ r) with
    | ok w st1 =>
      simp only [Res.thenS, finU, List.nil_append]
      cases hs : small w.length with
      | false => rfl
      | true => simp only [if_true]; cases msRun gs w env st1 <;> rfl
    | _ => rfl
  rw [e]
  exact z
end
end TL

set_option Elab.async false
set_option linter.all false
set_option maxRecDepth 100000
set_option maxHeartbeats 4000000
set_option autoImplicit false
/-! T10: dicts, typed. -/
namespace TL
open VS PySem PySem.Spec PyProof.Rows L2
/-- the one or the other -/
inductive Ei (α β : Type) where
  | a (x : α) | b (x : β)
instance {α β : Type} [En α] [En β] : En (Ei α β) := ⟨fun o => match o with
  | .a x => En.e x
  | .b x => En.e x⟩
class Ky (κ : Type) [En κ] where
  key : κ → Key
  ok : ∀ a, keyF (En.e a) = some (key a)
  inj : ∀ a b, key a = key b → a = b
theorem S_inj {a b : List Nat} (h : S a = S b) : a = b := by
  unfold S at h
  injection h with h
  simpa using h
instance : Ky Int := ⟨fun i => .inl i, fun _ => rfl, fun a b h => by injection h⟩
instance : Ky (List Nat) := ⟨fun i => .inr (S i), fun _ => rfl, fun a b h => by injection h with h; exact S_inj h⟩
instance : Ky Ch := ⟨fun i => .inr (S [i.c]), fun _ => rfl, fun a b h => by
  injection h with h
  have := S_inj h
  cases a; cases b
  simp at this
  rw [this]⟩
section
variable {κ ν : Type} [En κ] [En ν] [Ky κ] [DecidableEq κ]
end
section
variable {σ κ ν : Type} {wr : Wr σ} {B : Bs wr} {n : Nat} {G : List (Nat × W)} {cs cs1 cs2 : List (Nat × Cell)} {s : σ} [En κ] [En ν] {ts : List (TEv × TEv)} {tk tv : TEv} {q : σ → O σ (List (κ × ν))}
end
end TL

set_option Elab.async false
set_option linter.all false
set_option maxRecDepth 100000
set_option maxHeartbeats 4000000
set_option autoImplicit false
/-! T11: changes of type inside lists and pairs. -/
namespace TL
open VS PySem PySem.Spec PyProof.Rows L2
theorem co_pair {α β γ δ : Type} [En α] [En β] [En γ] [En δ] {f : α → β} {g : γ → δ} (hf : ∀ a, (En.e (f a) : F) = En.e a) (hg : ∀ a, (En.e (g a) : F) = En.e a) : ∀ p : α × γ, (En.e (f p.1, g p.2) : F) = En.e p := fun p => by
  show F.tup [En.e (f p.1), En.e (g p.2)] = F.tup [En.e p.1, En.e p.2]
  rw [hf, hg]
theorem co_id {α : Type} [En α] : ∀ a : α, (En.e (id a) : F) = En.e a := fun _ => rfl
end TL

set_option Elab.async false
set_option linter.all false
set_option maxRecDepth 100000
set_option maxHeartbeats 4000000
set_option autoImplicit false
/-! T12: own objects' !=. -/
namespace TL
open VS
section
variable {σ α β : Type} {wr : Wr σ} {B : Bs wr} {n : Nat} {G : List (Nat × W)} {cs cs1 : List (Nat × Cell)} {ta tb : TEv} {s : σ} {m : FnM} [En α] [En β] {o1 : O σ α} {o2 : σ → O σ β}
end
section
variable {β : Type} [En β]
end
section
variable {σ X : Type} {wr : Wr σ} {B : Bs wr} {n : Nat} {K : X → σ → SR → Prop} {G : List (Nat × W)} {cs : List (Nat × Cell)} {rest : TSv} {s : σ} {o : O σ X}
theorem ja_e2 {i j : Nat} {a b : W} (hi : ([i, j].all fun i => decide (i < n)) = true) (h : J B n K (bindG [i, j] (([] ++ [a]) ++ [b]) G) cs rest s o) : JA B n K G cs (fin2 i j rest) (([] ++ [a]) ++ [b]) aNil s o :=
  ja_end (is := [i, j]) hi (fun _ _ => rfl) h
end
/-! names that may be unset -/
section
variable {σ α : Type} {wr : Wr σ} {B : Bs wr} {n : Nat} {G : List (Nat × W)} {cs : List (Nat × Cell)} {s : σ} [En α]
end
end TL

set_option Elab.async false
set_option linter.all false
set_option maxRecDepth 100000
set_option maxHeartbeats 4000000
set_option autoImplicit false
/-! T13: list(..) and str(..), typed; the empty dict. -/
namespace TL
open VS
open L2 (atI ixN)
section
variable {σ α : Type} {wr : Wr σ} {B : Bs wr} {n : Nat} {G : List (Nat × W)} {cs : List (Nat × Cell)} {s : σ}
theorem o_list2L [En α] : Op1T list2F fun (l : List α) => some l := fun a c h => by cases h; rfl
@[irreducible] def listS (t : List Nat) : Option (List Ch) := if small t.length = true then some (t.map Ch.mk) else none
@[irreducible] def strO (i : Int) : Option (List Nat) := if i.natAbs.log2 < 1920 then some (strI i) else none
theorem o_strI : Op1T strF strO := fun a c h => by
  unfold strO at h
  by_cases q : a.natAbs.log2 < 1920
  · rw [if_pos q] at h
    cases h
    show (if a.natAbs.log2 < 1920 then some (F.str (strI a)) else none) = _
    rw [if_pos q]
    rfl
  · rw [if_neg q] at h; cases h
theorem e_dnew : E B n G cs cs (eFrz eDNew) s (.ok (F.dct []) s) := fun env r k => by
  refine Rl.mk (r := r) ?_ k .refl
  show frz _ _ _ = _
  unfold frz
  rw [List.append_assoc, st_len]
  have e3 : deepF (B.b + r.length) (B.st s ++ (r ++ [.dct []])) 3 (.loc (B.b + r.length)) = some (.dct []) := by
    unfold deepF
    rw [if_pos (Nat.le_refl _), st_get]
    simp
  rw [e3, st_take]
  simp only
  have e5 : clean (B.b + r.length) (B.st s ++ r) = true := by
    unfold clean
    rw [List.all_append, Bool.and_eq_true]
    exact ⟨below_all (Nat.le_add_right _ _) (B.clean s), k.cl⟩
  rw [if_pos e5]
  rfl
end
end TL

set_option Elab.async false
set_option linter.all false
set_option maxRecDepth 100000
set_option maxHeartbeats 4000000
set_option autoImplicit false
/-! T14: cells handed to defs that only look at them; defs that tell a new list. -/
namespace TL
open VS
open L2 (atI ixN)
theorem look_deep {st : Store} {w : W} {x : F} (h : look st w = some x) : deepF 0 st 3 w = some x := by
  cases w with
  | f y => cases h; rfl
  | loc n =>
    have h : lookC st[n]? = some x := h
    unfold deepF
    rw [if_pos (Nat.zero_le _)]
    cases q : st[n]? with
    | none => rw [q] at h; cases h
    | some c =>
      rw [q] at h
      cases c <;> first | (cases h; rfl) | cases h
section
variable {σ α β γ R A : Type} {wr : Wr σ} {B : Bs wr} {n : Nat} {G : List (Nat × W)} {cs cs1 : List (Nat × Cell)} {s : σ}
class Sl (α : Type) [En α] : Prop where
  sc : ∀ a : α, flat (En.e a) = true
instance : Sl Int := ⟨fun _ => by unfold flat; rfl⟩
instance : Sl Bool := ⟨fun _ => by unfold flat; rfl⟩
instance : Sl Unit := ⟨fun _ => by unfold flat; rfl⟩
instance : Sl Ch := ⟨fun _ => by unfold flat; rfl⟩
instance : Sl (List Nat) := ⟨fun _ => by unfold flat; rfl⟩
instance {α : Type} [En α] [Sl α] : Sl (Option α) := ⟨fun o => by
  cases o with
  | none => unfold flat; rfl
  | some a => exact Sl.sc a⟩
theorem flats_map {α : Type} [En α] [Sl α] : ∀ l : List α, flats (l.map En.e) = true
  | [] => by rw [List.map_nil]; unfold flats; rfl
  | a :: l => by rw [List.map_cons]; unfold flats; rw [Sl.sc a, flats_map l]; rfl
instance {α β : Type} [En α] [En β] [Sl α] [Sl β] : Sl (α × β) := ⟨fun p => by
  show flat (.tup [En.e p.1, En.e p.2]) = true
  simp only [flat, flats, Sl.sc, Bool.and_self]⟩
instance {α β γ : Type} [En α] [En β] [En γ] [Sl α] [Sl β] [Sl γ] : Sl (T3 α β γ) := ⟨fun p => by
  show flat (.tup [En.e p.a, En.e p.b, En.e p.c]) = true
  simp only [flat, flats, Sl.sc, Bool.and_self]⟩
instance {α : Type} [En α] [Sl α] : Sl (Tu α) := ⟨fun t => by
  show flat (.tup (t.l.map En.e)) = true
  unfold flat
  exact flats_map t.l⟩
/-- arguments that may be cells -/
def EAB {A : Type} [Ar A] (B : Bs wr) (n : Nat) (G : List (Nat × W)) (cs : List (Nat × Cell)) (t : TAv) (s : σ) (q : (β : Type) → (A → σ → O σ β) → O σ β) : Prop :=
  ∃ o : O σ A, (∀ env r, Ok B.b n G cs env r → match o with
    | .ok x s' => ∃ ws r', t env (B.st s ++ r) = .ok ws (B.st s' ++ r') ∧ Ok B.b n G cs env r' ∧ Pr r r' ∧ ∀ s'' r'', Ok B.b n G cs env r'' → ∃ xs, thaw (B.st s'' ++ r'') ws = some xs ∧ xs.map W.f = Ar.ws x
    | .ex c fs s' => ∃ r', t env (B.st s ++ r) = .exc c fs (B.st s' ++ r') ∧ Ok B.b n G [] env r'
    | .no => True) ∧ ∀ β k, q β k = o.bind k
theorem ab_nil : EAB (A := Unit) B n G cs aNil s (fun _ k => k () s) := ⟨.ok () s, fun env r k => ⟨[], r, rfl, k, .refl, fun _ _ _ => ⟨[], rfl, rfl⟩⟩, fun _ _ => rfl⟩
theorem ab_cons [En α] [Ar A] {ta : TEv} {tr : TAv} {o1 : O σ α} {q : σ → (β : Type) → (A → σ → O σ β) → O σ β} (h1 : EL B n G cs cs ta s o1) (h2 : ∀ s1, EAB B n G cs tr s1 (q s1)) :
    EAB B n G cs (aCons ta tr) s (fun β k => o1.bind fun a s1 => q s1 β fun x s2 => k (a, x) s2) := by
  obtain ⟨oa, h3⟩ := Classical.axiomOfChoice h2
  refine ⟨o1.bind fun a s1 => (oa s1).bind fun x s2 => .ok (a, x) s2, fun env r k => ?_, fun β kk => ?_⟩
  · have q1 := h1 env r k
    cases o1 with
    | no => trivial
    | ex c fs s1 =>
      obtain ⟨r1, e, k1⟩ := q1
      refine ⟨r1, ?_, k1⟩
      unfold aCons
      rw [e]; rfl
    | ok a s1 =>
      obtain ⟨w, r1, e, k1, p1, hw⟩ := q1
      have q2 := (h3 s1).1 env r1 k1
      simp only [bind_ok]
      cases e0 : oa s1 with
      | no => trivial
      | ex c fs s2 =>
        rw [e0] at q2
        obtain ⟨r2, e2, k2⟩ := q2
        refine ⟨r2, ?_, k2⟩
        unfold aCons
        rw [e]
        show Res.bind (tr env (B.st s1 ++ r1)) _ = _
        rw [e2]; rfl
      | ok x s2 =>
        rw [e0] at q2
        obtain ⟨ws, r2, e2, k2, p2, hws⟩ := q2
        refine ⟨w :: ws, r2, ?_, k2, p1.trans p2, fun s3 r3 k3 => ?_⟩
        · unfold aCons
          rw [e]
          show Res.bind (tr env (B.st s1 ++ r1)) _ = _
          rw [e2]; rfl
        · obtain ⟨xs, e3, e4⟩ := hws s3 r3 k3
          refine ⟨En.e a :: xs, ?_, ?_⟩
          · show (deepF 0 _ 3 w).bind _ = _
            rw [look_deep (hw s3 r3 env k3), e3]; rfl
          · rw [List.map_cons, e4]; rfl
  · simp only [(h3 _).2, bind_assoc, bind_ok]
theorem bor_ok [Ar A] [En R] [Sl R] {m : FnM} {d : A → P R} (hF : FnP m d) {x : A} {ws : List W} {xs : List F} {st : Store} (h : thaw st ws = some xs) (e : xs.map W.f = Ar.ws x) {a : R} (hd : d x = .ok a ()) : bor m ws st = .ok (w_ a) st := by
  have q := hF [] () x (by unfold Cl; rfl)
  simp only [hd] at q
  have q : m (Ar.ws x) [] = .ok (w_ a) [] := q
  unfold bor
  rw [h]
  show borR st (m (xs.map W.f) []) = _
  rw [e, q]
  show (if flat (En.e a) = true then _ else _) = _
  rw [if_pos (Sl.sc a)]
/-- .. called: raises are not told -/
def noEx {α : Type} (p : P α) : P α := match p with
  | .ok a s => .ok a s
  | _ => .no
theorem e_callB [Ar A] [En R] [Sl R] {m : FnM} {tr : TAv} {d : A → P R} {q : (β : Type) → (A → σ → O σ β) → O σ β} (F : FnP m d) (h : EAB B n G cs tr s q) : E B n G cs cs (eCall (bor m) tr) s (q _ fun x s1 => (noEx (d x)).up s1) := fun env r k => by
  obtain ⟨o, h, hq⟩ := h
  rw [hq]
  have z := h env r k
  unfold eCall
  cases o with
  | no => trivial
  | ex c fs s1 => obtain ⟨r1, e, k1⟩ := z; rw [e]; exact ⟨r1, rfl, k1⟩
  | ok x s1 =>
    obtain ⟨ws, r1, e, k1, p1, hw⟩ := z
    rw [e]
    show Rl _ _ _ _ _ _ _ (bor m ws (B.st s1 ++ r1)) ((noEx (d x)).up s1)
    obtain ⟨xs, e1, e2⟩ := hw s1 r1 k1
    cases hd : d x with
    | no => trivial
    | ex c fs u => trivial
    | ok a u => exact Rl.mk (bor_ok F e1 e2 hd) k1 p1
end
end TL
namespace TL
open VS
open L2 (atI ixN)
section
variable {σ α β γ R A X : Type} {wr : Wr σ} {B : Bs wr} {n : Nat} {G : List (Nat × W)} {cs cs1 cs2 : List (Nat × Cell)} {s : σ} {K : X → σ → SR → Prop} {rest t : TSv} {te tc to : TEv} {tr : TAv} {m : FnM}
end
end TL

set_option Elab.async false
set_option linter.all false
set_option maxRecDepth 100000
set_option maxHeartbeats 4000000
set_option autoImplicit false
/-! T15: objects whose lists are cells: while they are made. -/
namespace TL
open VS
open L2 (atI ixN)
section
variable {σ α β γ R A X : Type} {wr : Wr σ} {B : Bs wr} {n : Nat} {G : List (Nat × W)} {cs cs1 cs2 : List (Nat × Cell)} {s : σ} {K : X → σ → SR → Prop} {rest t : TSv} {ta tb te tc to : TEv} {tr : TAv} {m : FnM} {T : Tab}
/-- the fields of an object, some of them cells -/
inductive OF (b : Nat) (cs : List (Nat × Cell)) : List (Nat × W) → List (Nat × F) → Prop
  | nil : OF b cs [] []
  | val {i : Nat} {x : F} {fs : List (Nat × W)} {xs : List (Nat × F)} : OF b cs fs xs → OF b cs ((i, .f x) :: fs) ((i, x) :: xs)
  | cell {i k : Nat} {ys : List F} {fs : List (Nat × W)} {xs : List (Nat × F)} : (k, Cell.lstF ys) ∈ cs → OF b cs fs xs → OF b cs ((i, .loc (b + k)) :: fs) ((i, .lst ys) :: xs)
theorem of_deep {env : Env} {r : Store} (q : Ok B.b n G cs env r) {b m : Nat} (hb : b ≤ B.b) : ∀ {fs : List (Nat × W)} {xs : List (Nat × F)}, OF B.b cs fs xs → (fs.mapM fun p => (deepF b (B.st s ++ r) (m + 1) p.2).map fun x => (p.1, x)) = some xs
  | _, _, .nil => rfl
  | _, _, .val (i := i) (x := x) (fs := fs) t => by
    have ih := of_deep q (m := m) hb t
    rw [List.mapM_cons, ih]
    simp [deepF]
  | _, _, .cell (i := i) (k := k) (ys := ys) (fs := fs) hc t => by
    have ih := of_deep q (m := m) hb t
    rw [List.mapM_cons, ih]
    have e : deepF b (B.st s ++ r) (m + 1) (.loc (B.b + k)) = some (.lst ys) := by
      unfold deepF
      rw [if_pos (by omega), st_get, q.cell _ _ hc]
    simp [e]
theorem ob_deep [En α] {env : Env} {r : Store} (q : Ok B.b n G cs env r) {b k c : Nat} (hb : b ≤ B.b) {fs : List (Nat × W)} {xs : List (Nat × F)} {x : α} (hm : (k, .ins c fs) ∈ cs) (ho : OF B.b cs fs xs) (he : (En.e x : F) = .obj c xs) :
    deepF b (B.st s ++ r) 3 (.loc (B.b + k)) = some (En.e x) := by
  rw [he]
  unfold deepF
  rw [if_pos (by omega), st_get, q.cell _ _ hm]
  simp only
  rw [of_deep q hb ho]
  rfl
theorem ob_cls {env : Env} {r : Store} (q : Ok B.b n G cs env r) {k c : Nat} {fs : List (Nat × W)} (hm : (k, .ins c fs) ∈ cs) : clsW (B.st s ++ r) (.loc (B.b + k)) = some c := by
  show (match (B.st s ++ r)[B.b + k]? with
    | some (.ins c _) => some c
    | _ => none) = _
  rw [st_get, q.cell _ _ hm]
/-- a method of an object that is being made -/
theorem e_methB [En α] [Ar A] [En R] [Sl R] {c i0 k : Nat} {fs : List (Nat × W)} {xs : List (Nat × F)} {x : α} {d : α × A → P R} {q : (β : Type) → (A → σ → O σ β) → O σ β} (hv : lk G i0 = some (.loc (B.b + k))) (hm : (k, .ins c fs) ∈ cs) (ho : OF B.b cs fs xs) (he : (En.e x : F) = .obj c xs) (F : FnP m d) (h : EAB B n G cs tr s q) :
    E B n G cs cs (eMeth c (bor m) (eVar i0) tr) s (q _ fun y s1 => (noEx (d (x, y))).up s1) := fun env r kk => by
  obtain ⟨o, h, hq⟩ := h
  rw [hq]
  have z := h env r kk
  have ev : eVar i0 env (B.st s ++ r) = .ok (.loc (B.b + k)) (B.st s ++ r) := by
    unfold eVar
    rw [kk.var i0 _ hv]
  unfold eMeth
  rw [ev]
  simp only [Res.bind]
  rw [if_pos (ob_cls kk hm)]
  cases o with
  | no => trivial
  | ex c fs s1 => obtain ⟨r1, e, k1⟩ := z; rw [e]; exact ⟨r1, rfl, k1⟩
  | ok y s1 =>
    obtain ⟨ws, r1, e, k1, p1, hw⟩ := z
    rw [e]
    obtain ⟨ys, e1, e2⟩ := hw s1 r1 k1
    simp only [bind_ok]
    cases hd : d (x, y) with
    | no => trivial
    | ex c fs u => trivial
    | ok a u =>
      refine Rl.mk ?_ k1 p1
      have e3 : thaw (B.st s1 ++ r1) (.loc (B.b + k) :: ws) = some (En.e x :: ys) := by
        show (deepF 0 _ 3 _).bind _ = _
        rw [ob_deep k1 (Nat.zero_le _) hm ho he, e1]
        rfl
      exact bor_ok (x := (x, y)) F e3 (by rw [List.map_cons, e2]; rfl) hd
theorem e_methBU [En α] [Ar A] [En R] [Sl R] {B : Bs wU} {s : Unit} {c i0 k : Nat} {fs : List (Nat × W)} {xs : List (Nat × F)} {x : α} {d : α × A → P R} {q : (β : Type) → (A → Unit → O Unit β) → O Unit β} (hv : lk G i0 = some (.loc (B.b + k))) (hm : (k, .ins c fs) ∈ cs) (ho : OF B.b cs fs xs) (he : (En.e x : F) = .obj c xs) (F : FnP m d) (h : EAB B n G cs tr s q) :
    E B n G cs cs (eMeth c (bor m) (eVar i0) tr) s (q _ fun y _ => noEx (d (x, y))) := fun env r k => by
  have z := e_methB hv hm ho he F h env r k
  simp only [up_unit] at z
  exact z
/-- self.f, a list's cell -/
theorem el_attrF [En α] {c i i0 k k' : Nat} {fs : List (Nat × W)} {l : List α} (hv : lk G i0 = some (.loc (B.b + k))) (hm : (k, .ins c fs) ∈ cs) (hf : fs.lookup i = some (.loc (B.b + k'))) (hc : (k', cl_ l) ∈ cs) : EL B n G cs cs (eAttr i (eVar i0)) s (.ok l s) := fun env r q => by
  have ev : eVar i0 env (B.st s ++ r) = .ok (.loc (B.b + k)) (B.st s ++ r) := by
    unfold eVar
    rw [q.var i0 _ hv]
  refine ⟨.loc (B.b + k'), r, ?_, q, .refl, fun s2 r2 env2 ok2 => ?_⟩
  · unfold eAttr
    rw [ev]
    show ofW (match (B.st s ++ r)[B.b + k]? with
      | some (.ins _ fs) => fs.lookup i
      | _ => none) _ = _
    rw [st_get, q.cell _ _ hm]
    show ofW (fs.lookup i) _ = _
    rw [hf]; rfl
  · show lookC (B.st s2 ++ r2)[B.b + k']? = _
    rw [st_get, ok2.cell _ _ hc]
    rfl
theorem e_ixEL [En α] {o1 : O σ (List α)} {oi : σ → O σ Int} (h1 : EL B n G cs cs ta s o1) (h2 : ∀ s1, E B n G cs cs tb s1 (oi s1)) : E B n G cs cs (eIx ta tb) s (o1.bind fun l s1 => (oi s1).bind fun i s2 => ofO (atI l i) s2) := fun env r q => by
  unfold eIx
  refine h1.bind q fun l s1 w r1 k1 p1 hw => ?_
  refine Rl.up p1 ?_
  refine (h2 s1 env r1 k1).bind fun i s2 r2 _ k2 p2 => ?_
  refine Rl.opt (fun a ha => ?_) k2 p2
  have hl := hw s2 r2 env k2
  cases w with
  | f x =>
    have hl : x = F.lst (l.map En.e) := Option.some.inj hl
    subst hl
    show ofW ((atI (l.map En.e) i).map W.f) _ = _
    rw [atI_map, ha]; rfl
  | loc nn =>
    have hl : lookC (B.st s2 ++ r2)[nn]? = some (F.lst (l.map En.e)) := hl
    show ofW (ixC i (B.st s2 ++ r2)[nn]?) _ = _
    cases hq : (B.st s2 ++ r2)[nn]? with
    | none => rw [hq] at hl; cases hl
    | some cc =>
      rw [hq] at hl
      cases cc with
      | lstF ys =>
        cases hl
        show ofW ((atI (l.map En.e) i).map W.f) _ = _
        rw [atI_map, ha]; rfl
      | dct _ => cases hl
      | dti _ => cases hl
      | dead => cases hl
      | lstW _ => cases hl
      | ins _ _ => cases hl
theorem j_appA [En α] {c i i0 k k' p : Nat} {fs : List (Nat × W)} {l : List α} {o : O σ α} {kk : List α → σ → O σ X} (hv : lk G i0 = some (.loc (B.b + k))) (hm : (k, .ins c fs) ∈ cs) (hf : fs.lookup i = some (.loc (B.b + k'))) (h : E B n G cs cs1 te s o) (hc0 : (k', cl_ l) ∈ cs) (hp : cs1[p]? = some (k', cl_ l))
    (hr : ∀ l' s1, J B n K G (cs1.set p (k', cl_ l')) rest s1 (kk l' s1)) : J B n K G cs (bCons (sExpr (eMut false cAppend (eAttr i (eVar i0)) (aCons te aNil))) rest) s (o.bind fun a s1 => (appO l a s1).bind kk) := fun env r q => by
  have ev : eAttr i (eVar i0) env (B.st s ++ r) = .ok (.loc (B.b + k')) (B.st s ++ r) := by
    have e0 : eVar i0 env (B.st s ++ r) = .ok (.loc (B.b + k)) (B.st s ++ r) := by
      unfold eVar
      rw [q.var i0 _ hv]
    unfold eAttr
    rw [e0]
    show ofW (match (B.st s ++ r)[B.b + k]? with
      | some (.ins _ fs) => fs.lookup i
      | _ => none) _ = _
    rw [st_get, q.cell _ _ hm]
    show ofW (fs.lookup i) _ = _
    rw [hf]; rfl
  have e : bCons (sExpr (eMut false cAppend (eAttr i (eVar i0)) (aCons te aNil))) rest env (B.st s ++ r) = (te env (B.st s ++ r)).thenS fun w st1 => (doCell cAppend (B.b + k') [w] st1).thenS fun _ st2 => rest env st2 := by
    unfold bCons sExpr eMut aCons aNil
    rw [ev]
    simp only [Res.bind]
    rw [if_pos (by rw [st_get, q.cell _ _ hc0]; rfl)]
    cases te env (B.st s ++ r) with
    | ok w st1 =>
      simp only [Res.bind, Res.thenS]
      cases doCell cAppend (B.b + k') [w] st1 <;> rfl
    | _ => rfl
  rw [e]
  refine (h env r q).thenS fun a s1 r1 _ k1 p1 => ?_
  have hc := k1.cell _ _ (List.mem_of_getElem? hp)
  unfold appO
  by_cases hl : small (l.length + 1) = true
  · rw [if_pos hl]
    have e5 : doCell cAppend (B.b + k') [w_ a] (B.st s1 ++ r1) = .ok (.f .non) (B.st s1 ++ r1.set k' (cl_ (l ++ [a]))) := by
      unfold doCell
      rw [st_get, hc]
      simp only [cAppend]
      rw [if_pos (by rw [List.length_map]; exact hl)]
      simp only [st_set]
      show Res.ok _ (B.st s1 ++ r1.set k' (.lstF (l.map En.e ++ [En.e a]))) = Res.ok _ (B.st s1 ++ r1.set k' (.lstF ((l ++ [a]).map En.e)))
      rw [List.map_append]
      rfl
    simp only [ofO, bind_ok]
    rw [e5]
    simp only [Res.thenS]
    exact hr _ s1 env _ (k1.write hp rfl)
  · rw [if_neg hl]; trivial
/-! several fields at once -/
def putAll : List Nat → List W → List (Nat × W) → List (Nat × W)
  | i :: is, w :: ws, fs => putAll is ws (putA i w fs)
  | _, _, fs => fs
theorem putA_len (i : Nat) (w : W) : ∀ fs : List (Nat × W), (putA i w fs).length ≤ fs.length + 1
  | [] => by simp [putA]
  | (j, u) :: r => by
    unfold putA
    split
    · simp
    · have := putA_len i w r; simp only [List.length_cons]; omega
theorem ms_attr {i0 k c : Nat} {env : Env} (hv : env[i0]? = some (some (.loc (B.b + k)))) : ∀ (is : List Nat) (ws : List W) (fs : List (Nat × W)) (r : Store), is.length = ws.length → (is.all fun i => T.okf c i) = true → fs.length + is.length < 1000 → r[k]? = some (.ins c fs) →
    msRun (is.map fun i => mAt T i (eVar i0)) ws env (B.st s ++ r) = some (env, B.st s ++ r.set k (.ins c (putAll is ws fs)))
  | [], [], fs, r, _, _, _, hr => by
    show some (env, B.st s ++ r) = _
    unfold putAll
    have : r.set k (.ins c fs) = r := by
      apply List.ext_getElem?
      intro j
      by_cases hj : k = j
      · subst hj
        rw [List.getElem?_set_self (List.getElem?_eq_some_iff.mp hr).1, hr]
      · rw [List.getElem?_set_ne hj]
    rw [this]
  | [], _ :: _, _, _, h, _, _, _ => by simp at h
  | _ :: _, [], _, _, h, _, _, _ => by simp at h
  | i :: is, w :: ws, fs, r, hl, ho, hf, hr => by
    rw [List.all_cons, Bool.and_eq_true] at ho
    simp only [List.length_cons] at hl hf
    have hk := (List.getElem?_eq_some_iff.mp hr).1
    have e1 : mAt T i (eVar i0) w env (B.st s ++ r) = some (env, B.st s ++ r.set k (.ins c (putA i w fs))) := by
      unfold mAt eVar
      rw [hv]
      show (setA T i w (B.st s ++ r) (.loc (B.b + k))).map _ = _
      have e2 : setA T i w (B.st s ++ r) (.loc (B.b + k)) = some (B.st s ++ r.set k (.ins c (putA i w fs))) := by
        show (match (B.st s ++ r)[B.b + k]? with
          | some (.ins c fs) => if T.okf c i = true ∧ fs.length < 1000 then some ((B.st s ++ r).set (B.b + k) (Cell.ins c (putA i w fs))) else none
          | _ => none) = _
        rw [st_get, hr]
        show (if T.okf c i = true ∧ fs.length < 1000 then some ((B.st s ++ r).set (B.b + k) (Cell.ins c (putA i w fs))) else none) = _
        rw [if_pos ⟨ho.1, by omega⟩, st_set]
      rw [e2]
      rfl
    show (mAt T i (eVar i0) w env (B.st s ++ r)).bind (fun x => msRun (is.map fun i => mAt T i (eVar i0)) ws x.1 x.2) = _
    rw [e1]
    have hp := putA_len i w fs
    have ih := ms_attr hv is ws (putA i w fs) (r.set k (.ins c (putA i w fs))) (by omega) ho.2 (by omega) (List.getElem?_set_self hk)
    rw [List.set_set] at ih
    exact ih
theorem below_putW {b i : Nat} {w : W} (hw : w.below b = true) : ∀ {fs : List (Nat × W)}, (fs.all fun p => p.2.below b) = true → ((putA i w fs).all fun p => p.2.below b) = true
  | [], _ => by show (w.below b && true) = true; rw [hw]; rfl
  | (j, u) :: fs, h => by
    rw [List.all_cons, Bool.and_eq_true] at h
    unfold putA
    by_cases hj : j = i
    · rw [if_pos hj, List.all_cons, Bool.and_eq_true]; exact ⟨hw, h.2⟩
    · rw [if_neg hj, List.all_cons, Bool.and_eq_true]; exact ⟨h.1, below_putW hw h.2⟩
theorem below_all' {b : Nat} : ∀ {is : List Nat} {ws : List W} {fs : List (Nat × W)}, (∀ w ∈ ws, w.below b = true) → (fs.all fun p => p.2.below b) = true → ((putAll is ws fs).all fun p => p.2.below b) = true
  | [], _, _, _, h => by unfold putAll; exact h
  | _ :: _, [], _, _, h => by unfold putAll; exact h
  | i :: is, w :: ws, fs, hw, h => by
    unfold putAll
    exact below_all' (fun x hx => hw x (by simp [hx])) (below_putW (hw w (by simp)) h)
/-- the values of the targets: data, or cells that are known -/
def AccOk (b : Nat) (cs : List (Nat × Cell)) (w : W) : Prop := (∃ x, w = .f x) ∨ ∃ k c, w = .loc (b + k) ∧ (k, c) ∈ cs
theorem acc_nil {b : Nat} : ∀ w ∈ ([] : List W), AccOk b cs w := fun w hw => absurd hw (by simp)
theorem acc_app {b : Nat} {acc : List W} {w : W} (h : ∀ w ∈ acc, AccOk b cs w) (hw : AccOk b cs w) : ∀ x ∈ acc ++ [w], AccOk b cs x := fun x hx => by
  rcases List.mem_append.mp hx with q | q
  · exact h x q
  · rw [List.mem_singleton] at q; subst q; exact hw
theorem acc_c {b k : Nat} {c : Cell} (h : (k, c) ∈ cs) : AccOk b cs (.loc (b + k)) := .inr ⟨k, c, rfl, h⟩
theorem ja_endA {i0 k c p : Nat} {is : List Nat} {acc : List W} {fs : List (Nat × W)} {o : O σ X} (hv : lk G i0 = some (.loc (B.b + k))) (hT : (is.all fun i => T.okf c i) = true) (hp : cs[p]? = some (k, .ins c fs)) (hl : is.length = acc.length) (hf : fs.length + is.length < 1000)
    (ha : ∀ w ∈ acc, AccOk B.b cs w) (h : J B n K G (cs.set p (k, .ins c (putAll is acc fs))) rest s o) : JA B n K G cs (finU (is.map fun i => mAt T i (eVar i0)) rest) acc aNil s o := fun env r q => by
  show RlS B K (finU (is.map fun i => mAt T i (eVar i0)) rest (acc ++ []) env (B.st s ++ r)) o
  rw [List.append_nil]
  unfold finU
  have hm := q.cell _ _ (List.mem_of_getElem? hp)
  rw [if_pos (by unfold small; exact decide_eq_true (by omega)), ms_attr (q.var i0 _ hv) is acc fs r hl hT hf hm]
  refine h env _ (q.write hp ?_)
  have hb : Cell.below (B.b + r.length) (.ins c fs) = true := List.all_eq_true.mp q.cl _ (List.mem_of_getElem? hm)
  refine below_all' (fun w hw => ?_) hb
  rcases ha w hw with ⟨x, rfl⟩ | ⟨k', c', rfl, hk⟩
  · rfl
  · have := q.cell_lt hk
    show decide (B.b + k' < B.b + r.length) = true
    exact decide_eq_true (by omega)
/-! the end of __init__ -/
def Ki2 [En R] (c : Nat) (B : Bs wU) : R → Unit → SR → Prop := fun x _ sr => ∃ r' fs xs i k, ((∃ env', sr = .nx env' (B.rest ++ r')) ∨ sr = .rt (.f .non) (B.rest ++ r')) ∧ r'[0]? = some (.ins c fs) ∧ (i, W.loc (B.b + (k + 1))) ∈ fs ∧ deepF B.b (B.rest ++ r') 3 (.loc (B.b + 0)) = some (.obj c xs) ∧ (En.e x : F) = .obj c xs
theorem end_i2 [En R] {B : Bs wU} {c i k : Nat} {ys : List F} {x : R} {fs : List (Nat × W)} {xs : List (Nat × F)} (hm : (0, Cell.ins c fs) ∈ cs) (ho : OF B.b cs fs xs) (hc : (k, Cell.lstF ys) ∈ cs) (hi : (i, W.loc (B.b + k)) ∈ fs) (he : (En.e x : F) = .obj c xs) : EndK B n (Ki2 c B) G cs x := fun env r s q => by
  obtain ⟨k', rfl⟩ : ∃ k', k = k' + 1 := by
    cases k with
    | zero =>
      have h1 := q.cell _ _ hm
      have h2 := q.cell _ _ hc
      rw [h1] at h2
      cases h2
    | succ k' => exact ⟨k', rfl⟩
  refine ⟨r, fs, xs, i, k', .inl ⟨env, rfl⟩, q.cell _ _ hm, hi, ?_, he⟩
  have := ob_deep (s := s) (b := B.b) q (Nat.le_refl _) hm ho he
  rw [he] at this
  exact this
theorem mk_ok2 [En R] [Ar A] {np c : Nat} {d : A → P R} (hw : ∀ a : A, (Ar.ws a).length + 1 = np) (hn : np ≤ n) (h : ∀ (B : Bs wU) (a : A) (s : Unit), J B n (Ki2 c B) (argG 0 (.loc (B.b + 0) :: Ar.ws a)) [(0, .ins c [])] t s (d a)) : FnP (mkF c (fnM np n t)) d := fun rest s a hcl => by
  have hcl : Cl rest := hcl
  have z := h (mkB wU rest () hcl) a () ((W.loc (rest.length + 0) :: Ar.ws a).map some ++ List.replicate (n - (W.loc (rest.length + 0) :: Ar.ws a).length) none) [.ins c []] (ok_start (by rw [List.length_cons, hw]; exact hn) (by simp [clean, Cell.below]) (by simp) (fun k c' q => by simp at q; obtain ⟨rfl, rfl⟩ := q; rfl))
  have z : RlS (mkB wU rest () hcl) (Ki2 c (mkB wU rest () hcl)) (t ((W.loc (rest.length + 0) :: Ar.ws a).map some ++ List.replicate (n - (W.loc (rest.length + 0) :: Ar.ws a).length) none) (rest ++ [.ins c []])) (d a) := z
  rw [Nat.add_zero] at z
  have e : fnM np n t (W.loc rest.length :: Ar.ws a) (rest ++ [.ins c []]) = (match t ((W.loc rest.length :: Ar.ws a).map some ++ List.replicate (n - (W.loc rest.length :: Ar.ws a).length) none) (rest ++ [.ins c []]) with
      | .rt w st1 => retW (rest ++ [Cell.ins c []]).length w st1
      | .nx _ st1 => retW (rest ++ [Cell.ins c []]).length (.f .non) st1
      | .exc c fs st1 => .exc c fs st1
      | _ => .stuck) := by
    unfold fnM runFn
    rw [if_pos (by rw [List.length_cons]; exact hw a)]
    all_goals (cases t ((W.loc rest.length :: Ar.ws a).map some ++ List.replicate (n - (W.loc rest.length :: Ar.ws a).length) none) (rest ++ [.ins c []]) <;> rfl)
  dsimp only
  cases ed : d a with
  | no => trivial
  | ex c' fs s' =>
    rw [ed] at z
    obtain ⟨r', e1, e2⟩ := z
    refine ⟨r', ?_, ?_⟩
    · show mkF c (fnM np n t) (Ar.ws a) rest = .exc c' fs (rest ++ r')
      unfold mkF
      rw [e, e1]
      rfl
    · show Cl (rest ++ r')
      unfold Cl VS.clean at hcl ⊢
      rw [List.all_append, Bool.and_eq_true, List.length_append]
      exact ⟨below_all (Nat.le_add_right _ _) hcl, e2⟩
  | ok x s' =>
    rw [ed] at z
    obtain ⟨r', fs, xs, i, k, e1, e2, e3, e4, e5⟩ := z
    have hb : (mkB wU rest () hcl).b = rest.length := rfl
    have hrr : (mkB wU rest () hcl).rest = rest := rfl
    rw [hb] at e3 e4
    rw [hrr] at e1 e4
    rw [Nat.add_zero] at e4
    obtain ⟨r2, rfl⟩ : ∃ r2, r' = .ins c fs :: r2 := by
      cases r' with
      | nil => cases e2
      | cons y r2 => simp at e2; subst e2; exact ⟨r2, rfl⟩
    have hnc : clean (rest.length + 1) ((rest ++ .ins c fs :: r2).take (rest.length + 1)) = false := by
      have : (rest ++ .ins c fs :: r2).take (rest.length + 1) = rest ++ [.ins c fs] := by
        rw [List.take_append, List.take_of_length_le (by omega), show rest.length + 1 - rest.length = 1 by omega]
        rfl
      rw [this]
      unfold clean
      rw [List.all_append, Bool.and_eq_false_iff]
      right
      show (Cell.below (rest.length + 1) (.ins c fs) && true) = false
      rw [Bool.and_true]
      show (fs.all fun p => p.2.below (rest.length + 1)) = false
      rw [List.all_eq_false]
      refine ⟨_, e3, ?_⟩
      show ¬ (decide (rest.length + (k + 1) < rest.length + 1) = true)
      simp
    have er : retW (rest ++ [Cell.ins c []]).length (.f .non) (rest ++ .ins c fs :: r2) = .ok (.f .non) (rest ++ .ins c fs :: r2) := by
      unfold retW
      rw [List.length_append, List.length_singleton, hnc]
    have e6 : fnM np n t (W.loc rest.length :: Ar.ws a) (rest ++ [.ins c []]) = .ok (.f .non) (rest ++ .ins c fs :: r2) := by
      rw [e]
      rcases e1 with ⟨env', e1⟩ | e1
      · rw [e1]; exact er
      · rw [e1]; exact er
    show mkF c (fnM np n t) (Ar.ws a) rest = .ok (w_ x) rest
    unfold mkF
    rw [e6]
    show frz rest.length (.loc rest.length) (rest ++ .ins c fs :: r2) = _
    unfold frz
    rw [e4, List.take_left]
    simp only
    have hc : clean rest.length rest = true := hcl
    rw [if_pos hc, ← e5]
end
end TL

set_option Elab.async false
set_option linter.all false
set_option maxRecDepth 100000
set_option maxHeartbeats 4000000
set_option autoImplicit false
/-! T16: thing in object, xs[::-1], xs.count, xs.insert(0, x). -/
namespace TL
open VS
open L2 (atI ixN)
section
variable {σ α β γ R A X : Type} {wr : Wr σ} {B : Bs wr} {n : Nat} {G : List (Nat × W)} {cs cs1 cs2 : List (Nat × Cell)} {s : σ} {K : X → σ → SR → Prop} {rest t : TSv} {ta tb te tc to : TEv} {tr : TAv} {m : FnM} {T : Tab}
theorem e_inO [En α] [En β] {o1 : O σ β} {o2 : σ → O σ α} {c : Nat} {neg : Bool} {d : α × β × Unit → P Bool} (hc : ∀ (a : α) st, clsW st (w_ a) = some c) (F : FnP m d) (h1 : E B n G cs cs1 ta s o1) (h2 : ∀ s1, E B n G cs1 cs1 tb s1 (o2 s1)) :
    E B n G cs cs1 (eInO c neg m ta tb) s (o1.bind fun b s1 => (o2 s1).bind fun a s2 => ((d (a, b, ())).up s2).bind fun q s3 => .ok (xor q neg) s3) := fun env r k => by
  unfold eInO
  refine (h1 env r k).bind fun b s1 r1 _ k1 hl => ?_
  refine Rl.up hl ?_
  refine (h2 s1 env r1 k1).bind fun a s2 r2 _ k2 hl2 => ?_
  refine Rl.up hl2 ?_
  unfold backBl own2
  rw [if_pos (hc a _)]
  have z := callP (s := s2) F k2 (a, b, ())
  refine z.bind fun q s3 r3 _ k3 p3 => ?_
  refine Rl.mk ?_ k3 p3
  cases neg <;> cases q <;> rfl
theorem e_inOU [En α] [En β] {B : Bs wU} {s : Unit} {o1 : P β} {o2 : Unit → P α} {c : Nat} {neg : Bool} {d : α × β × Unit → P Bool} (hc : ∀ (a : α) st, clsW st (w_ a) = some c) (F : FnP m d) (h1 : E B n G cs cs1 ta s o1) (h2 : ∀ s1, E B n G cs1 cs1 tb s1 (o2 s1)) :
    E B n G cs cs1 (eInO c neg m ta tb) s (o1.bind fun b s1 => (o2 s1).bind fun a s2 => (d (a, b, ())).bind fun q _ => .ok (xor q neg) ()) := fun env r k => by
  have q := e_inO (neg := neg) hc F h1 h2 env r k
  simp only [up_unit] at q
  exact q
/-- list(xs) as a new cell -/
theorem c_list [En α] [En β] {o : O σ α} {f : α → List β} (hf : ∀ a : α, listF (En.e a) = some (F.lst ((f a).map En.e))) (h : EL B n G cs cs1 te s o) : EC B n G cs cs1 (eListM (aCons te aNil)) s (o.bind fun a s1 => .ok (f a) s1) := fun env r k => by
  have z := h env r k
  unfold eListM aCons aNil
  cases o with
  | no => trivial
  | ex c fs s1 => obtain ⟨r1, e, k1⟩ := z; rw [e]; exact ⟨r1, rfl, k1⟩
  | ok a s1 =>
    obtain ⟨w, r1, e, k1, p1, hw⟩ := z
    rw [e]
    refine ⟨r1, ?_, k1, p1⟩
    show lstM [w] (B.st s1 ++ r1) = _
    unfold lstM
    have e2 : looks (B.st s1 ++ r1) [w] = some [En.e a] := by
      simp [looks, hw s1 r1 env k1]
    rw [e2]
    simp only [hf a]
    rw [st_len, List.append_assoc]
end
end TL

set_option Elab.async false
set_option linter.all false
set_option maxRecDepth 100000
set_option maxHeartbeats 4000000
set_option autoImplicit false
/-! T17: data of any kind; lists that hold other lists' cells. -/
namespace TL
open VS
open L2 (atI ixN)
/-! ### data of any kind read as typed -/
class De (α : Type) [En α] where
  d : F → Option α
  de : ∀ x a, d x = some a → (En.e a : F) = x
  ed : ∀ a : α, d (En.e a) = some a
def deI : F → Option Int
  | .int i => some i
  | _ => none
def deB : F → Option Bool
  | .bl i => some i
  | _ => none
def deS : F → Option (List Nat)
  | .str i => some i
  | _ => none
def deC : F → Option Ch
  | .str [c] => some ⟨c⟩
  | _ => none
def deU : F → Option Unit
  | .non => some ()
  | _ => none
instance : De Int := ⟨deI, fun x a h => (by cases x <;> first | (cases h; rfl) | cases h), fun _ => rfl⟩
instance : De Bool := ⟨deB, fun x a h => (by cases x <;> first | (cases h; rfl) | cases h), fun _ => rfl⟩
instance : De Unit := ⟨deU, fun x a h => (by cases x <;> first | (cases h; rfl) | cases h), fun _ => rfl⟩
instance : De F := ⟨some, fun x a h => by cases h; rfl, fun _ => rfl⟩
theorem deC_de (x : F) (a : Ch) (h : deC x = some a) : (En.e a : F) = x := by
  unfold deC at h
  split at h
  · cases h; rfl
  · cases h
instance : De Ch := ⟨deC, deC_de, fun _ => rfl⟩
def mapD {α : Type} (f : F → Option α) : List F → Option (List α)
  | [] => some []
  | x :: xs => (f x).bind fun a => (mapD f xs).map (a :: ·)
theorem mapD_de {α : Type} [En α] [De α] : ∀ (xs : List F) (l : List α), mapD De.d xs = some l → l.map En.e = xs
  | [], l, h => by cases h; rfl
  | x :: xs, l, h => by
    obtain ⟨a, e1, h⟩ := opt_bind_some (show (De.d x).bind (fun a => (mapD De.d xs).map (a :: ·)) = some l from h)
    obtain ⟨l', e2, rfl⟩ := opt_map_some h
    rw [List.map_cons, De.de x a e1, mapD_de xs l' e2]
theorem mapD_ed {α : Type} [En α] [De α] : ∀ l : List α, mapD (De.d (α := α)) (l.map En.e) = some l
  | [] => rfl
  | a :: l => by
    show (De.d (En.e a : F)).bind (fun a => (mapD De.d (l.map En.e)).map (a :: ·)) = some (a :: l)
    rw [De.ed, mapD_ed l]; rfl
def deL {α : Type} (f : F → Option α) : F → Option (List α)
  | .lst xs => mapD f xs
  | _ => none
def deT {α : Type} (f : F → Option α) : F → Option (Tu α)
  | .tup xs => (mapD f xs).map Tu.mk
  | _ => none
def deP {α β : Type} (f : F → Option α) (g : F → Option β) : F → Option (α × β)
  | .tup [x, y] => (f x).bind fun a => (g y).map fun b => (a, b)
  | _ => none
theorem deL_de {α : Type} [En α] [De α] (x : F) (a : List α) (h : deL De.d x = some a) : (F.lst (a.map En.e) : F) = x := by
  cases x with
  | lst xs => rw [mapD_de xs a h]
  | _ => cases h
instance {α : Type} [En α] [De α] : De (List α) := ⟨deL De.d, deL_de, fun a => mapD_ed a⟩
instance : De (List Nat) := ⟨deS, fun x a h => (by cases x <;> first | (cases h; rfl) | cases h), fun _ => rfl⟩
theorem deT_de {α : Type} [En α] [De α] (x : F) (a : Tu α) (h : deT De.d x = some a) : (En.e a : F) = x := by
  cases x with
  | tup xs =>
    obtain ⟨l, e, rfl⟩ := opt_map_some (show (mapD De.d xs).map Tu.mk = some a from h)
    show F.tup (l.map En.e) = _
    rw [mapD_de xs l e]
  | _ => cases h
theorem deT_ed {α : Type} [En α] [De α] (a : Tu α) : deT De.d (En.e a) = some a := by
  show (mapD De.d (a.l.map En.e)).map Tu.mk = some a
  rw [mapD_ed]; rfl
instance {α : Type} [En α] [De α] : De (Tu α) := ⟨deT De.d, deT_de, deT_ed⟩
theorem deP_de {α β : Type} [En α] [En β] [De α] [De β] (x : F) (a : α × β) (h : deP De.d De.d x = some a) : (En.e a : F) = x := by
  unfold deP at h
  split at h
  · rename_i x y
    obtain ⟨u, e1, h⟩ := opt_bind_some h
    obtain ⟨v, e2, rfl⟩ := opt_map_some h
    show F.tup [En.e u, En.e v] = _
    rw [De.de x u e1, De.de y v e2]
  · cases h
theorem deP_ed {α β : Type} [En α] [En β] [De α] [De β] (a : α × β) : deP De.d De.d (En.e a) = some a := by
  show (De.d (En.e a.1 : F)).bind (fun x => (De.d (En.e a.2 : F)).map fun b => (x, b)) = some a
  rw [De.ed, De.ed]; rfl
instance {α β : Type} [En α] [En β] [De α] [De β] : De (α × β) := ⟨deP De.d De.d, deP_de, deP_ed⟩
/-- a list or a tuple of two things -/
structure P2 where
  il : Bool
  a : F
  b : F
instance : En P2 := ⟨fun p => match p.il with
  | true => F.lst [p.a, p.b]
  | false => F.tup [p.a, p.b]⟩
def deP2 (x : F) : Option P2 := match x with
  | .tup [a, b] => some ⟨false, a, b⟩
  | .lst [a, b] => some ⟨true, a, b⟩
  | _ => none
theorem deP2_de (x : F) (a : P2) (h : deP2 x = some a) : (En.e a : F) = x := by
  unfold deP2 at h
  split at h
  · cases h; rfl
  · cases h; rfl
  · cases h
theorem deP2_ed (a : P2) : deP2 (En.e a) = some a := by
  obtain ⟨il, a, b⟩ := a
  cases il <;> rfl
instance : De P2 := ⟨deP2, deP2_de, deP2_ed⟩
/-! ### operations on data of any kind -/
def itA (x : F) : Option (List F) := itemsD x
def eqA (x y : F) : Option Bool := eqB x y
theorem o_eqA {α β : Type} [En α] [En β] : Op2T eqF fun (a : α) (b : β) => eqA (En.e a) (En.e b) := fun a b c h => by
  show (eqB (En.e a) (En.e b)).map F.bl = _
  rw [show eqB (En.e a) (En.e b) = some c from h]; rfl
section
variable {σ α β γ R A X : Type} {wr : Wr σ} {B : Bs wr} {n : Nat} {G : List (Nat × W)} {cs cs1 cs2 : List (Nat × Cell)} {s : σ} {K : X → σ → SR → Prop} {rest t : TSv} {ta tb te tc to : TEv} {tr : TAv} {m : FnM} {T : Tab}
theorem e_de [En α] [De α] {o : O σ F} (h : E B n G cs cs1 te s o) : E B n G cs cs1 te s (o.bind fun a s1 => ofO (De.d a : Option α) s1) := e_cop (fun a b h => De.de a b h) h
theorem e_deA [En α] [En β] [De β] {o : O σ α} (h : E B n G cs cs1 te s o) : E B n G cs cs1 te s (o.bind fun a s1 => ofO (De.d (En.e a) : Option β) s1) := e_cop (fun a b h => De.de _ b h) h
theorem i_enumD {o1 : O σ F} (h1 : E B n G cs cs1 ta s o1) : EI B n G cs cs1 (iEnum (aCons ta aNil)) s (o1.bind fun a s1 => (ofO (itA a) s1).bind fun l s2 => .ok (enI 0 l) s2) := fun env r k => by
  have e : iEnum (aCons ta aNil) env (B.st s ++ r) = (ta env (B.st s ++ r)).bind fun w st1 => enumW [w] st1 := by
    unfold iEnum aCons aNil
    cases ta env (B.st s ++ r) <;> rfl
  rw [e]
  refine (h1 env r k).bind fun a s1 r1 _ k1 hl => ?_
  cases q : itA a with
  | none => trivial
  | some l =>
    refine Rl.mk ?_ k1 hl
    have q : itemsD a = some (l.map (En.e (α := F))) := by
      rw [show (l.map (En.e (α := F))) = l from List.map_id l]
      exact q
    show (match itemsD a with
      | some xs => Res.ok ((enumL 0 xs).map W.f) (B.st s1 ++ r1)
      | _ => .stuck) = _
    rw [q]
    show Res.ok _ _ = Res.ok _ _
    rw [enI_w]
/-! targets: pairs of any kind -/
/-! lists that hold cells -/
/-- what a mixed list holds, as data -/
inductive OFL (b : Nat) (cs : List (Nat × Cell)) : List W → List F → Prop
  | nil : OFL b cs [] []
  | val {x : F} {fs : List W} {xs : List F} : OFL b cs fs xs → OFL b cs (.f x :: fs) (x :: xs)
  | cell {k : Nat} {ys : List F} {fs : List W} {xs : List F} : (k, Cell.lstF ys) ∈ cs → OFL b cs fs xs → OFL b cs (.loc (b + k) :: fs) (.lst ys :: xs)
end
end TL
namespace TL
open VS
section
variable {σ α : Type} {wr : Wr σ} {B : Bs wr} {n : Nat} {G : List (Nat × W)} {cs cs1 : List (Nat × Cell)} {s : σ} {te : TEv}
end
end TL
namespace TL
open VS
section
variable {σ α R : Type} {wr : Wr σ} {B : Bs wr} {n : Nat} {G : List (Nat × W)} {cs cs1 : List (Nat × Cell)} {s : σ} {te : TEv} {m : FnM}
end
end TL

set_option Elab.async false
set_option linter.all false
set_option maxRecDepth 100000
set_option maxHeartbeats 4000000
set_option autoImplicit false
/-! T18: dicts that change, dict comprehensions. -/
namespace TL
open VS
open L2 (atI ixN)
section
variable {σ κ ν β X : Type} {wr : Wr σ} {B : Bs wr} {n : Nat} {G : List (Nat × W)} {cs cs1 cs2 : List (Nat × Cell)} {s : σ} [En κ] [En ν] {ts : List (TEv × TEv)} {q : σ → O σ (List (κ × ν))} {K : X → σ → SR → Prop} {rest : TSv} {ta tb te : TEv} {tr : TAv} {fin : List W → TSv} {acc : List W}
/-! comprehensions -/
end
end TL
namespace TL
open VS
section
variable {σ : Type} {wr : Wr σ} {B : Bs wr} {n : Nat} {G : List (Nat × W)} {cs cs1 : List (Nat × Cell)} {s : σ} {ta tb tc : TEv}
def rgD (hi : Int) (n : Nat) : List Int := (List.range n).map fun i => hi - (i : Nat)
@[irreducible] def rg3 (i j : Int) (s : σ) : O σ (List Int) := ofO (if smI i = true ∧ smI j = true then some (rgD i (i - j).toNat) else none) s
end
end TL
namespace TL
open VS
end TL

set_option Elab.async false
set_option linter.all false
set_option maxRecDepth 100000
set_option maxHeartbeats 4000000
set_option autoImplicit false
/-! T19: raise; what is refused, told. -/
namespace TL
open VS
open L2 (atI ixN)
section
variable {σ α β R A X : Type} {wr : Wr σ} {B : Bs wr} {n : Nat} {K : X → σ → SR → Prop} {G : List (Nat × W)} {cs cs1 : List (Nat × Cell)} {s : σ} {te to tb : TEv} {tr : TAv} {rest : TSv} {m : FnM}
/-- raise C(e) -/
theorem j_raise [En α] {c i : Nat} {o : O σ α} (h : E B n G cs cs1 te s o) : J B n K G cs (bCons (sRaise c i te) rest) s (o.bind fun a s1 => .ex c [(i, En.e a)] s1) := fun env r k => by
  have e : bCons (sRaise c i te) rest env (B.st s ++ r) = (te env (B.st s ++ r)).thenS fun w st1 => match w with
      | .f v => .exc c [(i, v)] st1
      | .loc _ => .stuck := by
    unfold bCons sRaise
    cases te env (B.st s ++ r) with
    | ok w st1 => simp only [Res.thenS]; cases w <;> rfl
    | _ => rfl
  rw [e]
  exact (h env r k).thenS fun a s1 r1 _ k1 p1 => ⟨r1, rfl, k1.cl⟩
/-- .. that may be let out, the cells kept -/
def EX (B : Bs wr) (n : Nat) (G : List (Nat × W)) (cs : List (Nat × Cell)) (t : TEv) (s : σ) (o : O σ α) : Prop :=
  ∀ env r, Ok B.b n G cs env r → match o with
    | .ok _ s' => ∃ w r1, t env (B.st s ++ r) = .ok w (B.st s' ++ r1) ∧ Ok B.b n G cs env r1 ∧ Pr r r1
    | .ex c fs s' => ∃ r1 j, t env (B.st s ++ r) = .exc c fs (B.st s' ++ (r1 ++ j)) ∧ Ok B.b n G cs env r1 ∧ Pr r r1
    | .no => True
/-- never come to -/
theorem e_never [En α] : E B n G cs cs te s (.no : O σ α) := fun _ _ _ => trivial
end
/-- x in a text, x one sign -/
def inAS (x : F) (z : List Nat) : Option Bool := match x with
  | .str [c] => some (decide (c ∈ z))
  | _ => none
theorem o_ninAS : Op2T ninF fun x z => (inAS x z).map fun b => !b := fun a b c h => by
  have h : (inAS a b).map (fun b => !b) = some c := h
  unfold inAS at h
  split at h
  · cases h; rfl
  · cases h
end TL

set_option Elab.async false
set_option linter.all false
set_option maxRecDepth 100000
set_option maxHeartbeats 4000000
set_option autoImplicit false
/-! T20: exceptions without a field; try: return ask() / except C: return text. -/
namespace TL
open VS
open L2 (atI ixN)
section
variable {σ α β R A X : Type} {wr : Wr σ} {B : Bs wr} {n : Nat} {K : X → σ → SR → Prop} {G : List (Nat × W)} {cs cs1 : List (Nat × Cell)} {s : σ} {te to tb : TEv} {tr : TAv} {rest : TSv} {m : FnM}
/-- as EX, the value known -/
def EXV [En α] (B : Bs wr) (n : Nat) (G : List (Nat × W)) (cs : List (Nat × Cell)) (t : TEv) (s : σ) (o : O σ α) : Prop :=
  ∀ env r, Ok B.b n G cs env r → match o with
    | .ok a s' => ∃ r1, t env (B.st s ++ r) = .ok (w_ a) (B.st s' ++ r1) ∧ Ok B.b n G cs env r1 ∧ Pr r r1
    | .ex c fs s' => ∃ r1 j, t env (B.st s ++ r) = .exc c fs (B.st s' ++ (r1 ++ j)) ∧ Ok B.b n G cs env r1 ∧ Pr r r1
    | .no => True
theorem EXV.x [En α] {o : O σ α} (h : EXV B n G cs tb s o) : EX B n G cs tb s o := fun env r k => by
  have z := h env r k
  cases o with
  | no => trivial
  | ok a s' => obtain ⟨r1, e⟩ := z; exact ⟨_, r1, e⟩
  | ex c fs s' => exact z
end
/-! ### a law that begins with several names at once -/
section
variable {σ X : Type} {wr : Wr σ} {B : Bs wr} {n : Nat} {K : X → σ → SR → Prop} {G : List (Nat × W)} {cs : List (Nat × Cell)} {s : σ} {tr : TAv} {rest : TSv}
theorem JA.cast {fin : List W → TSv} {acc : List W} {o o' : O σ X} (h : JA B n K G cs fin acc tr s o) (e : o = o') : JA B n K G cs fin acc tr s o' := e ▸ h
end
end TL

set_option Elab.async false
set_option linter.all false
set_option maxRecDepth 100000
set_option maxHeartbeats 4000000
set_option autoImplicit false
/-! T21: list(range(n)). -/
namespace TL
open VS
open L2 (atI ixN)
section
variable {σ α β R A X : Type} {wr : Wr σ} {B : Bs wr} {n : Nat} {G : List (Nat × W)} {cs cs1 : List (Nat × Cell)} {s : σ} {te : TEv}
@[irreducible] def lrgO (j : Int) (s : σ) : O σ (List Int) := ofO (if smI j = true ∧ small j.toNat = true then some (rgI 0 j.toNat) else none) s
variable {ta tb : TEv} {wa : TTv}
end
end TL

set_option Elab.async false
set_option linter.all false
set_option maxRecDepth 100000
set_option maxHeartbeats 4000000
set_option autoImplicit false
/-! T22: an expression that only looks at cells. -/
namespace TL
open VS
open L2 (atI ixN)
section
variable {σ α : Type} {wr : Wr σ} {B : Bs wr} {n : Nat} {G : List (Nat × W)} {cs : List (Nat × Cell)} {s : σ} {te : TEv}
def ThawG (b : Nat) (G : List (Nat × W)) (cs : List (Nat × Cell)) (G' : List (Nat × W)) : Prop :=
  ∀ i w, lk G' i = some w → (∃ x, w = .f x ∧ lk G i = some (.f x)) ∨ ∃ k xs, lk G i = some (.loc (b + k)) ∧ (k, Cell.lstF xs) ∈ cs ∧ w = .f (.lst xs)
theorem tg_nil {b : Nat} : ThawG b G cs [] := fun _ _ h => by cases h
theorem tg_lk {G' : List (Nat × W)} {i j : Nat} {u w : W} (h : lk ((i, u) :: G') j = some w) : (i = j ∧ u = w) ∨ lk G' j = some w := by
  unfold lk at h
  cases e : Nat.beq i j with
  | true =>
    rw [e] at h
    exact .inl ⟨Nat.eq_of_beq_eq_true e, Option.some.inj h⟩
  | false =>
    rw [e] at h
    exact .inr h
theorem tg_val {b i : Nat} {x : F} {G' : List (Nat × W)} (h : lk G i = some (.f x)) (t : ThawG b G cs G') : ThawG b G cs ((i, .f x) :: G') := fun j w q => by
  rcases tg_lk q with ⟨rfl, rfl⟩ | q
  · exact .inl ⟨x, rfl, h⟩
  · exact t j w q
theorem tg_cell {b i k : Nat} {xs : List F} {G' : List (Nat × W)} (h : lk G i = some (.loc (b + k))) (hc : (k, Cell.lstF xs) ∈ cs) (t : ThawG b G cs G') : ThawG b G cs ((i, .f (.lst xs)) :: G') := fun j w q => by
  rcases tg_lk q with ⟨rfl, rfl⟩ | q
  · exact .inr ⟨k, xs, h, hc, rfl⟩
  · exact t j w q
def B0 : Bs wU := ⟨[], fun _ => rfl, 0, fun _ => rfl⟩
theorem e_bor [En α] [Sl α] {G' : List (Nat × W)} {o : P α} (ht : ThawG B.b G cs G') (h : E B0 n G' [] [] te () o) : E B n G cs cs (eBor te) s ((noEx o).up s) := fun env r k => by
  have k0 : Ok B0.b n G' [] (thawE (B.st s ++ r) env) [] := by
    refine ⟨by unfold thawE; rw [List.length_map]; exact k.len, rfl, List.nodup_nil, fun _ _ q => (by cases q), fun i w hw => ?_⟩
    unfold thawE
    rw [List.getElem?_map]
    rcases ht i w hw with ⟨x, rfl, e⟩ | ⟨m, xs, e, hc, rfl⟩
    · rw [k.var i _ e]
      rfl
    · rw [k.var i _ e]
      have e2 : (B.st s ++ r)[B.b + m]? = some (Cell.lstF xs) := by rw [st_get]; exact k.cell _ _ hc
      show some ((deepF 0 (B.st s ++ r) 3 (.loc (B.b + m))).map W.f) = _
      unfold deepF
      rw [if_pos (Nat.zero_le _), e2]
      rfl
  have z := h _ _ k0
  have z : Rl B0 n G' [] (thawE (B.st s ++ r) env) [] (fun a => w_ a) (te (thawE (B.st s ++ r) env) []) o := z
  cases o with
  | no => trivial
  | ex c fs u => trivial
  | ok a u =>
    obtain ⟨r', e, k', p'⟩ := z
    have : r' = [] := List.length_eq_zero_iff.mp (by rw [p'.len]; rfl)
    subst this
    have e : te (thawE (B.st s ++ r) env) [] = .ok (w_ a) [] := e
    have e3 : eBor te env (B.st s ++ r) = .ok (w_ a) (B.st s ++ r) := by
      unfold eBor
      rw [e]
      show (if flat (En.e a) = true then _ else _) = _
      rw [if_pos (Sl.sc a)]
    rw [e3]
    exact Rl.mk rfl k Pr.refl
theorem e_borU [En α] [Sl α] {B : Bs wU} {s : Unit} {G' : List (Nat × W)} {o : P α} (ht : ThawG B.b G cs G') (h : E B0 n G' [] [] te () o) : E B n G cs cs (eBor te) s (noEx o) := fun env r k => by
  have z := e_bor (B := B) (s := s) ht h env r k
  simp only [up_unit] at z
  exact z
end
section
variable {σ α β R A X : Type} {wr : Wr σ} {B : Bs wr} {n : Nat} {G : List (Nat × W)} {cs cs1 cs2 : List (Nat × Cell)} {s : σ} {K : X → σ → SR → Prop} {rest t : TSv} {te ta : TEv}
end
end TL

set_option Elab.async false
set_option linter.all false
set_option maxRecDepth 100000
set_option maxHeartbeats 4000000
set_option autoImplicit false
/-! T23: sorted of tuples of ints, and by key=len. -/
namespace TL
open VS
open L2 (atI ixN)
section
variable {σ α : Type} {wr : Wr σ} {B : Bs wr} {n : Nat} {G : List (Nat × W)} {cs cs1 : List (Nat × Cell)} {s : σ} {te : TEv}
@[irreducible] def sortTO (l : List (Tu Int)) : Option (List (Tu Int)) := if okRows (l.map fun t => t.l) = true then some ((sortR (l.map fun t => t.l)).map Tu.mk) else none
@[irreducible] def sortLO (l : List (Tu α)) : Option (List (Tu α)) := some (sortZ (l.map fun t => (t.l.length : Int)) l)
end
end TL

set_option Elab.async false
set_option linter.all false
set_option maxRecDepth 100000
set_option maxHeartbeats 4000000
set_option autoImplicit false
/-! T24: sorted(set(xs)) as a new cell. -/
namespace TL
open VS
open L2 (atI ixN)
section
variable {σ : Type} {wr : Wr σ} {B : Bs wr} {n : Nat} {G : List (Nat × W)} {cs cs1 : List (Nat × Cell)} {s : σ} {te : TEv}
end
end TL

set_option Elab.async false
set_option linter.all false
set_option maxRecDepth 100000
set_option maxHeartbeats 4000000
set_option autoImplicit false
/-! T25: sorted(set(xs)), few things in xs. -/
namespace TL
open VS
open L2 (atI ixN)
section
variable {σ : Type} {wr : Wr σ} {B : Bs wr} {n : Nat} {G : List (Nat × W)} {cs cs1 : List (Nat × Cell)} {s : σ} {te : TEv}
end
end TL

set_option Elab.async false
set_option linter.all false
set_option maxRecDepth 100000
set_option maxHeartbeats 4000000
set_option autoImplicit false
/-! T42: texts taken apart, integers of texts, xs[i], xs[j] = x, y; try as a statement; typed. -/
namespace TL
open VS
open L2 (atI ixN)
@[irreducible] def partO (a b : List Nat) : Option (T3 (List Nat) (List Nat) (List Nat)) := if b ≠ [] ∧ a.length ≤ 1000000 then some ⟨(partL b a).1, (partL b a).2.1, (partL b a).2.2⟩ else none
theorem o_part : OpMT "str" partF partO := ⟨fun _ => rfl, fun a b c h => by
  unfold partO at h
  obtain ⟨hs, rfl⟩ := ifSome h
  exact if_pos hs⟩
@[irreducible] def splitO (a b : List Nat) : Option (List (List Nat)) := if b ≠ [] ∧ a.length ≤ 1000000 ∧ b.all (· < 256) = true then some (splitL b a) else none
theorem o_split : OpMT "str" splitF splitO := ⟨fun _ => rfl, fun a b c h => by
  unfold splitO at h
  obtain ⟨hs, rfl⟩ := ifSome h
  exact if_pos hs⟩
@[irreducible] def intSO (a : List Nat) : Option Int := if digB a = true ∧ a ≠ [] ∧ a.length ≤ 640 then some ((PySem.NumText.digitsVal a : Nat) : Int) else none
theorem o_intS : Op1T intSF intSO := fun a c h => by
  unfold intSO at h
  obtain ⟨hs, rfl⟩ := ifSome h
  exact if_pos hs
theorem o_inG {α β : Type} [En α] [En β] : Op2T inF fun (a : α) (b : β) => inB (En.e a) (En.e b) := fun a b c h => by
  have h : inB (En.e a) (En.e b) = some c := h
  unfold inF
  rw [h]
  rfl
theorem o_ninG {α β : Type} [En α] [En β] : Op2T ninF fun (a : α) (b : β) => (inB (En.e a) (En.e b)).map fun c => !c := fun a b c h => by
  unfold ninF
  obtain ⟨d, e, rfl⟩ := opt_map_some h
  rw [e]
  rfl
/-- a list of just two -/
structure Lp (α : Type) where
  a : α
  b : α
instance {α : Type} [En α] : En (Lp α) := ⟨fun x => .lst [En.e x.a, En.e x.b]⟩
def lpO {σ α : Type} (l : List α) (s : σ) : O σ (Lp α) := match l with
  | [a, b] => .ok ⟨a, b⟩ s
  | _ => .no
section
variable {σ α X : Type} {wr : Wr σ} {B : Bs wr} {n : Nat} {K : X → σ → SR → Prop} {G : List (Nat × W)} {cs cs1 cs2 : List (Nat × Cell)} {s : σ} {te ta tx ty : TEv} {rest : TSv} [En α]
theorem e_lp {o : O σ (List α)} (h : E B n G cs cs1 te s o) : E B n G cs cs1 te s (o.bind fun l s1 => lpO l s1) := fun env r k => by
  have z := h env r k
  cases o with
  | no => trivial
  | ex c fs s1 => exact z
  | ok l s1 =>
    match l, z with
    | [], _ => trivial
    | [_], _ => trivial
    | [a, b], z => exact z
    | _ :: _ :: _ :: _, _ => trivial
theorem tg_lp {i j : Nat} (hi : i < n) (hj : j < n) : Tgt (α := Lp α) n (gLs (gsCons (gNm i) (gsCons (gNm j) gsNil))) fun p => [(j, w_ p.b), (i, w_ p.a)] := fun p env hl => by
  obtain ⟨e1, q1, l1, k1⟩ := tg_nm (α := α) hi p.a env hl
  obtain ⟨e2, q2, l2, k2⟩ := tg_nm (α := α) hj p.b e1 l1
  refine ⟨e2, ?_, l2, fun G h => k2 _ (k1 _ h)⟩
  show (gNm i (w_ p.a) env).bind (fun env1 => (gNm j (w_ p.b) env1).bind fun env2 => some env2) = _
  rw [q1]; show (gNm j (w_ p.b) e1).bind _ = _; rw [q2]; rfl
theorem setI_cl {l : List α} {k : Nat} {r : Store} {a : α} {j : Int} {jj : Nat} (hc : r[k]? = some (cl_ l)) (ej : ixN l.length j = some jj) : setI (w_ a) (B.st s ++ r) (.loc (B.b + k)) (w_ j) = some (B.st s ++ r.set k (cl_ (l.set jj a))) := by
  show ((B.st s ++ r)[B.b + k]?).bind (fun c => (setC j (w_ a) c).map fun c' => (B.st s ++ r).set (B.b + k) c') = _
  rw [st_get, hc]
  show ((ixN (l.map En.e).length j).map fun j => Cell.lstF ((l.map En.e).set j (En.e a))).map (fun c' => (B.st s ++ r).set (B.b + k) c') = _
  rw [List.length_map, ej]
  show some ((B.st s ++ r).set (B.b + k) (Cell.lstF ((l.map En.e).set jj (En.e a)))) = _
  rw [st_set, ← List.map_set]
theorem j_swap {i ia ib k p : Nat} {l : List α} {ja jb : Int} {o1 : O σ α} {o2 : σ → O σ α} {kk : List α → σ → O σ X} (hv : lk G i = some (.loc (B.b + k))) (ha : lk G ia = some (w_ ja)) (hb : lk G ib = some (w_ jb)) (h1 : E B n G cs cs1 tx s o1) (h2 : ∀ s1, E B n G cs1 cs2 ty s1 (o2 s1)) (hp : cs2[p]? = some (k, cl_ l))
    (hr : ∀ l' s1, J B n K G (cs2.set p (k, cl_ l')) rest s1 (kk l' s1)) :
    J B n K G cs (bCons (sUnp [mSub (eVar i) (eVar ia), mSub (eVar i) (eVar ib)] (aCons tx (aCons ty aNil))) rest) s (o1.bind fun x s1 => (o2 s1).bind fun y s2 => (setO l ja x s2).bind fun l1 s3 => (setO l1 jb y s3).bind kk) := fun env r q => by
  have e : bCons (sUnp [mSub (eVar i) (eVar ia), mSub (eVar i) (eVar ib)] (aCons tx (aCons ty aNil))) rest env (B.st s ++ r) = (tx env (B.st s ++ r)).thenS fun x st1 => (ty env st1).thenS fun y st2 => match msRun [mSub (eVar i) (eVar ia), mSub (eVar i) (eVar ib)] [x, y] env st2 with
      | some z => rest z.1 z.2
      | none => .stuck := by
    unfold bCons sUnp aCons aNil
    cases tx env (B.st s ++ r) with
    | ok x st1 =>
      simp only [Res.bind, Res.thenS]
      cases ty env st1 with
      | ok y st2 =>
        simp only [show small ([x, y] : List W).length = true from rfl, if_true]
        cases msRun [mSub (eVar i) (eVar ia), mSub (eVar i) (eVar ib)] [x, y] env st2 <;> rfl
      | _ => rfl
    | _ => rfl
  rw [e]
  refine (h1 env r q).thenS fun x s1 r1 _ k1 p1 => ?_
  refine (h2 s1 env r1 k1).thenS fun y s2 r2 _ k2 p2 => ?_
  unfold setO
  cases ej : ixN l.length ja with
  | none => trivial
  | some jj =>
    rw [Option.map_some, ofO_some, bind_ok]
    cases ej2 : ixN (l.set jj x).length jb with
    | none => trivial
    | some j2 =>
      rw [Option.map_some, ofO_some, bind_ok]
      have k3 := k2.write (c' := cl_ (l.set jj x)) hp rfl
      have hp3 : (cs2.set p (k, cl_ (l.set jj x)))[p]? = some (k, cl_ (l.set jj x)) := by
        rw [List.getElem?_set_self (List.getElem?_eq_some_iff.mp hp).1]
      have k4 := k3.write (c' := cl_ ((l.set jj x).set j2 y)) hp3 rfl
      rw [List.set_set] at k4
      have e3 := setI_cl (B := B) (s := s2) (a := x) (k2.cell _ _ (List.mem_of_getElem? hp)) ej
      have e4 := setI_cl (B := B) (s := s2) (a := y) (k3.cell _ _ (List.mem_of_getElem? hp3)) ej2
      have em : msRun [mSub (eVar i) (eVar ia), mSub (eVar i) (eVar ib)] [w_ x, w_ y] env (B.st s2 ++ r2) = some (env, B.st s2 ++ (r2.set k (cl_ (l.set jj x))).set k (cl_ ((l.set jj x).set j2 y))) := by
        have q1 : ∀ (w : W) (st : Store) (m : Nat) (jj : Int), lk G m = some (w_ jj) → mSub (eVar i) (eVar m) w env st = (setI w st (.loc (B.b + k)) (w_ jj)).map fun st3 => (env, st3) := fun w st m jj hm => by
          unfold mSub eVar
          rw [k2.var i _ hv]
          simp only
          rw [k2.var m _ hm]
        show ((mSub (eVar i) (eVar ia) (w_ x) env (B.st s2 ++ r2)).bind fun z => (mSub (eVar i) (eVar ib) (w_ y) z.1 z.2).bind fun z => some (z.1, z.2)) = _
        rw [q1 _ _ _ _ ha, e3]
        show ((mSub (eVar i) (eVar ib) (w_ y) env _).bind fun z => some (z.1, z.2)) = _
        rw [q1 _ _ _ _ hb, e4]
        rfl
      rw [em]
      exact hr ((l.set jj x).set j2 y) s2 env _ k4
end
/-! ### try -/
def tryO {σ : Type} (c i : Nat) (tag : Option (List Nat)) (o : O σ F) : O σ F := match o with
  | .ok a s => .ok a s
  | .no => .no
  | .ex c' fs s => if c' = c then (match lookF2 fs i with
    | some y => .ok (tagF tag y) s
    | none => .no) else .no
section
variable {σ α X : Type} {wr : Wr σ} {B : Bs wr} {K : X → σ → SR → Prop} {G : List (Nat × W)} {cs cs1 : List (Nat × Cell)} {s : σ} {te : TEv} {rest : TSv} [En α] {c i : Nat} {tag : Option (List Nat)}
theorem ok_X {env : Env} {r : Store} (k : Ok B.b 3 G [] env r) (x : F) : Ok B.b 3 [(1, .f x)] [] (envX 3 x) r := by
  refine ⟨rfl, k.cl, by simp, fun _ _ h => (List.not_mem_nil h).elim, fun j w h => ?_⟩
  unfold lk at h
  cases e : Nat.beq 1 j with
  | true =>
    rw [e] at h
    cases h
    cases Nat.eq_of_beq_eq_true e
    rfl
  | false => rw [e] at h; cases h
theorem try_ex {k : F → σ → O σ X} {c' : Nat} {fs : List (Nat × F)} {s1 : σ} {r1 : Store} {env env0 : Env} (k1 : Ok B.b 3 G [] env r1) {ts : TSv} {st : Store} (e : ts env0 st = .exc c' fs (B.st s1 ++ r1)) (hr : ∀ (x : F) s1, J B 3 K [(1, .f x)] [] rest s1 (k x s1)) :
    match (tryO c i tag (.ex c' fs s1 : O σ F)).bind k with
    | .ok x s' => K x s' (bCons (sTry c i tag ts) rest env0 st)
    | .ex c2 fs s' => ∃ r', bCons (sTry c i tag ts) rest env0 st = .exc c2 fs (B.st s' ++ r') ∧ clean (B.b + r'.length) r' = true
    | .no => True := by
  unfold tryO
  by_cases hc : c' = c
  · simp only [if_pos hc]
    cases ql : lookF2 fs i with
    | none => trivial
    | some y =>
      simp only [bind_ok]
      have e2 : bCons (sTry c i tag ts) rest env0 st = rest (envX 3 (tagF tag y)) (B.st s1 ++ r1) := by
        unfold bCons sTry
        rw [e]
        simp only [if_pos hc, ql]
      rw [e2]
      exact hr (tagF tag y) s1 _ r1 (ok_X k1 _)
  · simp only [if_neg hc]
    trivial
theorem j_trySet {o : O σ α} {k : F → σ → O σ X} (h : E B 3 G cs cs1 te s o) (hr : ∀ (x : F) s1, J B 3 K [(1, .f x)] [] rest s1 (k x s1)) : J B 3 K G cs (bCons (sTry c i tag (sSet 1 te)) rest) s ((tryO c i tag (o.bind fun a s1 => .ok (En.e a) s1)).bind k) := fun env r q => by
  have z := h env r q
  cases o with
  | no => trivial
  | ok a s1 =>
    obtain ⟨r1, z, k1, p1⟩ := z
    have e2 : bCons (sTry c i tag (sSet 1 te)) rest env (B.st s ++ r) = rest (env.set 1 (some (w_ a))) (B.st s1 ++ r1) := by
      unfold bCons sTry sSet
      rw [z]
      rfl
    show match (k (En.e a) s1 : O σ X) with
      | .ok x s' => K x s' _
      | .ex c fs s' => ∃ r', _ = SR.exc c fs (B.st s' ++ r') ∧ clean (B.b + r'.length) r' = true
      | .no => True
    rw [e2]
    exact hr (En.e a) s1 _ r1 ((k1.set (by decide) (w_ a)).sub (sub_cons rfl sub_nil) (List.nil_sublist _))
  | ex c' fs s1 =>
    obtain ⟨r1, z, k1⟩ := z
    exact try_ex (ts := sSet 1 te) k1 (by unfold sSet; rw [z]; rfl) hr
theorem j_tryExpr {o : O σ α} {k : F → σ → O σ X} (hv : lk G 1 = some (.f .non)) (h : E B 3 G cs cs1 te s o) (hr : ∀ (x : F) s1, J B 3 K [(1, .f x)] [] rest s1 (k x s1)) : J B 3 K G cs (bCons (sTry c i tag (sExpr te)) rest) s ((tryO c i tag (o.bind fun _ s1 => .ok F.non s1)).bind k) := fun env r q => by
  have z := h env r q
  cases o with
  | no => trivial
  | ok a s1 =>
    obtain ⟨r1, z, k1, p1⟩ := z
    have e2 : bCons (sTry c i tag (sExpr te)) rest env (B.st s ++ r) = rest env (B.st s1 ++ r1) := by
      unfold bCons sTry sExpr
      rw [z]
      rfl
    show match (k F.non s1 : O σ X) with
      | .ok x s' => K x s' _
      | .ex c fs s' => ∃ r', _ = SR.exc c fs (B.st s' ++ r') ∧ clean (B.b + r'.length) r' = true
      | .no => True
    rw [e2]
    exact hr F.non s1 _ r1 (k1.sub (sub_cons hv sub_nil) (List.nil_sublist _))
  | ex c' fs s1 =>
    obtain ⟨r1, z, k1⟩ := z
    exact try_ex (ts := sExpr te) k1 (by unfold sExpr; rw [z]; rfl) hr
end
end TL

set_option Elab.async false
set_option linter.all false
set_option maxRecDepth 100000
set_option maxHeartbeats 4000000
set_option autoImplicit false
namespace LB
open VS TL
open L2 (atI ixN)
/-! _law_draw -/
def d_law_draw (many_6 : Int) (s_0 : Sp) : O Sp (Int) :=
  (O.bind (O.bind (.ok s_0.cnt s_0) fun x_30 s_31 => .ok ((x_30 + (1 : Int))) s_31) fun a_7 s_8 => let s_9 : Sp := { s_8 with cnt := a_7 }; (O.bind (O.bind (O.bind (.ok s_9.big s_9) fun x_36 s_37 => .ok ((decide (x_36 = (0 : Int)))) s_37) fun b_34 s_35 => if b_34 = true then (.ok (!s_35.cells.isEmpty) s_35) else .ok false s_35) fun b_32 s_33 => O.bind (if b_32 = true then (match s_33.cells with
    | [] => .no
    | cell_10 :: l_11 => let s_18 : Sp := { s_33 with cells := l_11 }; (O.bind (O.bind (O.bind (O.bind (O.bind (O.bind (.ok s_18.mix s_18) fun x_46 s_47 => ofO (mulO x_46 (8191 : Int)) s_47) fun x_44 s_45 => .ok ((x_44 + cell_10)) s_45) fun x_42 s_43 => .ok ((x_42 + (3 : Int))) s_43) fun x_40 s_41 => .ok (x_40) s_41) fun x_38 s_39 => ofO (modO x_38 (2147483647 : Int)) s_39) fun a_12 s_13 => let s_14 : Sp := { s_13 with mix := a_12 }; (O.bind (O.bind (O.bind (ofO (powO (10 : Int) (18 : Int)) s_14) fun x_50 s_51 => .ok ((decide (x_50 ≤ cell_10))) s_51) fun b_48 s_49 => if b_48 = true then (.ok cell_10 s_49) else (.ok (0 : Int) s_49)) fun a_15 s_16 => let s_17 : Sp := { s_16 with big := a_15 }; (.ok () s_17)))) else (.ok () s_33)) fun v_19 s_20 =>
    (O.bind (O.bind (.ok s_20.big s_20) fun x_54 s_55 => .ok ((decide ((0 : Int) < x_54))) s_55) fun b_52 s_53 => if b_52 = true then (O.bind (O.bind (O.bind (.ok s_53.big s_53) fun x_58 s_59 => .ok (x_58) s_59) fun x_56 s_57 => ofO (modO x_56 many_6) s_57) fun digit_23 s_24 =>
    (O.bind (O.bind (.ok s_24.big s_24) fun x_60 s_61 => ofO (divO x_60 many_6) s_61) fun a_25 s_26 => let s_27 : Sp := { s_26 with big := a_25 }; (.ok digit_23 s_27))) else
    (O.bind (O.bind (O.bind (O.bind (O.bind (O.bind (.ok s_53.mix s_53) fun x_70 s_71 => O.bind (O.bind (.ok s_71.cnt s_71) fun x_74 s_75 => ofO (mulO (7919 : Int) x_74) s_75) fun x_72 s_73 => .ok ((x_70 + x_72)) s_73) fun x_68 s_69 => .ok ((x_68 + (104729 : Int))) s_69) fun x_66 s_67 => ofO (powO x_66 (5 : Int)) s_67) fun x_64 s_65 => .ok (x_64) s_65) fun x_62 s_63 => ofO (modO x_62 (2147483629 : Int)) s_63) fun mixed_28 s_29 =>
    (O.bind (O.bind (O.bind (O.bind (O.bind (O.bind (ofO (mulO mixed_28 (48271 : Int)) s_29) fun x_86 s_87 => O.bind (O.bind (.ok s_87.cnt s_87) fun x_90 s_91 => ofO (mulO (30011 : Int) x_90) s_91) fun x_88 s_89 => .ok ((x_86 + x_88)) s_89) fun x_84 s_85 => .ok ((x_84 + (29 : Int))) s_85) fun x_82 s_83 => ofO (powO x_82 (3 : Int)) s_83) fun x_80 s_81 => .ok (x_80) s_81) fun x_78 s_79 => ofO (modO x_78 (1000000007 : Int)) s_79) fun x_76 s_77 => ofO (modO x_76 many_6) s_77)))))
/-! _law_pick -/
def d_law_pick_sls (some_97 : List (List Nat)) (s_0 : Sp) : O Sp (List Nat) :=
  (O.bind (d_law_draw (((some_97).length : Int)) s_0) fun x_98 s_99 => ofO (atI some_97 x_98) s_99)
/-! _law_pick -/
def d_law_pick_ss (some_104 : List Nat) (s_0 : Sp) : O Sp (Ch) :=
  (O.bind (O.bind (ofO (lenS some_104) s_0) fun x_107 s_108 => d_law_draw (x_107) s_108) fun x_105 s_106 => ofO (ixS some_104 x_105) s_106)
/-! _law_t_row -/
def d_law_t_row (most_96 : Int) (s_0 : Sp) : O Sp (List Nat) :=
  (O.bind (d_law_pick_sls (([([104, 72, 46, 65] : List Nat), ([104, 65] : List Nat), ([104, 104, 65] : List Nat), ([104, 72, 65] : List Nat), ([72, 65] : List Nat), ([104, 46, 65] : List Nat), ([104, 104, 104, 72, 46, 65] : List Nat), ([65, 46] : List Nat), ([104, 72] : List Nat), ([104, 65, 65] : List Nat), ([72, 72, 65, 65] : List Nat)] : List (List Nat))) s_0) fun menu_100 s_101 =>
    (O.bind (O.bind (O.bind (d_law_draw ((most_96 + (1 : Int))) s_101) fun x_115 s_116 => rg1 x_115 s_116) fun l_113 s_114 => O.bind (smL l_113 s_114) fun l_111 s_112 => mapO (fun x_102 s_103 => (d_law_pick_ss (menu_100) s_103)) l_111 s_112) fun x_109 s_110 => ofO (joinCh ([] : List Nat) x_109) s_110))
/-! _law_pick -/
def d_law_pick_sli (some_142 : List (Int)) (s_0 : Sp) : O Sp (Int) :=
  (O.bind (d_law_draw (((some_142).length : Int)) s_0) fun x_143 s_144 => ofO (atI some_142 x_143) s_144)
/-! _law_t_slot -/
def d_law_t_slot (blocks_147 : List ((Int) × (Int))) (block_148 : Int) : P (Int) :=
  (if (decide ((0 : Int) < block_148)) = true then (O.bind (ofO (atI blocks_147 (block_148 - (1 : Int))) ()) fun x_149 _ => .ok (x_149.1) ()) else (.ok (0 : Int) ()))
/-! _law_t_drawn -/
def d_law_t_drawn (most_133 : Int) (s_0 : Sp) : O Sp (List ((Int) × (Int))) :=
  (let blocks_135 := ([] : List ((Int) × (Int))); (O.bind (O.bind (d_law_draw ((most_133 + (1 : Int))) s_0) fun x_174 s_175 => rg1 x_174 s_175) fun l_172 s_173 => O.bind (foldO (fun i_138 (v_137 : (List ((Int) × (Int)))) s_139 => (O.bind (O.bind (O.bind (d_law_draw ((((v_137).length : Int) + (1 : Int))) s_139) fun x_156 s_157 => lstO [x_156, ((v_137).length : Int)] s_157) fun x_154 s_155 => d_law_pick_sli (x_154) s_155) fun parent_145 s_146 =>
    (O.bind (O.bind (O.bind (O.bind ((noEx (d_law_t_slot (v_137) (parent_145))).up s_146) fun x_164 s_165 => .ok ((x_164 + (1 : Int))) s_165) fun x_162 s_163 => O.bind (O.bind (O.bind (ofO (powO (10 : Int) (6 : Int)) s_163) fun x_170 s_171 => lstO [(0 : Int), (0 : Int), (1 : Int), (2 : Int), x_170] s_171) fun x_168 s_169 => d_law_pick_sli (x_168) s_169) fun x_166 s_167 => .ok ((x_162 + x_166)) s_167) fun x_160 s_161 => .ok ((x_160, parent_145)) s_161) fun y_158 s_159 => O.bind (appO v_137 y_158 s_159) fun blocks_150 s_151 =>
    (.ok blocks_150 s_151)))) l_172 blocks_135 s_173) fun v_152 s_153 =>
    (.ok v_152 s_153)))
/-! _law_lines -/
def d_law_lines (s_0 : Sp) : O Sp (List (List Nat)) :=
  (O.bind (O.bind (d_law_draw ((2 : Int)) s_0) fun x_182 s_183 => .ok ((decide (x_182 = (0 : Int)))) s_183) fun b_180 s_181 => if b_180 = true then (let found_94 := ([] : List ((Ch) × (Int))); (O.bind (O.bind (d_law_t_row ((8 : Int)) s_181) fun x_200 s_201 => .ok ((x_200.map Ch.mk)) s_201) fun l_198 s_199 => O.bind (foldO (fun i_118 (v_117 : (List ((Ch) × (Int)))) s_119 => (O.bind (O.bind (ofO ((eqO v_117 ([] : List ((Ch) × (Int))))) s_119) fun b_186 s_187 => if b_186 = true then .ok true s_187 else (O.bind (O.bind (ofO (atI v_117 (-(1 : Int))) s_187) fun x_190 s_191 => .ok (x_190.1) s_191) fun x_188 s_189 => .ok ((!decide (x_188 = i_118))) s_189)) fun b_184 s_185 => O.bind (if b_184 = true then (O.bind (O.bind (O.bind (d_law_draw ((30 : Int)) s_185) fun x_196 s_197 => .ok (((1 : Int) + x_196)) s_197) fun x_194 s_195 => .ok ((i_118, x_194)) s_195) fun y_192 s_193 => O.bind (appO v_117 y_192 s_193) fun found_122 s_123 =>
    (.ok found_122 s_123)) else (.ok v_117 s_185)) fun v_124 s_125 =>
    (.ok v_124 s_125))) l_198 found_94 s_199) fun v_127 s_128 =>
    (let found_129 := v_127; (O.bind (O.bind (smL found_129 s_128) fun l_204 s_205 => mapO (fun x_131 s_132 => (O.bind (ofO (addS [x_131.1.c] [(Ch.mk 32).c]) s_132) fun x_206 s_207 => O.bind (ofO (strO x_131.2) s_207) fun x_208 s_209 => ofO (addS x_206 x_208) s_209)) l_204 s_205) fun x_202 s_203 => ofO (addL ([([114, 111, 119] : List Nat)] : List (List Nat)) x_202) s_203)))) else
    (O.bind (d_law_t_drawn ((7 : Int)) s_181) fun blocks_176 s_177 =>
    (O.bind (O.bind (smL blocks_176 s_177) fun l_212 s_213 => mapO (fun x_178 s_179 => (O.bind (O.bind (ofO (strO x_178.1) s_179) fun x_216 s_217 => ofO (addS x_216 [(Ch.mk 32).c]) s_217) fun x_214 s_215 => O.bind (ofO (strO x_178.2) s_215) fun x_218 s_219 => ofO (addS x_214 x_218) s_219)) l_212 s_213) fun x_210 s_211 => ofO (addL ([([116, 114, 101, 101] : List Nat)] : List (List Nat)) x_210) s_211)))
/-! _law_bent -/
def d_law_bent (lineshere_237 : List (List Nat)) (s_0 : Sp) : O Sp (List (List Nat)) :=
  (O.bind (d_law_draw ((8 : Int)) s_0) fun way_238 s_239 =>
    (O.bind (d_law_draw (((lineshere_237).length : Int)) s_239) fun k_240 s_241 =>
    (if (decide (way_238 = (0 : Int))) = true then (if (decide ((1 : Int) < ((lineshere_237).length : Int))) = true then (ofO (addL (cutL lineshere_237 none (some k_240)) (cutL lineshere_237 (some (k_240 + (1 : Int))) none)) s_241) else (.ok ([([] : List Nat)] : List (List Nat)) s_241)) else
    (if (decide (way_238 = (1 : Int))) = true then (O.bind (ofO (addL (cutL lineshere_237 none (some k_240)) (cutL lineshere_237 (some k_240) (some (k_240 + (1 : Int))))) s_241) fun x_267 s_268 => ofO (addL x_267 (cutL lineshere_237 (some k_240) none)) s_268) else
    (if (decide (way_238 = (2 : Int))) = true then (O.bind (d_law_draw (((lineshere_237).length : Int)) s_241) fun j_245 s_246 =>
    (let some_248 := lineshere_237; (O.bind (ofO (atI lineshere_237 j_245) s_246) fun x_271 s_272 => O.bind (ofO (atI lineshere_237 k_240) s_272) fun x_273 s_274 => O.bind (setO some_248 k_240 x_271 s_274) fun l_269 s_270 => O.bind (setO l_269 j_245 x_273 s_270) fun some_250 s_251 =>
    (.ok some_250 s_251)))) else
    (if (decide (way_238 = (3 : Int))) = true then (let odd_253 := ([([] : List Nat), ([114, 111, 119] : List Nat), ([116, 114, 101, 101] : List Nat), ([104, 32, 49] : List Nat), ([65, 32, 48] : List Nat), ([49, 32, 48] : List Nat), ([48, 32, 48] : List Nat), [(Ch.mk 104).c], [(Ch.mk 49).c], ([50, 32, 49, 32, 48] : List Nat)] : List (List Nat)); (O.bind (ofO (addL odd_253 ([([72, 32, 32, 50] : List Nat), ([104, 32, 45, 49] : List Nat), ([120, 32, 51] : List Nat), ([48, 49, 32, 48] : List Nat), ([53, 32, 52] : List Nat), [(Ch.mk 32).c], ([104, 65, 32, 49] : List Nat), ([49, 32, 48, 48] : List Nat), ([32, 51] : List Nat), ([104, 72, 32, 49] : List Nat)] : List (List Nat))) s_241) fun odd_255 s_256 =>
    (O.bind (O.bind (O.bind (d_law_pick_sls (odd_255) s_256) fun x_279 s_280 => lstO [x_279] s_280) fun x_277 s_278 => ofO (addL (cutL lineshere_237 none (some k_240)) x_277) s_278) fun x_275 s_276 => ofO (addL x_275 (cutL lineshere_237 (some k_240) none)) s_276))) else
    (O.bind (ofO (atI lineshere_237 k_240) s_241) fun line_257 s_258 =>
    (O.bind (O.bind (O.bind (ofO (lenS line_257) s_258) fun x_283 s_284 => .ok ((x_283 + (1 : Int))) s_284) fun x_281 s_282 => d_law_draw (x_281) s_282) fun at_259 s_260 =>
    (O.bind (d_law_pick_sls (([[(Ch.mk 32).c], [(Ch.mk 97).c], [(Ch.mk 48).c], [(Ch.mk 49).c], [(Ch.mk 50).c], [(Ch.mk 104).c], [(Ch.mk 45).c], [(Ch.mk 65).c], ([] : List Nat), [(Ch.mk 57).c], [(Ch.mk 46).c]] : List (List Nat))) s_260) fun sign_261 s_262 =>
    (O.bind (O.bind (d_law_draw ((2 : Int)) s_262) fun x_285 s_286 => .ok ((at_259 + x_285)) s_286) fun cut_263 s_264 =>
    (O.bind (O.bind (O.bind (ofO (slS none (some at_259) line_257) s_264) fun x_289 s_290 => ofO (addS x_289 sign_261) s_290) fun x_287 s_288 => O.bind (ofO (slS (some cut_263) none line_257) s_288) fun x_291 s_292 => ofO (addS x_287 x_291) s_292) fun benthere_265 s_266 =>
    (O.bind (ofO (addL (cutL lineshere_237 none (some k_240)) ([benthere_265] : List (List Nat))) s_266) fun x_293 s_294 => ofO (addL x_293 (cutL lineshere_237 (some (k_240 + (1 : Int))) none)) s_294))))))))))))
/-! _law_number -/
def d_law_number (word_319 : List Nat) : P (Option (Int)) :=
  (O.bind (if (decide (word_319 = ([] : List Nat))) = true then .ok true () else (O.bind (O.bind (O.bind (smL (word_319.map Ch.mk) ()) fun l_325 _ => .ok (l_325.map fun x_320 => (decide (x_320.c ∈ ([48, 49, 50, 51, 52, 53, 54, 55, 56, 57] : List Nat)))) ()) fun x_324 _ => .ok (((x_324).all id)) ()) fun x_323 _ => .ok ((!x_323)) ())) fun b_322 _ => if b_322 = true then (.ok none ()) else
    (O.bind (O.bind (O.bind (ofO (ixS word_319 (0 : Int)) ()) fun x_328 _ => .ok ((!decide (x_328 = (Ch.mk 48)))) ()) fun b_327 _ => if b_327 = true then .ok true () else (.ok (decide (word_319 = [(Ch.mk 48).c])) ())) fun b_326 _ => if b_326 = true then (O.bind (ofO (intSO word_319) ()) fun x_329 _ => .ok ((some x_329)) ()) else (.ok none ())))
/-! _law_row_fault -/
def d_law_row_fault (lineshere_335 : List (List Nat)) : P (Option (Int)) :=
  (let last_336 := ([] : List Nat); (O.bind (forO (R := Option (Int)) (fun i_339 (v_338 : (List Nat)) _ => (O.bind (ofO (splitO i_339.2 [(Ch.mk 32).c]) ()) fun words_343 _ =>
    (O.bind (if (!decide (((words_343).length : Int) = (2 : Int))) = true then .ok true () else (O.bind (O.bind (ofO (atI words_343 (0 : Int)) ()) fun x_353 _ => ofO ((inB (En.e x_353) (En.e (T4.mk (Ch.mk 104) (Ch.mk 72) (Ch.mk 46) (Ch.mk 65)))).map fun c => !c) ()) fun b_352 _ => if b_352 = true then .ok true () else (O.bind (ofO (atI words_343 (0 : Int)) ()) fun x_354 _ => .ok ((decide (x_354 = v_338))) ()))) fun b_351 _ => if b_351 = true then (.ok (.rt (some (i_339.1 + (2 : Int)))) ()) else
    (O.bind (O.bind (O.bind (ofO (atI words_343 (1 : Int)) ()) fun x_357 _ => d_law_number (x_357)) fun x_356 _ => ofO ((inB (En.e x_356) (En.e ((), (0 : Int))))) ()) fun b_355 _ => if b_355 = true then (.ok (.rt (some (i_339.1 + (2 : Int)))) ()) else
    (O.bind (ofO (atI words_343 (0 : Int)) ()) fun last_347 _ =>
    (.ok (.nx last_347) ())))))) (enI 0 (cutL lineshere_335 (some (1 : Int)) none)) last_336 ()) (flB (fun v_349 _ =>
    (.ok none ())) (fun a => a))))
/-! _law_tree_fault -/
def d_law_tree_fault (lineshere_381 : List (List Nat)) : P (Option (Int)) :=
  (let slots_383 := ([(0 : Int)] : List (Int)); (O.bind (forO (R := Option (Int)) (fun i_386 (v_385 : (List (Int))) _ => (O.bind (ofO (splitO i_386.2 [(Ch.mk 32).c]) ()) fun words_390 _ =>
    (O.bind (if (!decide (((words_390).length : Int) = (2 : Int))) = true then .ok true () else (O.bind (O.bind (smL words_390 ()) fun l_404 _ => mapO (fun x_392 _ => (d_law_number (x_392))) l_404 ()) fun x_403 _ => ofO ((inB (En.e ()) (En.e x_403))) ())) fun b_402 _ => if b_402 = true then (.ok (.rt (some (i_386.1 + (2 : Int)))) ()) else
    (O.bind (O.bind (O.bind (smL words_390 ()) fun l_406 _ => mapO (fun x_394 _ => (d_law_number (x_394))) l_406 ()) fun x_405 _ => lpO x_405 ()) fun p_395 _ =>
    (O.bind (O.bind (O.bind (ofO (p_395.b) ()) fun x_409 _ => .ok ((decide (i_386.1 < x_409))) ()) fun b_408 _ => if b_408 = true then .ok true () else (O.bind (ofO (p_395.a) ()) fun x_410 _ => O.bind (O.bind (ofO (p_395.b) ()) fun x_412 _ => ofO (atI v_385 x_412) ()) fun x_411 _ => .ok ((decide (x_410 ≤ x_411))) ())) fun b_407 _ => if b_407 = true then (.ok (.rt (some (i_386.1 + (2 : Int)))) ()) else
    (O.bind (ofO (p_395.a) ()) fun y_413 _ => O.bind (appO v_385 y_413 ()) fun slots_398 _ =>
    (.ok (.nx slots_398) ()))))))) (enI 0 (cutL lineshere_381 (some (1 : Int)) none)) slots_383 ()) (flB (fun v_400 _ =>
    (.ok none ())) (fun a => a))))
/-! number_of -/
def d_number_of (word_445 : List Nat) : P (Option (Int)) :=
  (O.bind (if (decide (word_445 = ([] : List Nat))) = true then .ok true () else (O.bind (O.bind (O.bind (O.bind (smL (word_445.map Ch.mk) ()) fun l_452 _ => .ok (l_452.map fun x_446 => (decide (x_446.c ∈ ([48, 49, 50, 51, 52, 53, 54, 55, 56, 57] : List Nat)))) ()) fun x_451 _ => .ok (((x_451).all id)) ()) fun x_450 _ => .ok ((!x_450)) ()) fun b_449 _ => if b_449 = true then .ok true () else (O.bind (O.bind (ofO (ixS word_445 (0 : Int)) ()) fun x_454 _ => .ok ((decide (x_454 = (Ch.mk 48)))) ()) fun b_453 _ => if b_453 = true then (.ok (!decide (word_445 = [(Ch.mk 48).c])) ()) else .ok false ()))) fun b_448 _ => if b_448 = true then (.ok none ()) else
    (O.bind (ofO (intSO word_445) ()) fun x_455 _ => .ok ((some x_455)) ()))
structure Pieces where
  pairs : List ((List Nat) × (Int))
deriving DecidableEq
instance : En Pieces := ⟨fun x => F.obj 0 [(0, En.e x.pairs)]⟩
instance : NN Pieces := ⟨fun _ => rfl⟩
/-! Pieces.__init__ -/
def d_Pieces__init (pairs_466 : List ((List Nat) × (Int))) : P (Pieces) :=
  (O.bind (O.bind (smL pairs_466 ()) fun l_470 _ => .ok ((l_470.filter fun x_467 => ((!decide (x_467.1 = ([] : List Nat))) && (decide ((0 : Int) < x_467.2)))).map fun x_467 => (x_467.1, x_467.2)) ()) fun pairs_468 _ =>
    (.ok (Pieces.mk (pairs_468)) ()))
structure Row where
  pieces : List ((List Nat) × (Int))
deriving DecidableEq
instance : En Row := ⟨fun x => F.obj 1 [(1, En.e x.pieces)]⟩
instance : NN Row := ⟨fun _ => rfl⟩
/-! Row.__init__ -/
def d_Row__init_Pieces (text_471 : Pieces) : P (Row) :=
  (let pieces_472 := text_471.pairs; (.ok (Row.mk (pieces_472)) ()))
/-! row_read -/
def d_row_read (lines_429 : List (List Nat)) : P (Row) :=
  (let found_431 := ([] : List ((List Nat) × (Int))); (let last_433 := ([] : List Nat); (O.bind (foldO (fun i_436 (v_435 : (List ((List Nat) × (Int))) × (List Nat)) _ => (O.bind (ofO (partO i_436.2 [(Ch.mk 32).c]) ()) fun p_440 _ =>
    (O.bind (d_number_of (p_440.c)) fun many_456 _ =>
    (O.bind (O.bind (O.bind (ofO (lenS p_440.a) ()) fun x_476 _ => .ok ((!decide (x_476 = (1 : Int)))) ()) fun b_475 _ => if b_475 = true then .ok true () else (O.bind (ofO ((inB (En.e p_440.a) (En.e ([104, 72, 46, 65] : List Nat))).map fun c => !c) ()) fun b_477 _ => if b_477 = true then .ok true () else (if (decide (p_440.a = v_435.2)) = true then .ok true () else (if many_456.isNone = true then .ok true () else (O.bind (ofO (many_456) ()) fun x_478 _ => .ok ((decide (x_478 = (0 : Int)))) ()))))) fun b_474 _ => if b_474 = true then (O.bind (.ok (i_436.1 + (2 : Int)) ()) fun x_459 _ => .ex 500 [(5, En.e x_459)] ()) else
    (O.bind (O.bind (ofO (many_456) ()) fun x_480 _ => .ok ((p_440.a, x_480)) ()) fun y_479 _ => O.bind (appO v_435.1 y_479 ()) fun found_460 _ =>
    (let last_462 := p_440.a; (.ok (found_460, last_462) ()))))))) (enI 0 lines_429) (found_431, last_433) ()) fun v_464 _ =>
    (O.bind (d_Pieces__init (v_464.1)) fun x_481 _ => d_Row__init_Pieces (x_481)))))
/-! is_list -/
def d_is_list_ltii (thing_499 : List ((Int) × (Int))) : P (Bool) :=
  (.ok true ())
/-! is_list -/
def d_is_list_tii (thing_519 : (Int) × (Int)) : P (Bool) :=
  (.ok true ())
/-! is_integer -/
def d_is_integer_i (thing_523 : Int) : P (Bool) :=
  (.ok (!false) ())
structure Tree where
  pairs : List ((Int) × (Int))
  slots : List (Int)
  parents : List (Option (Int))
  depths : List (Int)
deriving DecidableEq
instance : En Tree := ⟨fun x => F.obj 2 [(0, En.e x.pairs), (2, En.e x.slots), (3, En.e x.parents), (4, En.e x.depths)]⟩
instance : NN Tree := ⟨fun _ => rfl⟩
/-! Tree.__contains__ -/
def d_Tree__contains (self_524 : Tree) (thing_525 : Int) : P (Bool) :=
  (O.bind (d_is_integer_i (thing_525)) fun b_526 _ => if b_526 = true then (.ok ((decide ((0 : Int) ≤ thing_525)) && (decide (thing_525 < ((self_524.slots).length : Int)))) ()) else .ok false ())
/-! Tree.can_stand -/
def d_Tree_can_stand (self_520 : Tree) (slot_521 : Int) (parent_522 : Int) : P (Bool) :=
  (O.bind (d_is_integer_i (slot_521)) fun b_527 _ => if b_527 = true then (O.bind (O.bind (d_Tree__contains (self_520) (parent_522)) fun q_in s_in => .ok (xor q_in false) ()) fun b_528 _ => if b_528 = true then (O.bind (ofO (atI self_520.slots parent_522) ()) fun x_529 _ => .ok ((decide (x_529 < slot_521))) ()) else .ok false ()) else .ok false ())
/-! Tree.__init__ -/
def d_Tree__init (blocks_498 : List ((Int) × (Int))) : P (Tree) :=
  (O.bind (O.bind (d_is_list_ltii (blocks_498)) fun x_543 _ => .ok ((!x_543)) ()) fun b_542 _ => if b_542 = true then (O.bind (.ok (0 : Int) ()) fun x_501 _ => .ex 502 [(7, En.e x_501)] ()) else
    (let pairs_503 := ([] : List ((Int) × (Int))); (let slots_506 := ([(0 : Int)] : List (Int)); (let parents_509 := ([none] : List (Option (Int))); (let depths_512 := ([(0 : Int)] : List (Int)); (O.bind (foldO (fun i_515 (v_514 : (List ((Int) × (Int))) × (List (Int)) × (List (Option (Int))) × (List (Int))) _ => (O.bind (O.bind (O.bind (d_is_list_tii (i_515.2)) fun x_546 _ => .ok ((!x_546)) ()) fun b_545 _ => if b_545 = true then .ok true () else (if (!decide ((2 : Int) = (2 : Int))) = true then .ok true () else (O.bind (noEx (d_Tree_can_stand ((Tree.mk (v_514.1) (v_514.2.1) (v_514.2.2.1) (v_514.2.2.2))) (i_515.2.1) (i_515.2.2))) fun x_547 _ => .ok ((!x_547)) ()))) fun b_544 _ => if b_544 = true then (O.bind (.ok (i_515.1 + (1 : Int)) ()) fun x_531 _ => .ex 502 [(7, En.e x_531)] ()) else
    (O.bind (appO v_514.1 (i_515.2.1, i_515.2.2) ()) fun selfpairs_532 _ =>
    (O.bind (appO v_514.2.1 i_515.2.1 ()) fun selfslots_534 _ =>
    (O.bind (appO v_514.2.2.1 (some i_515.2.2) ()) fun selfparents_536 _ =>
    (O.bind (O.bind (ofO (atI v_514.2.2.2 i_515.2.2) ()) fun x_549 _ => .ok ((x_549 + (1 : Int))) ()) fun y_548 _ => O.bind (appO v_514.2.2.2 y_548 ()) fun selfdepths_538 _ =>
    (.ok (selfpairs_532, (selfslots_534, (selfparents_536, selfdepths_538))) ()))))))) (enI 0 blocks_498) (pairs_503, (slots_506, (parents_509, depths_512))) ()) fun v_540 _ =>
    (.ok (Tree.mk (v_540.1) (v_540.2.1) (v_540.2.2.1) (v_540.2.2.2)) ())))))))
/-! is_integer -/
def d_is_integer_oi (thing_553 : Option (Int)) : P (Bool) :=
  (.ok ((thing_553.isSome && true) && (!(thing_553.isSome && false))) ())
/-! Tree.__contains__ -/
def d_Tree__contains_Treeoi (self_554 : Tree) (thing_555 : Option (Int)) : P (Bool) :=
  (O.bind (d_is_integer_oi (thing_555)) fun b_556 _ => if b_556 = true then (O.bind (ofO (thing_555) ()) fun x_557 _ => if (decide ((0 : Int) ≤ x_557)) = true then .ok (decide (x_557 < ((self_554.slots).length : Int))) () else .ok false ()) else .ok false ())
/-! Tree.can_stand -/
def d_Tree_can_stand_Treeoioi (self_550 : Tree) (slot_551 : Option (Int)) (parent_552 : Option (Int)) : P (Bool) :=
  (O.bind (d_is_integer_oi (slot_551)) fun b_558 _ => if b_558 = true then (O.bind (O.bind (d_Tree__contains_Treeoi (self_550) (parent_552)) fun q_in s_in => .ok (xor q_in false) ()) fun b_559 _ => if b_559 = true then (O.bind (O.bind (ofO (parent_552) ()) fun x_561 _ => ofO (atI self_550.slots x_561) ()) fun x_560 _ => O.bind (ofO (slot_551) ()) fun x_562 _ => .ok ((decide (x_560 < x_562))) ()) else .ok false ()) else .ok false ())
/-! tree_read -/
def d_tree_read (lines_483 : List (List Nat)) : P (Tree) :=
  (let found_485 := ([] : List ((Int) × (Int))); (O.bind (foldO (fun i_488 (v_487 : (List ((Int) × (Int)))) _ => (O.bind (ofO (partO i_488.2 [(Ch.mk 32).c]) ()) fun p_492 _ =>
    (O.bind (d_number_of (p_492.a)) fun slot_494 _ =>
    (O.bind (d_number_of (p_492.c)) fun parent_496 _ =>
    (O.bind (if slot_494.isNone = true then .ok true () else (if parent_496.isNone = true then .ok true () else (O.bind (O.bind (ofO (parent_496) ()) fun x_571 _ => .ok ((decide (i_488.1 < x_571))) ()) fun b_570 _ => if b_570 = true then .ok true () else (O.bind (noEx ((O.bind (d_Tree__init (v_487)) fun x_573 _ => d_Tree_can_stand_Treeoioi (x_573) (slot_494) (parent_496)))) fun x_572 _ => .ok ((!x_572)) ())))) fun b_569 _ => if b_569 = true then (O.bind (.ok (i_488.1 + (2 : Int)) ()) fun x_564 _ => .ex 500 [(5, En.e x_564)] ()) else
    (O.bind (O.bind (ofO (slot_494) ()) fun x_575 _ => O.bind (ofO (parent_496) ()) fun x_576 _ => .ok ((x_575, x_576)) ()) fun y_574 _ => O.bind (appO v_487 y_574 ()) fun found_565 _ =>
    (.ok found_565 ()))))))) (enI 0 lines_483) found_485 ()) fun v_567 _ =>
    (d_Tree__init (v_567))))
/-! read -/
def d_read_s (text_425 : List Nat) : P (Ei (Row) (Tree)) :=
  (O.bind (ofO (splitO text_425 [(Ch.mk 10).c]) ()) fun lines_426 _ =>
    (O.bind (O.bind (ofO (atI lines_426 (0 : Int)) ()) fun x_579 _ => .ok ((decide (x_579 = ([114, 111, 119] : List Nat)))) ()) fun b_578 _ => if b_578 = true then (O.bind (d_row_read ((cutL lines_426 (some (1 : Int)) none))) fun x_580 _ => .ok ((Ei.a x_580 : Ei (Row) (Tree))) ()) else
    (O.bind (O.bind (ofO (atI lines_426 (0 : Int)) ()) fun x_582 _ => .ok ((decide (x_582 = ([116, 114, 101, 101] : List Nat)))) ()) fun b_581 _ => if b_581 = true then (O.bind (d_tree_read ((cutL lines_426 (some (1 : Int)) none))) fun x_583 _ => .ok ((Ei.b x_583 : Ei (Row) (Tree))) ()) else
    (O.bind (.ok (1 : Int) ()) fun x_577 _ => .ex 500 [(5, En.e x_577)] ()))))
/-! row_of -/
def d_row_of_Row (thing_585 : Row) : P (Row) :=
  (.ok thing_585 ())
/-! Row.runs -/
def d_Row_runs (self_586 : Row) : P (List ((Ch) × (Int))) :=
  (let found_588 := ([] : List ((Ch) × (Int))); (O.bind (foldO (fun i_591 (v_590 : (List ((Ch) × (Int)))) _ => (O.bind (O.bind (O.bind (O.bind (ofO (ixS i_591.1 (0 : Int)) ()) fun x_616 _ => .ok ([x_616.c]) ()) fun x_615 _ => O.bind (ofO (lenS i_591.1) ()) fun x_617 _ => ofO (mulS x_615 x_617) ()) fun x_614 _ => .ok ((decide (i_591.1 = x_614))) ()) fun iseven_595 _ =>
    (O.bind (O.bind (if iseven_595 = true then (O.bind (O.bind (ofO (ixS i_591.1 (0 : Int)) ()) fun x_629 _ => O.bind (O.bind (ofO (lenS i_591.1) ()) fun x_631 _ => ofO (mulO x_631 i_591.2) ()) fun x_630 _ => .ok ((x_629, x_630)) ()) fun x_628 _ => lstO [x_628] ()) else (O.bind (O.bind (ofO (mulS i_591.1 i_591.2) ()) fun x_634 _ => .ok ((x_634.map Ch.mk)) ()) fun l_633 _ => O.bind (smL l_633 ()) fun l_632 _ => .ok (l_632.map fun x_597 => (x_597, (1 : Int))) ())) fun x_627 _ => .ok (x_627) ()) fun l_626 _ => O.bind (foldO (fun i_599 (v_598 : (List ((Ch) × (Int)))) _ => (O.bind (O.bind (ofO ((eqO v_598 ([] : List ((Ch) × (Int)))).map fun c => !c) ()) fun b_619 _ => if b_619 = true then (O.bind (O.bind (ofO (atI v_598 (-(1 : Int))) ()) fun x_621 _ => .ok (x_621.1) ()) fun x_620 _ => .ok ((decide (x_620 = i_599.1))) ()) else .ok false ()) fun b_618 _ => O.bind (if b_618 = true then (O.bind (O.bind (O.bind (O.bind (ofO (atI v_598 (-(1 : Int))) ()) fun x_625 _ => .ok (x_625.2) ()) fun x_624 _ => .ok ((x_624 + i_599.2)) ()) fun x_623 _ => .ok ((i_599.1, x_623)) ()) fun x_622 _ => O.bind (setO v_598 (-(1 : Int)) x_622 ()) fun found_603 _ =>
    (.ok found_603 ())) else (O.bind (appO v_598 (i_599.1, i_599.2) ()) fun found_605 _ =>
    (.ok found_605 ()))) fun v_607 _ =>
    (.ok v_607 ()))) l_626 v_590 ()) fun v_610 _ =>
    (.ok v_610 ())))) self_586.pieces found_588 ()) fun v_612 _ =>
    (.ok v_612 ())))
/-! write -/
def d_write_Row (thing_584 : Row) : P (List Nat) :=
  (O.bind (O.bind (O.bind (O.bind (O.bind (d_row_of_Row (thing_584)) fun x_641 _ => d_Row_runs (x_641)) fun x_640 _ => .ok (x_640) ()) fun l_639 _ => O.bind (smL l_639 ()) fun l_638 _ => mapO (fun x_635 _ => (O.bind (ofO (addS [x_635.1.c] [(Ch.mk 32).c]) ()) fun x_642 _ => O.bind (ofO (strO x_635.2) ()) fun x_643 _ => ofO (addS x_642 x_643) ())) l_638 ()) fun x_637 _ => ofO (addL ([([114, 111, 119] : List Nat)] : List (List Nat)) x_637) ()) fun x_636 _ => ofO (joinS [(Ch.mk 10).c] x_636) ())
/-! Tree.blocks -/
def d_Tree_blocks (self_647 : Tree) : P (List ((Int) × (Int))) :=
  (.ok self_647.pairs ())
/-! write -/
def d_write_Tree (thing_646 : Tree) : P (List Nat) :=
  (O.bind (O.bind (O.bind (O.bind (d_Tree_blocks (thing_646)) fun x_653 _ => .ok (x_653) ()) fun l_652 _ => O.bind (smL l_652 ()) fun l_651 _ => mapO (fun x_648 _ => (O.bind (O.bind (ofO (strO x_648.1) ()) fun x_655 _ => ofO (addS x_655 [(Ch.mk 32).c]) ()) fun x_654 _ => O.bind (ofO (strO x_648.2) ()) fun x_656 _ => ofO (addS x_654 x_656) ())) l_651 ()) fun x_650 _ => ofO (addL ([([116, 114, 101, 101] : List Nat)] : List (List Nat)) x_650) ()) fun x_649 _ => ofO (joinS [(Ch.mk 10).c] x_649) ())
/-! write -/
def d_write_oRowTree (p_660 : Ei (Row) (Tree)) : P (List Nat) :=
  match p_660 with
  | .a x_ => d_write_Row x_
  | .b x_ => d_write_Tree x_
/-! _law_tried -/
def d_law_tried_s (thing_424 : List Nat) : P (F) :=
  (O.bind (tryO 500 5 (some [98, 97, 100]) (O.bind (O.bind (O.bind (d_read_s (thing_424)) fun x_665 _ => d_write_oRowTree (x_665)) fun x_664 _ => .ok ((([114, 101, 97, 100] : List Nat), x_664)) ()) fun y_663 _ => .ok (En.e y_663) ())) fun found_661 _ =>
    (.ok found_661 ()))
/-! check_kinds -/
def d_check_kinds_a (kinds_685 : F) : P (Unit) :=
  (if (!(isiAny [.str] (kyF kinds_685))) = true then (O.bind (.ok (0 : Int) ()) fun x_687 _ => .ex 501 [(6, En.e x_687)] ()) else
    (O.bind (O.bind (ofO (itA kinds_685) ()) fun l_699 _ => .ok (enI 0 l_699) ()) fun l_698 _ => O.bind (foldO (fun i_689 (v_688 : Unit) _ => (O.bind (ofO ((inAS i_689.2 ([104, 72, 46, 65] : List Nat)).map fun c => !c) ()) fun b_697 _ => if b_697 = true then (O.bind (.ok i_689.1 ()) fun x_694 _ => .ex 501 [(6, En.e x_694)] ()) else
    (.ok () ()))) l_698 () ()) fun v_695 _ =>
    (.ok () ())))
/-! Row.__init__ -/
def d_Row__init_a (text_681 : F) : P (Row) :=
  (if (isiAny [(.own 0)] (kyF text_681)) = true then (O.bind .no fun pieces_683 _ =>
    (.ok (Row.mk (pieces_683)) ())) else
    (O.bind (d_check_kinds_a (text_681)) fun _ _ =>
    (O.bind (O.bind (O.bind (ofO ((eqA (En.e text_681) (En.e ([] : List Nat))).map fun c => !c) ()) fun b_705 _ => if b_705 = true then (.ok ([(text_681, (1 : Int))] : List ((F) × (Int))) ()) else (.ok ([] : List ((F) × (Int))) ())) fun x_704 _ => ofO ((De.d (En.e x_704) : Option (List ((List Nat) × (Int))))) ()) fun pieces_702 _ =>
    (.ok (Row.mk (pieces_702)) ()))))
/-! row_of -/
def d_row_of_a (thing_680 : F) : P (Row) :=
  (if (isiAny [(.own 1)] (kyF thing_680)) = true then .no else (d_Row__init_a (thing_680)))
/-! write -/
def d_write_a (thing_677 : F) : P (List Nat) :=
  (if (isiAny [(.own 2)] (kyF thing_677)) = true then (O.bind (O.bind (O.bind (O.bind (.no : O _ (List ((Int) × (Int)))) fun x_711 _ => .ok (x_711) ()) fun l_710 _ => O.bind (smL l_710 ()) fun l_709 _ => mapO (fun x_679 _ => (O.bind (O.bind (ofO (strO x_679.1) ()) fun x_713 _ => ofO (addS x_713 [(Ch.mk 32).c]) ()) fun x_712 _ => O.bind (ofO (strO x_679.2) ()) fun x_714 _ => ofO (addS x_712 x_714) ())) l_709 ()) fun x_708 _ => ofO (addL ([([116, 114, 101, 101] : List Nat)] : List (List Nat)) x_708) ()) fun x_707 _ => ofO (joinS [(Ch.mk 10).c] x_707) ()) else
    (O.bind (O.bind (O.bind (O.bind (O.bind (d_row_of_a (thing_677)) fun x_720 _ => d_Row_runs (x_720)) fun x_719 _ => .ok (x_719) ()) fun l_718 _ => O.bind (smL l_718 ()) fun l_717 _ => mapO (fun x_706 _ => (O.bind (ofO (addS [x_706.1.c] [(Ch.mk 32).c]) ()) fun x_721 _ => O.bind (ofO (strO x_706.2) ()) fun x_722 _ => ofO (addS x_721 x_722) ())) l_717 ()) fun x_716 _ => ofO (addL ([([114, 111, 119] : List Nat)] : List (List Nat)) x_716) ()) fun x_715 _ => ofO (joinS [(Ch.mk 10).c] x_715) ()))
/-! _law_refused -/
def d_law_refused_a (thing_674 : F) : P (F) :=
  (let found_675 := (); (O.bind (tryO 501 6 none (O.bind (d_write_a (thing_674)) fun y_730 _ => .ok F.non ())) fun found_728 _ =>
    (.ok found_728 ())))
/-! read -/
def d_read_a (text_739 : F) : P (Ei (Row) (Tree)) :=
  (if (!(isiAny [.str] (kyF text_739))) = true then (O.bind (.ok (0 : Int) ()) fun x_741 _ => .ex 500 [(5, En.e x_741)] ()) else
    (O.bind (O.bind (ofO ((De.d text_739 : Option (List Nat))) ()) fun x_747 _ => ofO (splitO x_747 [(Ch.mk 10).c]) ()) fun lines_742 _ =>
    (O.bind (O.bind (ofO (atI lines_742 (0 : Int)) ()) fun x_749 _ => .ok ((decide (x_749 = ([114, 111, 119] : List Nat)))) ()) fun b_748 _ => if b_748 = true then (O.bind (d_row_read ((cutL lines_742 (some (1 : Int)) none))) fun x_750 _ => .ok ((Ei.a x_750 : Ei (Row) (Tree))) ()) else
    (O.bind (O.bind (ofO (atI lines_742 (0 : Int)) ()) fun x_752 _ => .ok ((decide (x_752 = ([116, 114, 101, 101] : List Nat)))) ()) fun b_751 _ => if b_751 = true then (O.bind (d_tree_read ((cutL lines_742 (some (1 : Int)) none))) fun x_753 _ => .ok ((Ei.b x_753 : Ei (Row) (Tree))) ()) else
    (O.bind (.ok (1 : Int) ()) fun x_746 _ => .ex 500 [(5, En.e x_746)] ())))))
/-! _law_tried -/
def d_law_tried_a (thing_738 : F) : P (F) :=
  (O.bind (tryO 500 5 (some [98, 97, 100]) (O.bind (O.bind (O.bind (d_read_a (thing_738)) fun x_758 _ => d_write_oRowTree (x_758)) fun x_757 _ => .ok ((([114, 101, 97, 100] : List Nat), x_757)) ()) fun y_756 _ => .ok (En.e y_756) ())) fun found_754 _ =>
    (.ok found_754 ()))
/-! law -/
def d_law (s_0 : Sp) : O Sp (Bool) :=
  (O.bind (rg1 (10 : Int) s_0) fun l_787 s_788 => O.bind (forO (R := Bool) (fun i_2 (v_1 : Unit) s_3 => (O.bind (d_law_lines  s_3) fun lineshere_230 s_231 =>
    (O.bind (O.bind (O.bind (d_law_draw ((3 : Int)) s_231) fun x_763 s_764 => .ok (((1 : Int) + x_763)) s_764) fun x_761 s_762 => rg1 x_761 s_762) fun l_759 s_760 => O.bind (foldO (fun i_233 (v_232 : (List (List Nat))) s_234 => (O.bind (d_law_bent (v_232) s_234) fun lineshere_295 s_296 =>
    (.ok lineshere_295 s_296))) l_759 lineshere_230 s_760) fun v_297 s_298 =>
    (O.bind (ofO (joinS [(Ch.mk 10).c] v_297) s_298) fun told_299 s_300 =>
    (O.bind (ofO (splitO told_299 [(Ch.mk 10).c]) s_300) fun lineshere_301 s_302 =>
    (let bad_303 := (some (1 : Int)); (O.bind (O.bind (ofO (atI lineshere_301 (0 : Int)) s_302) fun x_767 s_768 => .ok ((decide (x_767 = ([114, 111, 119] : List Nat)))) s_768) fun b_765 s_766 => O.bind (if b_765 = true then (O.bind ((d_law_row_fault (lineshere_301)).up s_766) fun bad_358 s_359 =>
    (.ok bad_358 s_359)) else (O.bind (O.bind (ofO (atI lineshere_301 (0 : Int)) s_766) fun x_771 s_772 => .ok ((decide (x_771 = ([116, 114, 101, 101] : List Nat)))) s_772) fun b_769 s_770 => O.bind (if b_769 = true then (O.bind ((d_law_tree_fault (lineshere_301)).up s_770) fun bad_414 s_415 =>
    (.ok bad_414 s_415)) else (.ok bad_303 s_770)) fun v_416 s_417 =>
    (.ok v_416 s_417))) fun v_419 s_420 =>
    (let due_422 := (if v_419.isNone = true then ((fun (p : (List Nat) × (List Nat)) => ((id : List Nat → List Nat) p.1, (fun (x : List Nat) => (En.e x : F)) p.2)) (([114, 101, 97, 100] : List Nat), told_299)) else ((fun (p : (List Nat) × (Option (Int))) => ((id : List Nat → List Nat) p.1, (fun (x : Option (Int)) => (En.e x : F)) p.2)) (([98, 97, 100] : List Nat), v_419))); (O.bind (O.bind (O.bind ((d_law_tried_s (told_299)).up s_420) fun x_777 s_778 => (d_same (x_777) ((En.e due_422))).up s_778) fun x_775 s_776 => .ok ((!x_775)) s_776) fun b_773 s_774 => if b_773 = true then (.ok (.rt false) s_774) else
    (O.bind (if v_419.isNone = true then (O.bind (O.bind (O.bind (ofO (addS told_299 [(Ch.mk 10).c]) s_774) fun x_785 s_786 => (d_law_tried_s (x_785)).up s_786) fun x_783 s_784 => (d_same (x_783) ((En.e (([98, 97, 100] : List Nat), (((lineshere_301).length : Int) + (1 : Int)))))).up s_784) fun x_781 s_782 => .ok ((!x_781)) s_782) else .ok false s_774) fun b_779 s_780 => if b_779 = true then (.ok (.rt false) s_780) else
    (.ok (.nx ()) s_780))))))))))) l_787 () s_788) (flB (fun v_668 s_669 =>
    (let some_670 := ([((fun (p : (Unit) × (Int)) => ((fun (x : Unit) => (En.e x : F)) p.1, (id : Int → Int) p.2)) ((), (0 : Int))), ((fun (p : (Int) × (Int)) => ((fun (x : Int) => (En.e x : F)) p.1, (id : Int → Int) p.2)) ((5 : Int), (0 : Int))), ((fun (p : (List (Ch)) × (Int)) => ((fun (x : List (Ch)) => (En.e x : F)) p.1, (id : Int → Int) p.2)) (([(Ch.mk 104)] : List (Ch)), (0 : Int))), ((fun (p : (List Nat) × (Int)) => ((fun (x : List Nat) => (En.e x : F)) p.1, (id : Int → Int) p.2)) (([104, 120] : List Nat), (1 : Int))), ((fun (p : (Ch) × (Int)) => ((fun (x : Ch) => (En.e x : F)) p.1, (id : Int → Int) p.2)) ((Ch.mk 120), (0 : Int))), ((fun (p : (Bool) × (Int)) => ((fun (x : Bool) => (En.e x : F)) p.1, (id : Int → Int) p.2)) (true, (0 : Int))), ((F.dct []), (0 : Int))] : List ((F) × (Int))); (O.bind (O.bind (O.bind (O.bind (O.bind (smL some_670 s_669) fun l_797 s_798 => mapO (fun x_672 s_673 => ((d_law_refused_a (x_672.1)).up s_673)) l_797 s_798) fun x_795 s_796 => .ok ((En.e x_795)) s_796) fun x_793 s_794 => O.bind (O.bind (O.bind (smL some_670 s_794) fun l_803 s_804 => .ok (l_803.map fun x_731 => x_731.2) s_804) fun x_801 s_802 => .ok ((En.e x_801)) s_802) fun x_799 s_800 => (d_same (x_793) (x_799)).up s_800) fun x_791 s_792 => .ok ((!x_791)) s_792) fun b_789 s_790 => if b_789 = true then (.ok false s_790) else
    (let odd_734 := ([(En.e ()), (En.e (5 : Int)), (En.e ([([114, 111, 119] : List Nat)] : List (List Nat))), (En.e (Tu.mk [([116, 114, 101, 101] : List Nat)])), (En.e true), (F.dct [])] : List (F)); (O.bind (O.bind (O.bind (smL odd_734 s_790) fun l_809 s_810 => mapO (fun x_736 s_737 => ((d_law_tried_a (x_736)).up s_737)) l_809 s_810) fun x_807 s_808 => O.bind (ofO (mulL ([(([98, 97, 100] : List Nat), (0 : Int))] : List ((List Nat) × (Int))) (6 : Int)) s_808) fun x_811 s_812 => ofO ((eqA (En.e x_807) (En.e x_811))) s_812) fun b_805 s_806 => if b_805 = true then (O.bind ((d_law_tried_s (([] : List Nat))).up s_806) fun x_813 s_814 => ofO ((eqA (En.e x_813) (En.e (([98, 97, 100] : List Nat), (1 : Int))))) s_814) else .ok false s_806))))) (fun a => a)))
end LB

set_option Elab.async false
set_option linter.all false
set_option maxRecDepth 100000
set_option maxHeartbeats 4000000
set_option autoImplicit false
namespace LB
open VS TL
open L2 (atI ixN)
theorem r_law_same : FnP (A := F × F × Unit) (R := Bool) (m__law_same 8) (fun a => d_same a.1 a.2.1) := r_same
theorem r_law_draw : FnG (A := (Rs) × (Int) × (Unit)) (R := Int) wS m__law_draw (fun a s => d_law_draw a.2.1 s) := by
  refine fn_ok (fun _ => rfl) (by decide) fun B a s => ?_
  obtain ⟨_, many_6, _⟩ := a
  have h : J B 5 (Kfn (R := Int) B) [(0, .loc 1), (1, w_ many_6)] [] t__law_draw s _ := (j_sp (j := 0) (up := fun s a => { s with cnt := a }) rfl (e_op2 o_addI (E.el (e_sp2 rfl)) (fun _ => (E.el e_int))) (fun _ _ _ => rfl) (fun _ => (j_ifJ (S := Unit) (oG := fun v => [(0, .loc 1), (1, w_ many_6)]) (oC := fun v => []) (t_and (t_val (e_op2 o_eqI (E.el (e_sp1 rfl)) (fun _ => (E.el e_int)))) (fun _ => (t_sp0 rfl))) (fun _ => (j_spPop (by decide) rfl (fun cell_10 _ => (j_sp (j := 0) (up := fun s a => { s with mix := a }) rfl (e_op2 o_modI (E.el (e_cb1 o_intI (E.el (e_op2 o_addI (E.el (e_op2 o_addI (E.el (e_op2 o_mulI (E.el (e_sp3 rfl)) (fun _ => (E.el e_int)))) (fun _ => (E.el (e_var (α := Int) rfl))))) (fun _ => (E.el e_int)))))) (fun _ => (E.el e_int))) (fun _ _ _ => rfl) (fun _ => (j_last (j_sp (j := 0) (up := fun s a => { s with big := a }) rfl (e_if (t_val (e_op2 o_ge (E.el (e_var (α := Int) rfl)) (fun _ => (E.el (e_op2 o_powI (E.el e_int) (fun _ => (E.el e_int))))))) (fun _ => (e_var (α := Int) rfl)) (fun _ => e_int)) (fun _ _ _ => rfl) (fun _ => (j_end (end_j (v := ()) (sub_cons rfl (sub_cons rfl sub_nil)) .slnil)))))))))) (fun _ => (j_end (end_j (v := ()) (sub_cons rfl (sub_cons rfl sub_nil)) .slnil))) (fun v_19 s_20 => (j_if (t_val (e_op2 o_gt (E.el (e_sp1 rfl)) (fun _ => (E.el e_int)))) (fun _ => (j_term (j_set (α := Int) (by decide) (e_op2 o_modI (E.el (e_cb1 o_intI (E.el (e_sp1 rfl)))) (fun _ => (E.el (e_var (α := Int) rfl)))) (fun digit_23 s_24 => (j_sp (j := 0) (up := fun s a => { s with big := a }) rfl (e_op2 o_divI (E.el (e_sp1 rfl)) (fun _ => (E.el (e_var (α := Int) rfl)))) (fun _ _ _ => rfl) (fun _ => (j_last (j_retI (ret_t ret_fn) (e_var (α := Int) rfl))))))))) (fun _ => (j_nil (j_set (α := Int) (by decide) (e_op2 o_modI (E.el (e_cb1 o_intI (E.el (e_op2 o_powI (E.el (e_op2 o_addI (E.el (e_op2 o_addI (E.el (e_sp3 rfl)) (fun _ => (E.el (e_op2 o_mulI (E.el e_int) (fun _ => (E.el (e_sp2 rfl)))))))) (fun _ => (E.el e_int)))) (fun _ => (E.el e_int)))))) (fun _ => (E.el e_int))) (fun mixed_28 s_29 => (j_last (j_retI ret_fn (e_op2 o_modI (E.el (e_op2 o_modI (E.el (e_cb1 o_intI (E.el (e_op2 o_powI (E.el (e_op2 o_addI (E.el (e_op2 o_addI (E.el (e_op2 o_mulI (E.el (e_var (α := Int) rfl)) (fun _ => (E.el e_int)))) (fun _ => (E.el (e_op2 o_mulI (E.el e_int) (fun _ => (E.el (e_sp2 rfl)))))))) (fun _ => (E.el e_int)))) (fun _ => (E.el e_int)))))) (fun _ => (E.el e_int)))) (fun _ => (E.el (e_var (α := Int) rfl)))))))))))))))
  exact h
theorem r_law_pick_sls : FnG (A := (Rs) × (List (List Nat)) × (Unit)) (R := List Nat) wS m__law_pick (fun a s => d_law_pick_sls a.2.1 s) := by
  refine fn_ok (fun _ => rfl) (by decide) fun B a s => ?_
  obtain ⟨_, some_97, _⟩ := a
  have h : J B 2 (Kfn (R := List Nat) B) [(0, .loc 1), (1, w_ some_97)] [] t__law_pick s _ := (j_last (j_retI ret_fn (e_ixL (e_var (α := List (List Nat)) rfl) (fun _ => (e_callS r_law_draw (a_sp rfl (a_cons (e_cb1 o_lenL (E.el (e_var (α := List (List Nat)) rfl))) (fun _ => a_nil))))))))
  exact h
theorem r_law_pick_ss : FnG (A := (Rs) × (List Nat) × (Unit)) (R := Ch) wS m__law_pick (fun a s => d_law_pick_ss a.2.1 s) := by
  refine fn_ok (fun _ => rfl) (by decide) fun B a s => ?_
  obtain ⟨_, some_104, _⟩ := a
  have h : J B 2 (Kfn (R := Ch) B) [(0, .loc 1), (1, w_ some_104)] [] t__law_pick s _ := (j_last (j_retI ret_fn (e_ixS (e_var (α := List Nat) rfl) (fun _ => (e_callS r_law_draw (a_sp rfl (a_cons (e_cb1 o_lenS (E.el (e_var (α := List Nat) rfl))) (fun _ => a_nil))))))))
  exact h
theorem r_law_t_row : FnG (A := (Rs) × (Int) × (Unit)) (R := List Nat) wS m__law_t_row (fun a s => d_law_t_row a.2.1 s) := by
  refine fn_ok (fun _ => rfl) (by decide) fun B a s => ?_
  obtain ⟨_, most_96, _⟩ := a
  have h : J B 4 (Kfn (R := List Nat) B) [(0, .loc 1), (1, w_ most_96)] [] t__law_t_row s _ := (j_set (α := List Nat) (by decide) (e_callS r_law_pick_sls (a_sp rfl (a_cons (e_lst (al_cons e_str (fun _ => (al_cons e_str (fun _ => (al_cons e_str (fun _ => (al_cons e_str (fun _ => (al_cons e_str (fun _ => (al_cons e_str (fun _ => (al_cons e_str (fun _ => (al_cons e_str (fun _ => (al_cons e_str (fun _ => (al_cons e_str (fun _ => (al_cons e_str (fun _ => al_nil))))))))))))))))))))))) (fun _ => a_nil)))) (fun menu_100 s_101 => (j_last (j_retI ret_fn (e_bm1 o_joinCh (E.el e_str) (fun _ => (E.el (c_frz (c_map (α := Ch) (β := Int) (v := fun x_102 s_103 => (d_law_pick_ss (menu_100) s_103)) (i_rg1 (e_callS r_law_draw (a_sp rfl (a_cons (e_op2 o_addI (E.el (e_var (α := Int) rfl)) (fun _ => (E.el e_int))) (fun _ => a_nil))))) (tg_nm (α := Int) (by decide)) (fun _ => rfl) (fun x_102 _ _ _ => (e_callS r_law_pick_ss (a_sp rfl (a_cons (e_var (α := List Nat) rfl) (fun _ => a_nil))))))))))))))
  exact h
theorem r_law_pick_sli : FnG (A := (Rs) × (List (Int)) × (Unit)) (R := Int) wS m__law_pick (fun a s => d_law_pick_sli a.2.1 s) := by
  refine fn_ok (fun _ => rfl) (by decide) fun B a s => ?_
  obtain ⟨_, some_142, _⟩ := a
  have h : J B 2 (Kfn (R := Int) B) [(0, .loc 1), (1, w_ some_142)] [] t__law_pick s _ := (j_last (j_retI ret_fn (e_ixL (e_var (α := List (Int)) rfl) (fun _ => (e_callS r_law_draw (a_sp rfl (a_cons (e_cb1 o_lenL (E.el (e_var (α := List (Int)) rfl))) (fun _ => a_nil))))))))
  exact h
theorem r_law_t_slot : FnP (A := (List ((Int) × (Int))) × (Int) × (Unit)) (R := Int) m__law_t_slot (fun a => d_law_t_slot a.1 a.2.1) := by
  refine fn_okP (fun _ => rfl) (by decide) fun B a s => ?_
  obtain ⟨blocks_147, block_148, _⟩ := a
  have h : J B 2 (Kfn (R := Int) B) [(0, w_ blocks_147), (1, w_ block_148)] [] t__law_t_slot s _ := (j_last (j_retI ret_fn (e_if (t_val (e_op2 o_gt (E.el (e_var (α := Int) rfl)) (fun _ => (E.el e_int)))) (fun _ => (e_ixT (i := 0) (f := fun (a : (Int) × (Int)) => a.1) (fun _ _ => rfl) (e_ixL (e_var (α := List ((Int) × (Int))) rfl) (fun _ => (e_op2 o_subI (E.el (e_var (α := Int) rfl)) (fun _ => (E.el e_int))))) (fun _ => e_int))) (fun _ => e_int))))
  exact h
theorem r_law_t_drawn : FnG (A := (Rs) × (Int) × (Unit)) (R := List ((Int) × (Int))) wS m__law_t_drawn (fun a s => d_law_t_drawn a.2.1 s) := by
  refine fn_ok (fun _ => rfl) (by decide) fun B a s => ?_
  obtain ⟨_, most_133, _⟩ := a
  have h : J B 5 (Kfn (R := List ((Int) × (Int))) B) [(0, .loc 1), (1, w_ most_133)] [] t__law_t_drawn s _ := (j_setC (α := (Int) × (Int)) (by decide) (c_lst al_nil) (fun k_134 blocks_135 s_136 => (j_for (β := Int) (S := (List ((Int) × (Int)))) (oG := fun v => [(0, .loc 1), (2, .loc (B.b + k_134))]) (oC := fun v => [(k_134, cl_ v)]) (v0 := blocks_135) (i_rg1 (e_callS r_law_draw (a_sp rfl (a_cons (e_op2 o_addI (E.el (e_var (α := Int) rfl)) (fun _ => (E.el e_int))) (fun _ => a_nil))))) (tg_nm (α := Int) (by decide)) (fun i_138 v_137 s_139 => (j_set (α := Int) (by decide) (e_callS r_law_pick_sli (a_sp rfl (a_cons (e_lst (al_cons (e_callS r_law_draw (a_sp rfl (a_cons (e_op2 o_addI (E.el (e_cb1 o_lenL (el_cell rfl (.head _)))) (fun _ => (E.el e_int))) (fun _ => a_nil)))) (fun _ => (al_cons (e_cb1 o_lenL (el_cell rfl (.head _))) (fun _ => al_nil))))) (fun _ => a_nil)))) (fun parent_145 s_146 => (j_last (j_app (p := 0) rfl (e_tup2 (a_cons (e_op2 o_addI (E.el (e_op2 o_addI (E.el (e_callB r_law_t_slot (ab_cons (el_cell rfl (.head _)) (fun _ => (ab_cons (E.el (e_var (α := Int) rfl)) (fun _ => ab_nil)))))) (fun _ => (E.el e_int)))) (fun _ => (E.el (e_callS r_law_pick_sli (a_sp rfl (a_cons (e_lst (al_cons e_int (fun _ => (al_cons e_int (fun _ => (al_cons e_int (fun _ => (al_cons e_int (fun _ => (al_cons (e_op2 o_powI (E.el e_int) (fun _ => (E.el e_int))) (fun _ => al_nil))))))))))) (fun _ => a_nil))))))) (fun _ => (a_cons (e_var (α := Int) rfl) (fun _ => a_nil))))) (.head _) rfl (fun blocks_150 s_151 => (j_end (end_s (v := blocks_150) (sub_cons rfl (sub_cons rfl sub_nil)) (.cons₂ _ .slnil))))))))) (sub_cons rfl (sub_cons rfl sub_nil)) (.cons₂ _ .slnil) (fun v_152 s_153 => (j_last (j_retI ret_fn (e_frz (p := 0) rfl rfl)))))))
  exact h
theorem r_law_lines : FnG (A := (Rs) × (Unit)) (R := List (List Nat)) wS m__law_lines (fun a s => d_law_lines  s) := by
  refine fn_ok (fun _ => rfl) (by decide) fun B a s => ?_
  obtain ⟨_, _⟩ := a
  have h : J B 7 (Kfn (R := List (List Nat)) B) [(0, .loc 1)] [] t__law_lines s _ := (j_if (t_val (e_op2 o_eqI (E.el (e_callS r_law_draw (a_sp rfl (a_cons e_int (fun _ => a_nil))))) (fun _ => (E.el e_int)))) (fun _ => (j_term (j_setC (α := (Ch) × (Int)) (by decide) (c_lst al_nil) (fun k_93 found_94 s_95 => (j_for (β := Ch) (S := (List ((Ch) × (Int)))) (oG := fun v => [(0, .loc 1), (1, .loc (B.b + k_93))]) (oC := fun v => [(k_93, cl_ v)]) (v0 := found_94) (i_any it_str (e_callS r_law_t_row (a_sp rfl (a_cons e_int (fun _ => a_nil))))) (tg_nm (α := Ch) (by decide)) (fun i_118 v_117 s_119 => (j_last (j_ifJ (S := (List ((Ch) × (Int)))) (oG := fun v => [(0, .loc 1), (1, .loc (B.b + k_93))]) (oC := fun v => [(k_93, cl_ v)]) (t_or (t_val (e_op2 (o_eq (α := List ((Ch) × (Int))) (by decide)) (el_cell rfl (.head _)) (fun _ => (E.el (e_lst (α := (Ch) × (Int)) al_nil))))) (fun _ => (t_val (e_op2 (ne_of o_eqC) (E.el (e_ixT (i := 0) (f := fun (a : (Ch) × (Int)) => a.1) (fun _ _ => rfl) (e_ixC rfl (.head _) (e_op1 o_neg (E.el e_int))) (fun _ => e_int))) (fun _ => (E.el (e_var (α := Ch) rfl))))))) (fun _ => (j_last (j_app (p := 0) rfl (e_tup2 (a_cons (e_var (α := Ch) rfl) (fun _ => (a_cons (e_op2 o_addI (E.el e_int) (fun _ => (E.el (e_callS r_law_draw (a_sp rfl (a_cons e_int (fun _ => a_nil))))))) (fun _ => a_nil))))) (.head _) rfl (fun found_122 s_123 => (j_end (end_j (v := found_122) (sub_cons rfl (sub_cons rfl sub_nil)) (.cons₂ _ .slnil))))))) (fun _ => (j_end (end_j (v := v_117) (sub_cons rfl (sub_cons rfl sub_nil)) (.cons₂ _ .slnil)))) (fun v_124 s_125 => (j_end (end_s (v := v_124) (sub_cons rfl (sub_cons rfl sub_nil)) (.cons₂ _ .slnil))))))) (sub_cons rfl (sub_cons rfl sub_nil)) (.cons₂ _ .slnil) (fun v_127 s_128 => (j_set (α := List ((Ch) × (Int))) (by decide) (e_frz (p := 0) rfl rfl) (fun found_129 s_130 => (j_last (j_retI (ret_t ret_fn) (e_op2 o_addL (E.el (e_lst (al_cons e_str (fun _ => al_nil)))) (fun _ => (E.el (c_frz (c_map (α := List Nat) (β := (Ch) × (Int)) (v := fun x_131 s_132 => (O.bind (ofO (addS [x_131.1.c] [(Ch.mk 32).c]) s_132) fun x_220 s_221 => O.bind (ofO (strO x_131.2) s_221) fun x_222 s_223 => ofO (addS x_220 x_222) s_223)) (i_any it_lst (e_var (α := List ((Ch) × (Int))) rfl)) (tg_2 (tg_nm (α := Ch) (by decide)) (tg_nm (α := Int) (by decide))) (fun _ => rfl) (fun x_131 _ _ _ => (e_op2 o_addS (E.el (e_op2 o_addS (E.el (e_co co_chr (e_var (α := Ch) rfl))) (fun _ => (E.el (e_co co_chr e_chr))))) (fun _ => (E.el (e_cb1 o_strI (E.el (e_var (α := Int) rfl)))))))))))))))))))))) (fun _ => (j_nil (j_set (α := List ((Int) × (Int))) (by decide) (e_callS r_law_t_drawn (a_sp rfl (a_cons e_int (fun _ => a_nil)))) (fun blocks_176 s_177 => (j_last (j_retI ret_fn (e_op2 o_addL (E.el (e_lst (al_cons e_str (fun _ => al_nil)))) (fun _ => (E.el (c_frz (c_map (α := List Nat) (β := (Int) × (Int)) (v := fun x_178 s_179 => (O.bind (O.bind (ofO (strO x_178.1) s_179) fun x_226 s_227 => ofO (addS x_226 [(Ch.mk 32).c]) s_227) fun x_224 s_225 => O.bind (ofO (strO x_178.2) s_225) fun x_228 s_229 => ofO (addS x_224 x_228) s_229)) (i_any it_lst (e_var (α := List ((Int) × (Int))) rfl)) (tg_2 (tg_nm (α := Int) (by decide)) (tg_nm (α := Int) (by decide))) (fun _ => rfl) (fun x_178 _ _ _ => (e_op2 o_addS (E.el (e_op2 o_addS (E.el (e_cb1 o_strI (E.el (e_var (α := Int) rfl)))) (fun _ => (E.el (e_co co_chr e_chr))))) (fun _ => (E.el (e_cb1 o_strI (E.el (e_var (α := Int) rfl)))))))))))))))))))
  exact h
theorem r_law_bent : FnG (A := (Rs) × (List (List Nat)) × (Unit)) (R := List (List Nat)) wS m__law_bent (fun a s => d_law_bent a.2.1 s) := by
  refine fn_ok (fun _ => rfl) (by decide) fun B a s => ?_
  obtain ⟨_, lineshere_237, _⟩ := a
  have h : J B 12 (Kfn (R := List (List Nat)) B) [(0, .loc 1), (1, w_ lineshere_237)] [] t__law_bent s _ := (j_a2 (ja_v (α := Int) (e_callS r_law_draw (a_sp rfl (a_cons e_int (fun _ => a_nil)))) (fun way_238 s_239 => (ja_v (α := Int) (e_callS r_law_draw (a_sp rfl (a_cons (e_cb1 o_lenL (E.el (e_var (α := List (List Nat)) rfl))) (fun _ => a_nil)))) (fun k_240 s_241 => (ja_e2 (by decide) (j_if (t_val (e_op2 o_eqI (E.el (e_var (α := Int) rfl)) (fun _ => (E.el e_int)))) (fun _ => (j_term (j_last (j_retI (ret_t ret_fn) (e_if (t_val (e_op2 o_gt (E.el (e_cb1 o_lenL (E.el (e_var (α := List (List Nat)) rfl)))) (fun _ => (E.el e_int)))) (fun _ => (e_op2 o_addL (E.el (e_sl (α := List (List Nat)) (sl_lst (α := List Nat)) (E.el (e_var (α := List (List Nat)) rfl)) (fun _ => o_no) (fun _ => (o_so (e_var (α := Int) rfl))))) (fun _ => (E.el (e_sl (α := List (List Nat)) (sl_lst (α := List Nat)) (E.el (e_var (α := List (List Nat)) rfl)) (fun _ => (o_so (e_op2 o_addI (E.el (e_var (α := Int) rfl)) (fun _ => (E.el e_int))))) (fun _ => o_no)))))) (fun _ => (e_lst (al_cons e_str (fun _ => al_nil))))))))) (fun _ => (j_nil (j_if (t_val (e_op2 o_eqI (E.el (e_var (α := Int) rfl)) (fun _ => (E.el e_int)))) (fun _ => (j_term (j_last (j_retI (ret_t ret_fn) (e_op2 o_addL (E.el (e_op2 o_addL (E.el (e_sl (α := List (List Nat)) (sl_lst (α := List Nat)) (E.el (e_var (α := List (List Nat)) rfl)) (fun _ => o_no) (fun _ => (o_so (e_var (α := Int) rfl))))) (fun _ => (E.el (e_sl (α := List (List Nat)) (sl_lst (α := List Nat)) (E.el (e_var (α := List (List Nat)) rfl)) (fun _ => (o_so (e_var (α := Int) rfl))) (fun _ => (o_so (e_op2 o_addI (E.el (e_var (α := Int) rfl)) (fun _ => (E.el e_int)))))))))) (fun _ => (E.el (e_sl (α := List (List Nat)) (sl_lst (α := List Nat)) (E.el (e_var (α := List (List Nat)) rfl)) (fun _ => (o_so (e_var (α := Int) rfl))) (fun _ => o_no))))))))) (fun _ => (j_nil (j_if (t_val (e_op2 o_eqI (E.el (e_var (α := Int) rfl)) (fun _ => (E.el e_int)))) (fun _ => (j_term (j_a2 (ja_v (α := Int) (e_callS r_law_draw (a_sp rfl (a_cons (e_cb1 o_lenL (E.el (e_var (α := List (List Nat)) rfl))) (fun _ => a_nil)))) (fun j_245 s_246 => (ja_c (α := List Nat) (c_list (f := fun l => l) (fun _ => rfl) (E.el (e_var (α := List (List Nat)) rfl))) (fun k_247 some_248 s_249 => (ja_e2 (by decide) (j_swap (p := 0) rfl rfl rfl (e_ixL (e_var (α := List (List Nat)) rfl) (fun _ => (e_var (α := Int) rfl))) (fun _ => (e_ixL (e_var (α := List (List Nat)) rfl) (fun _ => (e_var (α := Int) rfl)))) rfl (fun some_250 s_251 => (j_last (j_retI (ret_t ret_fn) (e_frz (p := 0) rfl rfl))))))))))))) (fun _ => (j_nil (j_if (t_val (e_op2 o_eqI (E.el (e_var (α := Int) rfl)) (fun _ => (E.el e_int)))) (fun _ => (j_term (j_set (α := List (List Nat)) (by decide) (e_lst (al_cons e_str (fun _ => (al_cons e_str (fun _ => (al_cons e_str (fun _ => (al_cons e_str (fun _ => (al_cons e_str (fun _ => (al_cons e_str (fun _ => (al_cons e_str (fun _ => (al_cons (e_co co_chr e_chr) (fun _ => (al_cons (e_co co_chr e_chr) (fun _ => (al_cons e_str (fun _ => al_nil))))))))))))))))))))) (fun odd_253 s_254 => (j_set (α := List (List Nat)) (by decide) (e_op2 o_addL (E.el (e_var (α := List (List Nat)) rfl)) (fun _ => (E.el (e_lst (al_cons e_str (fun _ => (al_cons e_str (fun _ => (al_cons e_str (fun _ => (al_cons e_str (fun _ => (al_cons e_str (fun _ => (al_cons (e_co co_chr e_chr) (fun _ => (al_cons e_str (fun _ => (al_cons e_str (fun _ => (al_cons e_str (fun _ => (al_cons e_str (fun _ => al_nil)))))))))))))))))))))))) (fun odd_255 s_256 => (j_last (j_retI (ret_t ret_fn) (e_op2 o_addL (E.el (e_op2 o_addL (E.el (e_sl (α := List (List Nat)) (sl_lst (α := List Nat)) (E.el (e_var (α := List (List Nat)) rfl)) (fun _ => o_no) (fun _ => (o_so (e_var (α := Int) rfl))))) (fun _ => (E.el (e_lst (al_cons (e_callS r_law_pick_sls (a_sp rfl (a_cons (e_var (α := List (List Nat)) rfl) (fun _ => a_nil)))) (fun _ => al_nil))))))) (fun _ => (E.el (e_sl (α := List (List Nat)) (sl_lst (α := List Nat)) (E.el (e_var (α := List (List Nat)) rfl)) (fun _ => (o_so (e_var (α := Int) rfl))) (fun _ => o_no))))))))))))) (fun _ => (j_nil (j_set (α := List Nat) (by decide) (e_ixL (e_var (α := List (List Nat)) rfl) (fun _ => (e_var (α := Int) rfl))) (fun line_257 s_258 => (j_set (α := Int) (by decide) (e_callS r_law_draw (a_sp rfl (a_cons (e_op2 o_addI (E.el (e_cb1 o_lenS (E.el (e_var (α := List Nat) rfl)))) (fun _ => (E.el e_int))) (fun _ => a_nil)))) (fun at_259 s_260 => (j_set (α := List Nat) (by decide) (e_callS r_law_pick_sls (a_sp rfl (a_cons (e_lst (al_cons (e_co co_chr e_chr) (fun _ => (al_cons (e_co co_chr e_chr) (fun _ => (al_cons (e_co co_chr e_chr) (fun _ => (al_cons (e_co co_chr e_chr) (fun _ => (al_cons (e_co co_chr e_chr) (fun _ => (al_cons (e_co co_chr e_chr) (fun _ => (al_cons (e_co co_chr e_chr) (fun _ => (al_cons (e_co co_chr e_chr) (fun _ => (al_cons e_str (fun _ => (al_cons (e_co co_chr e_chr) (fun _ => (al_cons (e_co co_chr e_chr) (fun _ => al_nil))))))))))))))))))))))) (fun _ => a_nil)))) (fun sign_261 s_262 => (j_set (α := Int) (by decide) (e_op2 o_addI (E.el (e_var (α := Int) rfl)) (fun _ => (E.el (e_callS r_law_draw (a_sp rfl (a_cons e_int (fun _ => a_nil))))))) (fun cut_263 s_264 => (j_set (α := List Nat) (by decide) (e_op2 o_addS (E.el (e_op2 o_addS (E.el (e_sl sl_str (E.el (e_var (α := List Nat) rfl)) (fun _ => o_no) (fun _ => (o_so (e_var (α := Int) rfl))))) (fun _ => (E.el (e_var (α := List Nat) rfl))))) (fun _ => (E.el (e_sl sl_str (E.el (e_var (α := List Nat) rfl)) (fun _ => (o_so (e_var (α := Int) rfl))) (fun _ => o_no))))) (fun benthere_265 s_266 => (j_last (j_retI ret_fn (e_op2 o_addL (E.el (e_op2 o_addL (E.el (e_sl (α := List (List Nat)) (sl_lst (α := List Nat)) (E.el (e_var (α := List (List Nat)) rfl)) (fun _ => o_no) (fun _ => (o_so (e_var (α := Int) rfl))))) (fun _ => (E.el (e_lst (al_cons (e_var (α := List Nat) rfl) (fun _ => al_nil))))))) (fun _ => (E.el (e_sl (α := List (List Nat)) (sl_lst (α := List Nat)) (E.el (e_var (α := List (List Nat)) rfl)) (fun _ => (o_so (e_op2 o_addI (E.el (e_var (α := Int) rfl)) (fun _ => (E.el e_int))))) (fun _ => o_no)))))))))))))))))))))))))))))))))))
  exact h
theorem r_law_number : FnP (A := (List Nat) × (Unit)) (R := Option (Int)) m__law_number (fun a => d_law_number a.1) := by
  refine fn_okP (fun _ => rfl) (by decide) fun B a s => ?_
  obtain ⟨word_319, _⟩ := a
  have h : J B 2 (Kfn (R := Option (Int)) B) [(0, w_ word_319)] [] t__law_number s _ := (j_if (t_or (t_val (e_op2 o_eqS (E.el (e_var (α := List Nat) rfl)) (fun _ => (E.el e_str)))) (fun _ => (t_not (t_val (e_cb1 o_all (E.el (c_frz (c_mapT (α := Bool) (β := Ch) (v := fun x_320 => (decide (x_320.c ∈ ([48, 49, 50, 51, 52, 53, 54, 55, 56, 57] : List Nat)))) (i_any it_str (e_var (α := List Nat) rfl)) (tg_nm (α := Ch) (by decide)) (fun _ => rfl) (fun x_320 _ _ _ => (e_op2 o_inCh (E.el (e_var (α := Ch) rfl)) (fun _ => (E.el e_str)))))))))))) (fun _ => (j_term (j_last (j_retI (ret_t ret_fn) (e_co (f := fun _ => (none : Option (Int))) co_none e_non))))) (fun _ => (j_nil (j_last (j_retI ret_fn (e_if (t_or (t_val (e_op2 (ne_of o_eqC) (E.el (e_ixS (e_var (α := List Nat) rfl) (fun _ => e_int))) (fun _ => (E.el e_chr)))) (fun _ => (t_val (e_op2 o_eqS (E.el (e_var (α := List Nat) rfl)) (fun _ => (E.el (e_co co_chr e_chr))))))) (fun _ => (e_co (f := some) co_some (e_cb1 o_intS (E.el (e_var (α := List Nat) rfl))))) (fun _ => (e_co (f := fun _ => (none : Option (Int))) co_none e_non))))))))
  exact h
theorem r_law_row_fault : FnP (A := (List (List Nat)) × (Unit)) (R := Option (Int)) m__law_row_fault (fun a => d_law_row_fault a.1) := by
  refine fn_okP (fun _ => rfl) (by decide) fun B a s => ?_
  obtain ⟨lineshere_335, _⟩ := a
  have h : J B 5 (Kfn (R := Option (Int)) B) [(0, w_ lineshere_335)] [] t__law_row_fault s _ := (j_set (α := List Nat) (by decide) e_str (fun last_336 s_337 => (j_forL (β := (Int) × (List Nat)) (S := (List Nat)) (oG := fun v => [(1, w_ v)]) (oC := fun v => []) (R := Option (Int)) (v0 := last_336) ret_fn (i_enum d_lst (e_sl (α := List (List Nat)) (sl_lst (α := List Nat)) (E.el (e_var (α := List (List Nat)) rfl)) (fun _ => (o_so e_int)) (fun _ => o_no))) (tg_2 (tg_nm (α := Int) (by decide)) (tg_nm (α := List Nat) (by decide))) (fun i_339 v_338 s_340 => (j_set (α := List (List Nat)) (by decide) (e_bm1 o_split (E.el (e_var (α := List Nat) rfl)) (fun _ => (E.el (e_co co_chr e_chr)))) (fun words_343 s_344 => (j_if (t_or (t_val (e_op2 (ne_of o_eqI) (E.el (e_cb1 o_lenL (E.el (e_var (α := List (List Nat)) rfl)))) (fun _ => (E.el e_int)))) (fun _ => (t_or (t_val (e_op2 o_ninG (E.el (e_ixL (e_var (α := List (List Nat)) rfl) (fun _ => e_int))) (fun _ => (E.el (e_tup4 (a_cons e_chr (fun _ => (a_cons e_chr (fun _ => (a_cons e_chr (fun _ => (a_cons e_chr (fun _ => a_nil))))))))))))) (fun _ => (t_val (e_op2 o_eqS (E.el (e_ixL (e_var (α := List (List Nat)) rfl) (fun _ => e_int))) (fun _ => (E.el (e_var (α := List Nat) rfl))))))))) (fun _ => (j_term (j_last (j_ret (f := Fl.rt) (ret_t ret_l) (e_co (f := some) co_some (e_op2 o_addI (E.el (e_var (α := Int) rfl)) (fun _ => (E.el e_int)))))))) (fun _ => (j_nil (j_if (t_val (e_op2 o_inG (E.el (e_callU r_law_number (a_cons (e_ixL (e_var (α := List (List Nat)) rfl) (fun _ => e_int)) (fun _ => a_nil)))) (fun _ => (E.el (e_tup2 (a_cons e_non (fun _ => (a_cons e_int (fun _ => a_nil))))))))) (fun _ => (j_term (j_last (j_ret (f := Fl.rt) (ret_t ret_l) (e_co (f := some) co_some (e_op2 o_addI (E.el (e_var (α := Int) rfl)) (fun _ => (E.el e_int)))))))) (fun _ => (j_nil (j_last (j_set (α := List Nat) (by decide) (e_ixL (e_var (α := List (List Nat)) rfl) (fun _ => e_int)) (fun last_347 s_348 => (j_end (end_l (v := last_347) (sub_cons rfl sub_nil) .slnil)))))))))))))) (sub_cons rfl sub_nil) .slnil (fun v_349 s_350 => (j_last (j_retI ret_fn (e_co (f := fun _ => (none : Option (Int))) co_none e_non)))))))
  exact h
theorem r_law_tree_fault : FnP (A := (List (List Nat)) × (Unit)) (R := Option (Int)) m__law_tree_fault (fun a => d_law_tree_fault a.1) := by
  refine fn_okP (fun _ => rfl) (by decide) fun B a s => ?_
  obtain ⟨lineshere_381, _⟩ := a
  have h : J B 8 (Kfn (R := Option (Int)) B) [(0, w_ lineshere_381)] [] t__law_tree_fault s _ := (j_setC (α := Int) (by decide) (c_lst (al_cons e_int (fun _ => al_nil))) (fun k_382 slots_383 s_384 => (j_forL (β := (Int) × (List Nat)) (S := (List (Int))) (oG := fun v => [(1, .loc (B.b + k_382))]) (oC := fun v => [(k_382, cl_ v)]) (R := Option (Int)) (v0 := slots_383) ret_fn (i_enum d_lst (e_sl (α := List (List Nat)) (sl_lst (α := List Nat)) (E.el (e_var (α := List (List Nat)) rfl)) (fun _ => (o_so e_int)) (fun _ => o_no))) (tg_2 (tg_nm (α := Int) (by decide)) (tg_nm (α := List Nat) (by decide))) (fun i_386 v_385 s_387 => (j_set (α := List (List Nat)) (by decide) (e_bm1 o_split (E.el (e_var (α := List Nat) rfl)) (fun _ => (E.el (e_co co_chr e_chr)))) (fun words_390 s_391 => (j_if (t_or (t_val (e_op2 (ne_of o_eqI) (E.el (e_cb1 o_lenL (E.el (e_var (α := List (List Nat)) rfl)))) (fun _ => (E.el e_int)))) (fun _ => (t_val (e_op2 o_inG (E.el e_non) (fun _ => (E.el (c_frz (c_map (α := Option (Int)) (β := List Nat) (v := fun x_392 _ => (d_law_number (x_392))) (i_any it_lst (e_var (α := List (List Nat)) rfl)) (tg_nm (α := List Nat) (by decide)) (fun _ => rfl) (fun x_392 _ _ _ => (e_callU r_law_number (a_cons (e_var (α := List Nat) rfl) (fun _ => a_nil)))))))))))) (fun _ => (j_term (j_last (j_ret (f := Fl.rt) (ret_t ret_l) (e_co (f := some) co_some (e_op2 o_addI (E.el (e_var (α := Int) rfl)) (fun _ => (E.el e_int)))))))) (fun _ => (j_nil (j_asg (α := Lp (Option (Int))) (tg_lp (by decide) (by decide)) (e_lp (c_frz (c_map (α := Option (Int)) (β := List Nat) (v := fun x_394 _ => (d_law_number (x_394))) (i_any it_lst (e_var (α := List (List Nat)) rfl)) (tg_nm (α := List Nat) (by decide)) (fun _ => rfl) (fun x_394 _ _ _ => (e_callU r_law_number (a_cons (e_var (α := List Nat) rfl) (fun _ => a_nil))))))) (fun p_395 s_396 => (j_if (t_or (t_val (e_op2 o_gt (E.el (e_cop (f := fun o => o) co_get (e_var (α := Option (Int)) rfl))) (fun _ => (E.el (e_var (α := Int) rfl))))) (fun _ => (t_val (e_op2 o_le (E.el (e_cop (f := fun o => o) co_get (e_var (α := Option (Int)) rfl))) (fun _ => (E.el (e_ixC rfl (.head _) (e_cop (f := fun o => o) co_get (e_var (α := Option (Int)) rfl))))))))) (fun _ => (j_term (j_last (j_ret (f := Fl.rt) (ret_t ret_l) (e_co (f := some) co_some (e_op2 o_addI (E.el (e_var (α := Int) rfl)) (fun _ => (E.el e_int)))))))) (fun _ => (j_nil (j_last (j_app (p := 0) rfl (e_cop (f := fun o => o) co_get (e_var (α := Option (Int)) rfl)) (.head _) rfl (fun slots_398 s_399 => (j_end (end_l (v := slots_398) (sub_cons rfl sub_nil) (.cons₂ _ .slnil))))))))))))))))) (sub_cons rfl sub_nil) (.cons₂ _ .slnil) (fun v_400 s_401 => (j_last (j_retI ret_fn (e_co (f := fun _ => (none : Option (Int))) co_none e_non)))))))
  exact h
theorem r_number_of : FnP (A := (List Nat) × (Unit)) (R := Option (Int)) m_number_of (fun a => d_number_of a.1) := by
  refine fn_okP (fun _ => rfl) (by decide) fun B a s => ?_
  obtain ⟨word_445, _⟩ := a
  have h : J B 2 (Kfn (R := Option (Int)) B) [(0, w_ word_445)] [] t_number_of s _ := (j_if (t_or (t_val (e_op2 o_eqS (E.el (e_var (α := List Nat) rfl)) (fun _ => (E.el e_str)))) (fun _ => (t_or (t_not (t_val (e_cb1 o_all (E.el (c_frz (c_mapT (α := Bool) (β := Ch) (v := fun x_446 => (decide (x_446.c ∈ ([48, 49, 50, 51, 52, 53, 54, 55, 56, 57] : List Nat)))) (i_any it_str (e_var (α := List Nat) rfl)) (tg_nm (α := Ch) (by decide)) (fun _ => rfl) (fun x_446 _ _ _ => (e_op2 o_inCh (E.el (e_var (α := Ch) rfl)) (fun _ => (E.el e_str)))))))))) (fun _ => (t_and (t_val (e_op2 o_eqC (E.el (e_ixS (e_var (α := List Nat) rfl) (fun _ => e_int))) (fun _ => (E.el e_chr)))) (fun _ => (t_val (e_op2 (ne_of o_eqS) (E.el (e_var (α := List Nat) rfl)) (fun _ => (E.el (e_co co_chr e_chr))))))))))) (fun _ => (j_term (j_last (j_retI (ret_t ret_fn) (e_co (f := fun _ => (none : Option (Int))) co_none e_non))))) (fun _ => (j_nil (j_last (j_retI ret_fn (e_co (f := some) co_some (e_cb1 o_intS (E.el (e_var (α := List Nat) rfl)))))))))
  exact h
theorem r_Pieces__init : FnP (A := (List ((List Nat) × (Int))) × (Unit)) (R := Pieces) (mkF 0 m_Pieces___init__) (fun a => d_Pieces__init a.1) := by
  refine mk_ok (fun _ => rfl) (by decide) fun B a s => ?_
  obtain ⟨pairs_466, _⟩ := a
  have h : J B 4 (Ki (R := Pieces) 0 B) [(0, .loc (B.b + 0)), (1, w_ pairs_466)] [(0, .ins 0 [])] t_Pieces___init__ s _ := (j_last (j_attr (p := 0) rfl (by decide +kernel) (by first | simp | simp [putA]) (c_frz (c_lcT (α := (List Nat) × (Int)) (β := (List Nat) × (Int)) (c := fun x_467 => ((!decide (x_467.1 = ([] : List Nat))) && (decide ((0 : Int) < x_467.2)))) (v := fun x_467 => (x_467.1, x_467.2)) (i_any it_lst (e_var (α := List ((List Nat) × (Int))) rfl)) (tg_2 (tg_nm (α := List Nat) (by decide)) (tg_nm (α := Int) (by decide))) (fun _ => rfl) (fun x_467 _ _ _ => (t_andT (t_val (e_op2 (ne_of o_eqS) (E.el (e_var (α := List Nat) rfl)) (fun _ => (E.el e_str)))) (fun _ => (t_val (e_op2 o_gt (E.el (e_var (α := Int) rfl)) (fun _ => (E.el e_int))))))) (fun x_467 _ _ _ => (e_tup2 (a_cons (e_var (α := List Nat) rfl) (fun _ => (a_cons (e_var (α := Int) rfl) (fun _ => a_nil)))))))) rfl (fun pairs_468 s_469 => (j_end (end_i (x := Pieces.mk (pairs_468)) (.head _) rfl)))))
  exact h
theorem r_Row__init_Pieces : FnP (A := (Pieces) × (Unit)) (R := Row) (mkF 1 m_Row___init__) (fun a => d_Row__init_Pieces a.1) := by
  refine mk_ok (fun _ => rfl) (by decide) fun B a s => ?_
  obtain ⟨text_471, _⟩ := a
  have h : J B 2 (Ki (R := Row) 1 B) [(0, .loc (B.b + 0)), (1, w_ text_471)] [(0, .ins 1 [])] t_Row___init__ s _ := (j_last (j_ifT (t_val (e_isi (b := true) (fun _ => rfl) (e_var (α := Pieces) rfl))) (j_attr (p := 0) rfl (by decide +kernel) (by first | simp | simp [putA]) (e_attr (f := Pieces.pairs) (fun _ _ => rfl) (e_var (α := Pieces) rfl)) rfl (fun pieces_472 s_473 => (j_end (end_i (x := Row.mk (pieces_472)) (.head _) rfl))))))
  exact h
theorem r_row_read : FnP (A := (List (List Nat)) × (Unit)) (R := Row) m_row_read (fun a => d_row_read a.1) := by
  refine fn_okP (fun _ => rfl) (by decide) fun B a s => ?_
  obtain ⟨lines_429, _⟩ := a
  have h : J B 9 (Kfn (R := Row) B) [(0, w_ lines_429)] [] t_row_read s _ := (j_a2 (ja_c (α := (List Nat) × (Int)) (c_lst al_nil) (fun k_430 found_431 s_432 => (ja_v (α := List Nat) e_str (fun last_433 s_434 => (ja_e2 (by decide) (j_for (β := (Int) × (List Nat)) (S := (List ((List Nat) × (Int))) × (List Nat)) (oG := fun v => [(1, .loc (B.b + k_430)), (2, w_ v.2)]) (oC := fun v => [(k_430, cl_ v.1)]) (v0 := (found_431, last_433)) (i_enum d_lst (e_var (α := List (List Nat)) rfl)) (tg_2 (tg_nm (α := Int) (by decide)) (tg_nm (α := List Nat) (by decide))) (fun i_436 v_435 s_437 => (j_asg (α := T3 (List Nat) (List Nat) (List Nat)) (tg_3 (tg_nm (α := List Nat) (by decide)) (tg_nm (α := List Nat) (by decide)) (tg_nm (α := List Nat) (by decide))) (e_bm1 o_part (E.el (e_var (α := List Nat) rfl)) (fun _ => (E.el (e_co co_chr e_chr)))) (fun p_440 s_441 => (j_set (α := Option (Int)) (by decide) (e_callU r_number_of (a_cons (e_var (α := List Nat) rfl) (fun _ => a_nil))) (fun many_456 s_457 => (j_if (t_or (t_val (e_op2 (ne_of o_eqI) (E.el (e_cb1 o_lenS (E.el (e_var (α := List Nat) rfl)))) (fun _ => (E.el e_int)))) (fun _ => (t_or (t_val (e_op2 o_ninG (E.el (e_var (α := List Nat) rfl)) (fun _ => (E.el e_str)))) (fun _ => (t_or (t_val (e_op2 o_eqS (E.el (e_var (α := List Nat) rfl)) (fun _ => (E.el (e_var (α := List Nat) rfl))))) (fun _ => (t_or (t_val (e_op2 o_isO (E.el (e_var (α := Option (Int)) rfl)) (fun _ => (E.el e_non)))) (fun _ => (t_val (e_op2 o_eqI (E.el (e_cop (f := fun o => o) co_get (e_var (α := Option (Int)) rfl))) (fun _ => (E.el e_int)))))))))))) (fun _ => (j_term (j_last (j_raise (e_op2 o_addI (E.el (e_var (α := Int) rfl)) (fun _ => (E.el e_int))))))) (fun _ => (j_nil (j_app (p := 0) rfl (e_tup2 (a_cons (e_var (α := List Nat) rfl) (fun _ => (a_cons (e_cop (f := fun o => o) co_get (e_var (α := Option (Int)) rfl)) (fun _ => a_nil))))) (.head _) rfl (fun found_460 s_461 => (j_last (j_set (α := List Nat) (by decide) (e_var (α := List Nat) rfl) (fun last_462 s_463 => (j_end (end_s (v := (found_460, last_462)) (sub_cons rfl (sub_cons rfl sub_nil)) (.cons₂ _ .slnil)))))))))))))))) (sub_cons rfl (sub_cons rfl sub_nil)) (.cons₂ _ .slnil) (fun v_464 s_465 => (j_last (j_retI ret_fn (e_callU r_Row__init_Pieces (a_cons (e_callU r_Pieces__init (a_cons (e_frz (p := 0) rfl rfl) (fun _ => a_nil))) (fun _ => a_nil)))))))))))))
  exact h
theorem r_is_list_ltii : FnP (A := (List ((Int) × (Int))) × (Unit)) (R := Bool) m_is_list (fun a => d_is_list_ltii a.1) := by
  refine fn_okP (fun _ => rfl) (by decide) fun B a s => ?_
  obtain ⟨thing_499, _⟩ := a
  have h : J B 1 (Kfn (R := Bool) B) [(0, w_ thing_499)] [] t_is_list s _ := (j_last (j_retI ret_fn (e_isi (b := true) (fun _ => rfl) (e_var (α := List ((Int) × (Int))) rfl))))
  exact h
theorem r_is_list_tii : FnP (A := ((Int) × (Int)) × (Unit)) (R := Bool) m_is_list (fun a => d_is_list_tii a.1) := by
  refine fn_okP (fun _ => rfl) (by decide) fun B a s => ?_
  obtain ⟨thing_519, _⟩ := a
  have h : J B 1 (Kfn (R := Bool) B) [(0, w_ thing_519)] [] t_is_list s _ := (j_last (j_retI ret_fn (e_isi (b := true) (fun _ => rfl) (e_var (α := (Int) × (Int)) rfl))))
  exact h
theorem r_is_integer_i : FnP (A := (Int) × (Unit)) (R := Bool) m_is_integer (fun a => d_is_integer_i a.1) := by
  refine fn_okP (fun _ => rfl) (by decide) fun B a s => ?_
  obtain ⟨thing_523, _⟩ := a
  have h : J B 1 (Kfn (R := Bool) B) [(0, w_ thing_523)] [] t_is_integer s _ := (j_last (j_retI ret_fn (e_and (e_isi (b := true) (fun _ => rfl) (e_var (α := Int) rfl)) (fun _ => (e_not (e_isi (b := false) (fun _ => rfl) (e_var (α := Int) rfl)))))))
  exact h
theorem r_Tree__contains : FnP (A := (Tree) × (Int) × (Unit)) (R := Bool) m_Tree___contains__ (fun a => d_Tree__contains a.1 a.2.1) := by
  refine fn_okP (fun _ => rfl) (by decide) fun B a s => ?_
  obtain ⟨self_524, thing_525, _⟩ := a
  have h : J B 2 (Kfn (R := Bool) B) [(0, w_ self_524), (1, w_ thing_525)] [] t_Tree___contains__ s _ := (j_last (j_retI ret_fn (e_and (e_callU r_is_integer_i (a_cons (e_var (α := Int) rfl) (fun _ => a_nil))) (fun _ => (e_chainT o_le o_lt e_int (fun _ => (e_var (α := Int) rfl)) (fun _ => (e_cb1 o_lenL (E.el (e_attr (f := Tree.slots) (fun _ _ => rfl) (e_var (α := Tree) rfl))))))))))
  exact h
theorem r_Tree_can_stand : FnP (A := (Tree) × (Int) × (Int) × (Unit)) (R := Bool) m_Tree_can_stand (fun a => d_Tree_can_stand a.1 a.2.1 a.2.2.1) := by
  refine fn_okP (fun _ => rfl) (by decide) fun B a s => ?_
  obtain ⟨self_520, slot_521, parent_522, _⟩ := a
  have h : J B 3 (Kfn (R := Bool) B) [(0, w_ self_520), (1, w_ slot_521), (2, w_ parent_522)] [] t_Tree_can_stand s _ := (j_last (j_retI ret_fn (e_and (e_callU r_is_integer_i (a_cons (e_var (α := Int) rfl) (fun _ => a_nil))) (fun _ => (e_and (e_inOU (neg := false) (fun _ _ => rfl) r_Tree__contains (e_var (α := Int) rfl) (fun _ => (e_var (α := Tree) rfl))) (fun _ => (e_op2 o_lt (E.el (e_ixL (e_attr (f := Tree.slots) (fun _ _ => rfl) (e_var (α := Tree) rfl)) (fun _ => (e_var (α := Int) rfl)))) (fun _ => (E.el (e_var (α := Int) rfl))))))))))
  exact h
theorem r_Tree__init : FnP (A := (List ((Int) × (Int))) × (Unit)) (R := Tree) (mkF 2 m_Tree___init__) (fun a => d_Tree__init a.1) := by
  refine mk_ok2 (fun _ => rfl) (by decide) fun B a s => ?_
  obtain ⟨blocks_498, _⟩ := a
  have h : J B 4 (Ki2 (R := Tree) 2 B) [(0, .loc (B.b + 0)), (1, w_ blocks_498)] [(0, .ins 2 [])] t_Tree___init__ s _ := (j_if (t_not (t_val (e_callU r_is_list_ltii (a_cons (e_var (α := List ((Int) × (Int))) rfl) (fun _ => a_nil))))) (fun _ => (j_term (j_last (j_raise e_int)))) (fun _ => (j_nil (j_aU (ja_c (α := (Int) × (Int)) (c_lst al_nil) (fun k_502 pairs_503 s_504 => (ja_c (α := Int) (c_lst (al_cons e_int (fun _ => al_nil))) (fun k_505 slots_506 s_507 => (ja_c (α := Option (Int)) (c_lst (al_cons (e_co (f := fun _ => (none : Option (Int))) co_none e_non) (fun _ => al_nil))) (fun k_508 parents_509 s_510 => (ja_c (α := Int) (c_lst (al_cons e_int (fun _ => al_nil))) (fun k_511 depths_512 s_513 => (ja_endA (p := 4) (is := [0, 2, 3, 4]) rfl (by decide +kernel) rfl rfl (by first | decide | simp) (acc_app (acc_app (acc_app (acc_app acc_nil (acc_c (.tail _ (.tail _ (.tail _ (.head _)))))) (acc_c (.tail _ (.tail _ (.head _))))) (acc_c (.tail _ (.head _)))) (acc_c (.head _))) (j_last (j_for (β := (Int) × ((Int) × (Int))) (S := (List ((Int) × (Int))) × (List (Int)) × (List (Option (Int))) × (List (Int))) (oG := fun v => [(0, .loc (B.b + 0))]) (oC := fun v => [(k_511, cl_ v.2.2.2), (k_508, cl_ v.2.2.1), (k_505, cl_ v.2.1), (k_502, cl_ v.1), (0, .ins 2 [(0, W.loc (B.b + k_502)), (2, W.loc (B.b + k_505)), (3, W.loc (B.b + k_508)), (4, W.loc (B.b + k_511))])]) (v0 := (pairs_503, (slots_506, (parents_509, depths_512)))) (i_enum d_lst (e_var (α := List ((Int) × (Int))) rfl)) (tg_2 (tg_nm (α := Int) (by decide)) (tg_nm (α := (Int) × (Int)) (by decide))) (fun i_515 v_514 s_516 => (j_if (t_or (t_not (t_val (e_callU r_is_list_tii (a_cons (e_var (α := (Int) × (Int)) rfl) (fun _ => a_nil))))) (fun _ => (t_or (t_val (e_op2 (ne_of o_eqI) (E.el (e_cb1 o_lenP (E.el (e_var (α := (Int) × (Int)) rfl)))) (fun _ => (E.el e_int)))) (fun _ => (t_not (t_val (e_methBU (x := (Tree.mk (v_514.1) (v_514.2.1) (v_514.2.2.1) (v_514.2.2.2))) rfl (.tail _ (.tail _ (.tail _ (.tail _ (.head _))))) (.cell (.tail _ (.tail _ (.tail _ (.head _)))) (.cell (.tail _ (.tail _ (.head _))) (.cell (.tail _ (.head _)) (.cell (.head _) .nil)))) rfl r_Tree_can_stand (ab_cons (E.el (e_ixT (i := 0) (f := fun (a : (Int) × (Int)) => a.1) (fun _ _ => rfl) (e_var (α := (Int) × (Int)) rfl) (fun _ => e_int))) (fun _ => (ab_cons (E.el (e_ixT (i := 1) (f := fun (a : (Int) × (Int)) => a.2) (fun _ _ => rfl) (e_var (α := (Int) × (Int)) rfl) (fun _ => e_int))) (fun _ => ab_nil))))))))))) (fun _ => (j_term (j_last (j_raise (e_op2 o_addI (E.el (e_var (α := Int) rfl)) (fun _ => (E.el e_int))))))) (fun _ => (j_nil (j_appA (p := 3) rfl (.tail _ (.tail _ (.tail _ (.tail _ (.head _))))) rfl (e_tup2 (a_cons (e_ixT (i := 0) (f := fun (a : (Int) × (Int)) => a.1) (fun _ _ => rfl) (e_var (α := (Int) × (Int)) rfl) (fun _ => e_int)) (fun _ => (a_cons (e_ixT (i := 1) (f := fun (a : (Int) × (Int)) => a.2) (fun _ _ => rfl) (e_var (α := (Int) × (Int)) rfl) (fun _ => e_int)) (fun _ => a_nil))))) (.tail _ (.tail _ (.tail _ (.head _)))) rfl (fun selfpairs_532 s_533 => (j_appA (p := 2) rfl (.tail _ (.tail _ (.tail _ (.tail _ (.head _))))) rfl (e_ixT (i := 0) (f := fun (a : (Int) × (Int)) => a.1) (fun _ _ => rfl) (e_var (α := (Int) × (Int)) rfl) (fun _ => e_int)) (.tail _ (.tail _ (.head _))) rfl (fun selfslots_534 s_535 => (j_appA (p := 1) rfl (.tail _ (.tail _ (.tail _ (.tail _ (.head _))))) rfl (e_co (f := some) co_some (e_ixT (i := 1) (f := fun (a : (Int) × (Int)) => a.2) (fun _ _ => rfl) (e_var (α := (Int) × (Int)) rfl) (fun _ => e_int))) (.tail _ (.head _)) rfl (fun selfparents_536 s_537 => (j_last (j_appA (p := 0) rfl (.tail _ (.tail _ (.tail _ (.tail _ (.head _))))) rfl (e_op2 o_addI (E.el (e_ixEL (el_attrF rfl (.tail _ (.tail _ (.tail _ (.tail _ (.head _))))) rfl (.head _)) (fun _ => (e_ixT (i := 1) (f := fun (a : (Int) × (Int)) => a.2) (fun _ _ => rfl) (e_var (α := (Int) × (Int)) rfl) (fun _ => e_int))))) (fun _ => (E.el e_int))) (.head _) rfl (fun selfdepths_538 s_539 => (j_end (end_s (v := (selfpairs_532, (selfslots_534, (selfparents_536, selfdepths_538)))) (sub_cons rfl sub_nil) (.cons₂ _ (.cons₂ _ (.cons₂ _ (.cons₂ _ (.cons₂ _ .slnil)))))))))))))))))))) (sub_cons rfl sub_nil) (.cons₂ _ (.cons₂ _ (.cons₂ _ (.cons₂ _ (.cons₂ _ .slnil))))) (fun v_540 s_541 => (j_end (end_i2 (x := (Tree.mk (v_540.1) (v_540.2.1) (v_540.2.2.1) (v_540.2.2.2))) (.tail _ (.tail _ (.tail _ (.tail _ (.head _))))) (.cell (.tail _ (.tail _ (.tail _ (.head _)))) (.cell (.tail _ (.tail _ (.head _))) (.cell (.tail _ (.head _)) (.cell (.head _) .nil)))) (.tail _ (.tail _ (.tail _ (.head _)))) (.head _) rfl))))))))))))))))))
  exact h
theorem r_is_integer_oi : FnP (A := (Option (Int)) × (Unit)) (R := Bool) m_is_integer (fun a => d_is_integer_oi a.1) := by
  refine fn_okP (fun _ => rfl) (by decide) fun B a s => ?_
  obtain ⟨thing_553, _⟩ := a
  have h : J B 1 (Kfn (R := Bool) B) [(0, w_ thing_553)] [] t_is_integer s _ := (j_last (j_retI ret_fn (e_andT (e_isiD (f := fun q_o => q_o.isSome && true) (fun q_o => by cases q_o <;> rfl) (e_var (α := Option (Int)) rfl)) (fun _ => (e_not (e_isiD (f := fun q_o => q_o.isSome && false) (fun q_o => by cases q_o <;> rfl) (e_var (α := Option (Int)) rfl)))))))
  exact h
theorem r_Tree__contains_Treeoi : FnP (A := (Tree) × (Option (Int)) × (Unit)) (R := Bool) m_Tree___contains__ (fun a => d_Tree__contains_Treeoi a.1 a.2.1) := by
  refine fn_okP (fun _ => rfl) (by decide) fun B a s => ?_
  obtain ⟨self_554, thing_555, _⟩ := a
  have h : J B 2 (Kfn (R := Bool) B) [(0, w_ self_554), (1, w_ thing_555)] [] t_Tree___contains__ s _ := (j_last (j_retI ret_fn (e_and (e_callU r_is_integer_oi (a_cons (e_var (α := Option (Int)) rfl) (fun _ => a_nil))) (fun _ => (e_chain o_le o_lt e_int (fun _ => (e_cop (f := fun o => o) co_get (e_var (α := Option (Int)) rfl))) (fun _ => (e_cb1 o_lenL (E.el (e_attr (f := Tree.slots) (fun _ _ => rfl) (e_var (α := Tree) rfl))))))))))
  exact h
theorem r_Tree_can_stand_Treeoioi : FnP (A := (Tree) × (Option (Int)) × (Option (Int)) × (Unit)) (R := Bool) m_Tree_can_stand (fun a => d_Tree_can_stand_Treeoioi a.1 a.2.1 a.2.2.1) := by
  refine fn_okP (fun _ => rfl) (by decide) fun B a s => ?_
  obtain ⟨self_550, slot_551, parent_552, _⟩ := a
  have h : J B 3 (Kfn (R := Bool) B) [(0, w_ self_550), (1, w_ slot_551), (2, w_ parent_552)] [] t_Tree_can_stand s _ := (j_last (j_retI ret_fn (e_and (e_callU r_is_integer_oi (a_cons (e_var (α := Option (Int)) rfl) (fun _ => a_nil))) (fun _ => (e_and (e_inOU (neg := false) (fun _ _ => rfl) r_Tree__contains_Treeoi (e_var (α := Option (Int)) rfl) (fun _ => (e_var (α := Tree) rfl))) (fun _ => (e_op2 o_lt (E.el (e_ixL (e_attr (f := Tree.slots) (fun _ _ => rfl) (e_var (α := Tree) rfl)) (fun _ => (e_cop (f := fun o => o) co_get (e_var (α := Option (Int)) rfl))))) (fun _ => (E.el (e_cop (f := fun o => o) co_get (e_var (α := Option (Int)) rfl)))))))))))
  exact h
theorem r_tree_read : FnP (A := (List (List Nat)) × (Unit)) (R := Tree) m_tree_read (fun a => d_tree_read a.1) := by
  refine fn_okP (fun _ => rfl) (by decide) fun B a s => ?_
  obtain ⟨lines_483, _⟩ := a
  have h : J B 9 (Kfn (R := Tree) B) [(0, w_ lines_483)] [] t_tree_read s _ := (j_setC (α := (Int) × (Int)) (by decide) (c_lst al_nil) (fun k_484 found_485 s_486 => (j_for (β := (Int) × (List Nat)) (S := (List ((Int) × (Int)))) (oG := fun v => [(1, .loc (B.b + k_484))]) (oC := fun v => [(k_484, cl_ v)]) (v0 := found_485) (i_enum d_lst (e_var (α := List (List Nat)) rfl)) (tg_2 (tg_nm (α := Int) (by decide)) (tg_nm (α := List Nat) (by decide))) (fun i_488 v_487 s_489 => (j_asg (α := T3 (List Nat) (List Nat) (List Nat)) (tg_3 (tg_nm (α := List Nat) (by decide)) (tg_nm (α := List Nat) (by decide)) (tg_nm (α := List Nat) (by decide))) (e_bm1 o_part (E.el (e_var (α := List Nat) rfl)) (fun _ => (E.el (e_co co_chr e_chr)))) (fun p_492 s_493 => (j_a2 (ja_v (α := Option (Int)) (e_callU r_number_of (a_cons (e_var (α := List Nat) rfl) (fun _ => a_nil))) (fun slot_494 s_495 => (ja_v (α := Option (Int)) (e_callU r_number_of (a_cons (e_var (α := List Nat) rfl) (fun _ => a_nil))) (fun parent_496 s_497 => (ja_e2 (by decide) (j_if (t_or (t_val (e_op2 o_isO (E.el (e_var (α := Option (Int)) rfl)) (fun _ => (E.el e_non)))) (fun _ => (t_or (t_val (e_op2 o_isO (E.el (e_var (α := Option (Int)) rfl)) (fun _ => (E.el e_non)))) (fun _ => (t_or (t_val (e_op2 o_gt (E.el (e_cop (f := fun o => o) co_get (e_var (α := Option (Int)) rfl))) (fun _ => (E.el (e_var (α := Int) rfl))))) (fun _ => (t_not (t_val (e_borU (tg_val (i := 8) rfl (tg_val (i := 7) rfl (tg_cell (i := 1) rfl (.head _) tg_nil))) (e_methU (fun _ _ => rfl) r_Tree_can_stand_Treeoioi (e_callU r_Tree__init (a_cons (e_var (α := List ((Int) × (Int))) rfl) (fun _ => a_nil))) (fun _ => (a_cons (e_var (α := Option (Int)) rfl) (fun _ => (a_cons (e_var (α := Option (Int)) rfl) (fun _ => a_nil))))))))))))))) (fun _ => (j_term (j_last (j_raise (e_op2 o_addI (E.el (e_var (α := Int) rfl)) (fun _ => (E.el e_int))))))) (fun _ => (j_nil (j_last (j_app (p := 0) rfl (e_tup2 (a_cons (e_cop (f := fun o => o) co_get (e_var (α := Option (Int)) rfl)) (fun _ => (a_cons (e_cop (f := fun o => o) co_get (e_var (α := Option (Int)) rfl)) (fun _ => a_nil))))) (.head _) rfl (fun found_565 s_566 => (j_end (end_s (v := found_565) (sub_cons rfl sub_nil) (.cons₂ _ .slnil)))))))))))))))))) (sub_cons rfl sub_nil) (.cons₂ _ .slnil) (fun v_567 s_568 => (j_last (j_retI ret_fn (e_callU r_Tree__init (a_cons (e_frz (p := 0) rfl rfl) (fun _ => a_nil)))))))))
  exact h
theorem r_read_s : FnP (A := (List Nat) × (Unit)) (R := Ei (Row) (Tree)) m_read (fun a => d_read_s a.1) := by
  refine fn_okP (fun _ => rfl) (by decide) fun B a s => ?_
  obtain ⟨text_425, _⟩ := a
  have h : J B 2 (Kfn (R := Ei (Row) (Tree)) B) [(0, w_ text_425)] [] t_read s _ := (j_ifF (t_not (t_val (e_isi (b := true) (fun _ => rfl) (e_var (α := List Nat) rfl)))) (j_nil (j_set (α := List (List Nat)) (by decide) (e_bm1 o_split (E.el (e_var (α := List Nat) rfl)) (fun _ => (E.el (e_co co_chr e_chr)))) (fun lines_426 s_427 => (j_if (t_val (e_op2 o_eqS (E.el (e_ixL (e_var (α := List (List Nat)) rfl) (fun _ => e_int))) (fun _ => (E.el e_str)))) (fun _ => (j_term (j_last (j_retI (ret_t ret_fn) (e_co (f := fun x => (Ei.a x : Ei (Row) (Tree))) (fun _ => rfl) (e_callU r_row_read (a_cons (e_sl (α := List (List Nat)) (sl_lst (α := List Nat)) (E.el (e_var (α := List (List Nat)) rfl)) (fun _ => (o_so e_int)) (fun _ => o_no)) (fun _ => a_nil)))))))) (fun _ => (j_nil (j_if (t_val (e_op2 o_eqS (E.el (e_ixL (e_var (α := List (List Nat)) rfl) (fun _ => e_int))) (fun _ => (E.el e_str)))) (fun _ => (j_term (j_last (j_retI (ret_t ret_fn) (e_co (f := fun x => (Ei.b x : Ei (Row) (Tree))) (fun _ => rfl) (e_callU r_tree_read (a_cons (e_sl (α := List (List Nat)) (sl_lst (α := List Nat)) (E.el (e_var (α := List (List Nat)) rfl)) (fun _ => (o_so e_int)) (fun _ => o_no)) (fun _ => a_nil)))))))) (fun _ => (j_nil (j_last (j_raise e_int))))))))))))
  exact h
theorem r_row_of_Row : FnP (A := (Row) × (Unit)) (R := Row) m_row_of (fun a => d_row_of_Row a.1) := by
  refine fn_okP (fun _ => rfl) (by decide) fun B a s => ?_
  obtain ⟨thing_585, _⟩ := a
  have h : J B 1 (Kfn (R := Row) B) [(0, w_ thing_585)] [] t_row_of s _ := (j_last (j_retI ret_fn (e_ifT (t_val (e_isi (b := true) (fun _ => rfl) (e_var (α := Row) rfl))) (e_var (α := Row) rfl))))
  exact h
theorem r_Row_runs : FnP (A := (Row) × (Unit)) (R := List ((Ch) × (Int))) m_Row_runs (fun a => d_Row_runs a.1) := by
  refine fn_okP (fun _ => rfl) (by decide) fun B a s => ?_
  obtain ⟨self_586, _⟩ := a
  have h : J B 7 (Kfn (R := List ((Ch) × (Int))) B) [(0, w_ self_586)] [] t_Row_runs s _ := (j_setC (α := (Ch) × (Int)) (by decide) (c_lst al_nil) (fun k_587 found_588 s_589 => (j_for (β := (List Nat) × (Int)) (S := (List ((Ch) × (Int)))) (oG := fun v => [(1, .loc (B.b + k_587))]) (oC := fun v => [(k_587, cl_ v)]) (v0 := found_588) (i_any it_lst (e_attr (f := Row.pieces) (fun _ _ => rfl) (e_var (α := Row) rfl))) (tg_2 (tg_nm (α := List Nat) (by decide)) (tg_nm (α := Int) (by decide))) (fun i_591 v_590 s_592 => (j_set (α := Bool) (by decide) (e_op2 o_eqS (E.el (e_var (α := List Nat) rfl)) (fun _ => (E.el (e_op2 o_mulS (E.el (e_co co_chr (e_ixS (e_var (α := List Nat) rfl) (fun _ => e_int)))) (fun _ => (E.el (e_cb1 o_lenS (E.el (e_var (α := List Nat) rfl))))))))) (fun iseven_595 s_596 => (j_last (j_for (β := (Ch) × (Int)) (S := (List ((Ch) × (Int)))) (oG := fun v => [(1, .loc (B.b + k_587))]) (oC := fun v => [(k_587, cl_ v)]) (v0 := v_590) (i_any it_lst (e_if (t_val (e_var (α := Bool) rfl)) (fun _ => (e_lst (al_cons (e_tup2 (a_cons (e_ixS (e_var (α := List Nat) rfl) (fun _ => e_int)) (fun _ => (a_cons (e_op2 o_mulI (E.el (e_cb1 o_lenS (E.el (e_var (α := List Nat) rfl)))) (fun _ => (E.el (e_var (α := Int) rfl)))) (fun _ => a_nil))))) (fun _ => al_nil)))) (fun _ => (c_frz (c_mapT (α := (Ch) × (Int)) (β := Ch) (v := fun x_597 => (x_597, (1 : Int))) (i_any it_str (e_op2 o_mulS (E.el (e_var (α := List Nat) rfl)) (fun _ => (E.el (e_var (α := Int) rfl))))) (tg_nm (α := Ch) (by decide)) (fun _ => rfl) (fun x_597 _ _ _ => (e_tup2 (a_cons (e_var (α := Ch) rfl) (fun _ => (a_cons e_int (fun _ => a_nil))))))))))) (tg_2 (tg_nm (α := Ch) (by decide)) (tg_nm (α := Int) (by decide))) (fun i_599 v_598 s_600 => (j_last (j_ifJ (S := (List ((Ch) × (Int)))) (oG := fun v => [(1, .loc (B.b + k_587))]) (oC := fun v => [(k_587, cl_ v)]) (t_and (t_val (e_op2 (ne_of (o_eq (α := List ((Ch) × (Int))) (by decide))) (el_cell rfl (.head _)) (fun _ => (E.el (e_lst (α := (Ch) × (Int)) al_nil))))) (fun _ => (t_val (e_op2 o_eqC (E.el (e_ixT (i := 0) (f := fun (a : (Ch) × (Int)) => a.1) (fun _ _ => rfl) (e_ixC rfl (.head _) (e_op1 o_neg (E.el e_int))) (fun _ => e_int))) (fun _ => (E.el (e_var (α := Ch) rfl))))))) (fun _ => (j_last (j_sub (p := 0) rfl (e_tup2 (a_cons (e_var (α := Ch) rfl) (fun _ => (a_cons (e_op2 o_addI (E.el (e_ixT (i := 1) (f := fun (a : (Ch) × (Int)) => a.2) (fun _ _ => rfl) (e_ixC rfl (.head _) (e_op1 o_neg (E.el e_int))) (fun _ => e_int))) (fun _ => (E.el (e_var (α := Int) rfl)))) (fun _ => a_nil))))) (fun _ => (e_op1 o_neg (E.el e_int))) rfl (fun found_603 s_604 => (j_end (end_j (v := found_603) (sub_cons rfl sub_nil) (.cons₂ _ .slnil))))))) (fun _ => (j_last (j_app (p := 0) rfl (e_tup2 (a_cons (e_var (α := Ch) rfl) (fun _ => (a_cons (e_var (α := Int) rfl) (fun _ => a_nil))))) (.head _) rfl (fun found_605 s_606 => (j_end (end_j (v := found_605) (sub_cons rfl sub_nil) (.cons₂ _ .slnil))))))) (fun v_607 s_608 => (j_end (end_s (v := v_607) (sub_cons rfl sub_nil) (.cons₂ _ .slnil))))))) (sub_cons rfl sub_nil) (.cons₂ _ .slnil) (fun v_610 s_611 => (j_end (end_s (v := v_610) (sub_cons rfl sub_nil) (.cons₂ _ .slnil))))))))) (sub_cons rfl sub_nil) (.cons₂ _ .slnil) (fun v_612 s_613 => (j_last (j_retI ret_fn (e_frz (p := 0) rfl rfl)))))))
  exact h
theorem r_write_Row : FnP (A := (Row) × (Unit)) (R := List Nat) m_write (fun a => d_write_Row a.1) := by
  refine fn_okP (fun _ => rfl) (by decide) fun B a s => ?_
  obtain ⟨thing_584, _⟩ := a
  have h : J B 5 (Kfn (R := List Nat) B) [(0, w_ thing_584)] [] t_write s _ := (j_ifF (t_val (e_isi (b := false) (fun _ => rfl) (e_var (α := Row) rfl))) (j_nil (j_last (j_retI ret_fn (e_bm1 o_joinS (E.el (e_co co_chr e_chr)) (fun _ => (E.el (e_op2 o_addL (E.el (e_lst (al_cons e_str (fun _ => al_nil)))) (fun _ => (E.el (c_frz (c_map (α := List Nat) (β := (Ch) × (Int)) (v := fun x_635 _ => (O.bind (ofO (addS [x_635.1.c] [(Ch.mk 32).c]) ()) fun x_644 _ => O.bind (ofO (strO x_635.2) ()) fun x_645 _ => ofO (addS x_644 x_645) ())) (i_any it_lst (e_methU (fun _ _ => rfl) r_Row_runs (e_callU r_row_of_Row (a_cons (e_var (α := Row) rfl) (fun _ => a_nil))) (fun _ => a_nil))) (tg_2 (tg_nm (α := Ch) (by decide)) (tg_nm (α := Int) (by decide))) (fun _ => rfl) (fun x_635 _ _ _ => (e_op2 o_addS (E.el (e_op2 o_addS (E.el (e_co co_chr (e_var (α := Ch) rfl))) (fun _ => (E.el (e_co co_chr e_chr))))) (fun _ => (E.el (e_cb1 o_strI (E.el (e_var (α := Int) rfl)))))))))))))))))))
  exact h
theorem r_Tree_blocks : FnP (A := (Tree) × (Unit)) (R := List ((Int) × (Int))) m_Tree_blocks (fun a => d_Tree_blocks a.1) := by
  refine fn_okP (fun _ => rfl) (by decide) fun B a s => ?_
  obtain ⟨self_647, _⟩ := a
  have h : J B 1 (Kfn (R := List ((Int) × (Int))) B) [(0, w_ self_647)] [] t_Tree_blocks s _ := (j_last (j_retI ret_fn (e_cb1 o_list2L (E.el (e_attr (f := Tree.pairs) (fun _ _ => rfl) (e_var (α := Tree) rfl))))))
  exact h
theorem r_write_Tree : FnP (A := (Tree) × (Unit)) (R := List Nat) m_write (fun a => d_write_Tree a.1) := by
  refine fn_okP (fun _ => rfl) (by decide) fun B a s => ?_
  obtain ⟨thing_646, _⟩ := a
  have h : J B 5 (Kfn (R := List Nat) B) [(0, w_ thing_646)] [] t_write s _ := (j_ifT (t_val (e_isi (b := true) (fun _ => rfl) (e_var (α := Tree) rfl))) (j_term (j_last (j_retI (ret_t ret_fn) (e_bm1 o_joinS (E.el (e_co co_chr e_chr)) (fun _ => (E.el (e_op2 o_addL (E.el (e_lst (al_cons e_str (fun _ => al_nil)))) (fun _ => (E.el (c_frz (c_map (α := List Nat) (β := (Int) × (Int)) (v := fun x_648 _ => (O.bind (O.bind (ofO (strO x_648.1) ()) fun x_658 _ => ofO (addS x_658 [(Ch.mk 32).c]) ()) fun x_657 _ => O.bind (ofO (strO x_648.2) ()) fun x_659 _ => ofO (addS x_657 x_659) ())) (i_any it_lst (e_methU (fun _ _ => rfl) r_Tree_blocks (e_var (α := Tree) rfl) (fun _ => a_nil))) (tg_2 (tg_nm (α := Int) (by decide)) (tg_nm (α := Int) (by decide))) (fun _ => rfl) (fun x_648 _ _ _ => (e_op2 o_addS (E.el (e_op2 o_addS (E.el (e_cb1 o_strI (E.el (e_var (α := Int) rfl)))) (fun _ => (E.el (e_co co_chr e_chr))))) (fun _ => (E.el (e_cb1 o_strI (E.el (e_var (α := Int) rfl)))))))))))))))))))
  exact h
theorem r_write_oRowTree : FnP (A := (Ei (Row) (Tree)) × (Unit)) (R := List Nat) m_write (fun a => d_write_oRowTree a.1) := fun rest s a h => by
  obtain ⟨x0, u⟩ := a
  cases x0 with
  | a y => exact r_write_Row rest s (y, u) h
  | b y => exact r_write_Tree rest s (y, u) h
theorem r_law_tried_s : FnP (A := (List Nat) × (Unit)) (R := F) m__law_tried (fun a => d_law_tried_s a.1) := by
  refine fn_okP (fun _ => rfl) (by decide) fun B a s => ?_
  obtain ⟨thing_424, _⟩ := a
  have h : J B 3 (Kfn (R := F) B) [(0, w_ thing_424)] [] t__law_tried s _ := (j_trySet (e_tup2 (a_cons e_str (fun _ => (a_cons (e_callU r_write_oRowTree (a_cons (e_callU r_read_s (a_cons (e_var (α := List Nat) rfl) (fun _ => a_nil))) (fun _ => a_nil))) (fun _ => a_nil))))) (fun found_661 s_662 => (j_last (j_retI ret_fn (e_var (α := F) rfl)))))
  exact h
theorem r_check_kinds_a : FnP (A := (F) × (Unit)) (R := Unit) m_check_kinds (fun a => d_check_kinds_a a.1) := by
  refine fn_okP (fun _ => rfl) (by decide) fun B a s => ?_
  obtain ⟨kinds_685, _⟩ := a
  have h : J B 3 (Kfn (R := Unit) B) [(0, w_ kinds_685)] [] t_check_kinds s _ := (j_if (t_not (t_val (e_isiD (f := fun q_f => isiAny [.str] (kyF q_f)) (fun _ => rfl) (e_var (α := F) rfl)))) (fun _ => (j_term (j_last (j_raise e_int)))) (fun _ => (j_nil (j_last (j_for (β := (Int) × (F)) (S := Unit) (oG := fun v => []) (oC := fun v => []) (v0 := ()) (i_enumD (e_var (α := F) rfl)) (tg_2 (tg_nm (α := Int) (by decide)) (tg_nm (α := F) (by decide))) (fun i_689 v_688 s_690 => (j_last (j_if (t_val (e_op2 o_ninAS (E.el (e_var (α := F) rfl)) (fun _ => (E.el e_str)))) (fun _ => (j_term (j_last (j_raise (e_var (α := Int) rfl))))) (fun _ => (j_nil (j_end (end_s (v := ()) sub_nil .slnil))))))) sub_nil .slnil (fun v_695 s_696 => (j_end end_fn)))))))
  exact h
theorem r_Row__init_a : FnP (A := (F) × (Unit)) (R := Row) (mkF 1 m_Row___init__) (fun a => d_Row__init_a a.1) := by
  refine mk_ok (fun _ => rfl) (by decide) fun B a s => ?_
  obtain ⟨text_681, _⟩ := a
  have h : J B 2 (Ki (R := Row) 1 B) [(0, .loc (B.b + 0)), (1, w_ text_681)] [(0, .ins 1 [])] t_Row___init__ s _ := (j_last (j_if (t_val (e_isiD (f := fun q_f => isiAny [(.own 0)] (kyF q_f)) (fun _ => rfl) (e_var (α := F) rfl))) (fun _ => (j_attr (p := 0) rfl (by decide +kernel) (by first | simp | simp [putA]) e_never rfl (fun pieces_683 s_684 => (j_end (end_i (x := Row.mk (pieces_683)) (.head _) rfl))))) (fun _ => (j_assoc (j_expr (e_callU r_check_kinds_a (a_cons (e_var (α := F) rfl) (fun _ => a_nil))) (fun s_701 => (j_attr (p := 0) rfl (by decide +kernel) (by first | simp | simp [putA]) (e_deA (β := List ((List Nat) × (Int))) (e_if (t_val (e_op2 (ne_of o_eqA) (E.el (e_var (α := F) rfl)) (fun _ => (E.el e_str)))) (fun _ => (e_lst (al_cons (e_tup2 (a_cons (e_var (α := F) rfl) (fun _ => (a_cons e_int (fun _ => a_nil))))) (fun _ => al_nil)))) (fun _ => (e_lst (α := (F) × (Int)) al_nil)))) rfl (fun pieces_702 s_703 => (j_end (end_i (x := Row.mk (pieces_702)) (.head _) rfl))))))))))
  exact h
theorem r_row_of_a : FnP (A := (F) × (Unit)) (R := Row) m_row_of (fun a => d_row_of_a a.1) := by
  refine fn_okP (fun _ => rfl) (by decide) fun B a s => ?_
  obtain ⟨thing_680, _⟩ := a
  have h : J B 1 (Kfn (R := Row) B) [(0, w_ thing_680)] [] t_row_of s _ := (j_last (j_retI ret_fn (e_if (t_val (e_isiD (f := fun q_f => isiAny [(.own 1)] (kyF q_f)) (fun _ => rfl) (e_var (α := F) rfl))) (fun _ => e_never) (fun _ => (e_callU r_Row__init_a (a_cons (e_var (α := F) rfl) (fun _ => a_nil)))))))
  exact h
theorem r_write_a : FnP (A := (F) × (Unit)) (R := List Nat) m_write (fun a => d_write_a a.1) := by
  refine fn_okP (fun _ => rfl) (by decide) fun B a s => ?_
  obtain ⟨thing_677, _⟩ := a
  have h : J B 5 (Kfn (R := List Nat) B) [(0, w_ thing_677)] [] t_write s _ := (j_if (t_val (e_isiD (f := fun q_f => isiAny [(.own 2)] (kyF q_f)) (fun _ => rfl) (e_var (α := F) rfl))) (fun _ => (j_term (j_last (j_retI (ret_t ret_fn) (e_bm1 o_joinS (E.el (e_co co_chr e_chr)) (fun _ => (E.el (e_op2 o_addL (E.el (e_lst (al_cons e_str (fun _ => al_nil)))) (fun _ => (E.el (c_frz (c_map (α := List Nat) (β := (Int) × (Int)) (v := fun x_679 _ => (O.bind (O.bind (ofO (strO x_679.1) ()) fun x_724 _ => ofO (addS x_724 [(Ch.mk 32).c]) ()) fun x_723 _ => O.bind (ofO (strO x_679.2) ()) fun x_725 _ => ofO (addS x_723 x_725) ())) (i_any it_lst (e_never (α := List ((Int) × (Int))))) (tg_2 (tg_nm (α := Int) (by decide)) (tg_nm (α := Int) (by decide))) (fun _ => rfl) (fun x_679 _ _ _ => (e_op2 o_addS (E.el (e_op2 o_addS (E.el (e_cb1 o_strI (E.el (e_var (α := Int) rfl)))) (fun _ => (E.el (e_co co_chr e_chr))))) (fun _ => (E.el (e_cb1 o_strI (E.el (e_var (α := Int) rfl))))))))))))))))))) (fun _ => (j_nil (j_last (j_retI ret_fn (e_bm1 o_joinS (E.el (e_co co_chr e_chr)) (fun _ => (E.el (e_op2 o_addL (E.el (e_lst (al_cons e_str (fun _ => al_nil)))) (fun _ => (E.el (c_frz (c_map (α := List Nat) (β := (Ch) × (Int)) (v := fun x_706 _ => (O.bind (ofO (addS [x_706.1.c] [(Ch.mk 32).c]) ()) fun x_726 _ => O.bind (ofO (strO x_706.2) ()) fun x_727 _ => ofO (addS x_726 x_727) ())) (i_any it_lst (e_methU (fun _ _ => rfl) r_Row_runs (e_callU r_row_of_a (a_cons (e_var (α := F) rfl) (fun _ => a_nil))) (fun _ => a_nil))) (tg_2 (tg_nm (α := Ch) (by decide)) (tg_nm (α := Int) (by decide))) (fun _ => rfl) (fun x_706 _ _ _ => (e_op2 o_addS (E.el (e_op2 o_addS (E.el (e_co co_chr (e_var (α := Ch) rfl))) (fun _ => (E.el (e_co co_chr e_chr))))) (fun _ => (E.el (e_cb1 o_strI (E.el (e_var (α := Int) rfl))))))))))))))))))))
  exact h
theorem r_law_refused_a : FnP (A := (F) × (Unit)) (R := F) m__law_refused (fun a => d_law_refused_a a.1) := by
  refine fn_okP (fun _ => rfl) (by decide) fun B a s => ?_
  obtain ⟨thing_674, _⟩ := a
  have h : J B 3 (Kfn (R := F) B) [(0, w_ thing_674)] [] t__law_refused s _ := (j_set (α := Unit) (by decide) e_non (fun found_675 s_676 => (j_tryExpr rfl (e_callU r_write_a (a_cons (e_var (α := F) rfl) (fun _ => a_nil))) (fun found_728 s_729 => (j_last (j_retI ret_fn (e_var (α := F) rfl)))))))
  exact h
theorem r_read_a : FnP (A := (F) × (Unit)) (R := Ei (Row) (Tree)) m_read (fun a => d_read_a a.1) := by
  refine fn_okP (fun _ => rfl) (by decide) fun B a s => ?_
  obtain ⟨text_739, _⟩ := a
  have h : J B 2 (Kfn (R := Ei (Row) (Tree)) B) [(0, w_ text_739)] [] t_read s _ := (j_if (t_not (t_val (e_isiD (f := fun q_f => isiAny [.str] (kyF q_f)) (fun _ => rfl) (e_var (α := F) rfl)))) (fun _ => (j_term (j_last (j_raise e_int)))) (fun _ => (j_nil (j_set (α := List (List Nat)) (by decide) (e_bm1 o_split (E.el (e_de (α := List Nat) (e_var (α := F) rfl))) (fun _ => (E.el (e_co co_chr e_chr)))) (fun lines_742 s_743 => (j_if (t_val (e_op2 o_eqS (E.el (e_ixL (e_var (α := List (List Nat)) rfl) (fun _ => e_int))) (fun _ => (E.el e_str)))) (fun _ => (j_term (j_last (j_retI (ret_t ret_fn) (e_co (f := fun x => (Ei.a x : Ei (Row) (Tree))) (fun _ => rfl) (e_callU r_row_read (a_cons (e_sl (α := List (List Nat)) (sl_lst (α := List Nat)) (E.el (e_var (α := List (List Nat)) rfl)) (fun _ => (o_so e_int)) (fun _ => o_no)) (fun _ => a_nil)))))))) (fun _ => (j_nil (j_if (t_val (e_op2 o_eqS (E.el (e_ixL (e_var (α := List (List Nat)) rfl) (fun _ => e_int))) (fun _ => (E.el e_str)))) (fun _ => (j_term (j_last (j_retI (ret_t ret_fn) (e_co (f := fun x => (Ei.b x : Ei (Row) (Tree))) (fun _ => rfl) (e_callU r_tree_read (a_cons (e_sl (α := List (List Nat)) (sl_lst (α := List Nat)) (E.el (e_var (α := List (List Nat)) rfl)) (fun _ => (o_so e_int)) (fun _ => o_no)) (fun _ => a_nil)))))))) (fun _ => (j_nil (j_last (j_raise e_int)))))))))))))
  exact h
theorem r_law_tried_a : FnP (A := (F) × (Unit)) (R := F) m__law_tried (fun a => d_law_tried_a a.1) := by
  refine fn_okP (fun _ => rfl) (by decide) fun B a s => ?_
  obtain ⟨thing_738, _⟩ := a
  have h : J B 3 (Kfn (R := F) B) [(0, w_ thing_738)] [] t__law_tried s _ := (j_trySet (e_tup2 (a_cons e_str (fun _ => (a_cons (e_callU r_write_oRowTree (a_cons (e_callU r_read_a (a_cons (e_var (α := F) rfl) (fun _ => a_nil))) (fun _ => a_nil))) (fun _ => a_nil))))) (fun found_754 s_755 => (j_last (j_retI ret_fn (e_var (α := F) rfl)))))
  exact h
theorem r_law (ns : List Int) (h : ∃ s', d_law ⟨ns, 0, 0, 11⟩ = .ok true s') : ∃ st, m_law [.f (.scr ns)] [] = .ok (.f (.bl true)) st :=
  law_run (n := 12) (i := 1) (ms := m__law_start) (by decide) (by decide) rfl (fun B => J.cast (j_forL (β := Int) (S := Unit) (oG := fun v => [(1, .loc 1)]) (oC := fun v => []) (R := Bool) (v0 := ()) ret_fn (i_rg1 e_int) (tg_nm (α := Int) (by decide)) (fun i_2 v_1 s_3 => (j_set (α := List (List Nat)) (by decide) (e_callS r_law_lines (a_sp rfl a_nil)) (fun lineshere_230 s_231 => (j_for (β := Int) (S := (List (List Nat))) (oG := fun v => [(1, .loc 1), (3, w_ v)]) (oC := fun v => []) (v0 := lineshere_230) (i_rg1 (e_op2 o_addI (E.el e_int) (fun _ => (E.el (e_callS r_law_draw (a_sp rfl (a_cons e_int (fun _ => a_nil)))))))) (tg_nm (α := Int) (by decide)) (fun i_233 v_232 s_234 => (j_last (j_set (α := List (List Nat)) (by decide) (e_callS r_law_bent (a_sp rfl (a_cons (e_var (α := List (List Nat)) rfl) (fun _ => a_nil)))) (fun lineshere_295 s_296 => (j_end (end_s (v := lineshere_295) (sub_cons rfl (sub_cons rfl sub_nil)) .slnil)))))) (sub_cons rfl (sub_cons rfl sub_nil)) .slnil (fun v_297 s_298 => (j_set (α := List Nat) (by decide) (e_bm1 o_joinS (E.el (e_co co_chr e_chr)) (fun _ => (E.el (e_var (α := List (List Nat)) rfl)))) (fun told_299 s_300 => (j_a2 (ja_v (α := List (List Nat)) (e_bm1 o_split (E.el (e_var (α := List Nat) rfl)) (fun _ => (E.el (e_co co_chr e_chr)))) (fun lineshere_301 s_302 => (ja_v (α := Option (Int)) (e_co (f := some) co_some e_int) (fun bad_303 s_304 => (ja_e2 (by decide) (j_ifJ (S := (Option (Int))) (oG := fun v => [(1, .loc 1), (3, w_ lineshere_301), (5, w_ told_299), (6, w_ v)]) (oC := fun v => []) (t_val (e_op2 o_eqS (E.el (e_ixL (e_var (α := List (List Nat)) rfl) (fun _ => e_int))) (fun _ => (E.el e_str)))) (fun _ => (j_last (j_set (α := Option (Int)) (by decide) (e_call r_law_row_fault (a_cons (e_var (α := List (List Nat)) rfl) (fun _ => a_nil))) (fun bad_358 s_359 => (j_end (end_j (v := bad_358) (sub_cons rfl (sub_cons rfl (sub_cons rfl (sub_cons rfl sub_nil)))) .slnil)))))) (fun _ => (j_last (j_ifJ (S := (Option (Int))) (oG := fun v => [(1, .loc 1), (3, w_ lineshere_301), (5, w_ told_299), (6, w_ v)]) (oC := fun v => []) (t_val (e_op2 o_eqS (E.el (e_ixL (e_var (α := List (List Nat)) rfl) (fun _ => e_int))) (fun _ => (E.el e_str)))) (fun _ => (j_last (j_set (α := Option (Int)) (by decide) (e_call r_law_tree_fault (a_cons (e_var (α := List (List Nat)) rfl) (fun _ => a_nil))) (fun bad_414 s_415 => (j_end (end_j (v := bad_414) (sub_cons rfl (sub_cons rfl (sub_cons rfl (sub_cons rfl sub_nil)))) .slnil)))))) (fun _ => (j_end (end_j (v := bad_303) (sub_cons rfl (sub_cons rfl (sub_cons rfl (sub_cons rfl sub_nil)))) .slnil))) (fun v_416 s_417 => (j_end (end_j (v := v_416) (sub_cons rfl (sub_cons rfl (sub_cons rfl (sub_cons rfl sub_nil)))) .slnil)))))) (fun v_419 s_420 => (j_set (α := (List Nat) × (F)) (by decide) (e_ifT' (x := ((fun (p : (List Nat) × (List Nat)) => ((id : List Nat → List Nat) p.1, (fun (x : List Nat) => (En.e x : F)) p.2)) (([114, 101, 97, 100] : List Nat), told_299))) (y := ((fun (p : (List Nat) × (Option (Int))) => ((id : List Nat → List Nat) p.1, (fun (x : Option (Int)) => (En.e x : F)) p.2)) (([98, 97, 100] : List Nat), v_419))) (t_val (e_op2 o_isO (E.el (e_var (α := Option (Int)) rfl)) (fun _ => (E.el e_non)))) (fun _ => (e_co (f := (fun (p : (List Nat) × (List Nat)) => ((id : List Nat → List Nat) p.1, (fun (x : List Nat) => (En.e x : F)) p.2))) (co_pair co_id co_any) (e_tup2 (a_cons e_str (fun _ => (a_cons (e_var (α := List Nat) rfl) (fun _ => a_nil))))))) (fun _ => (e_co (f := (fun (p : (List Nat) × (Option (Int))) => ((id : List Nat → List Nat) p.1, (fun (x : Option (Int)) => (En.e x : F)) p.2))) (co_pair co_id co_any) (e_tup2 (a_cons e_str (fun _ => (a_cons (e_var (α := Option (Int)) rfl) (fun _ => a_nil)))))))) (fun due_422 s_423 => (j_if (t_not (t_val (e_call r_law_same (a_cons (e_call r_law_tried_s (a_cons (e_var (α := List Nat) rfl) (fun _ => a_nil))) (fun _ => (a_cons (e_co (f := fun a => En.e a) co_any (e_var (α := (List Nat) × (F)) rfl)) (fun _ => a_nil))))))) (fun _ => (j_term (j_last (j_ret (f := Fl.rt) (ret_t ret_l) e_bl)))) (fun _ => (j_nil (j_last (j_if (t_and (t_val (e_op2 o_isO (E.el (e_var (α := Option (Int)) rfl)) (fun _ => (E.el e_non)))) (fun _ => (t_not (t_val (e_call r_law_same (a_cons (e_call r_law_tried_s (a_cons (e_op2 o_addS (E.el (e_var (α := List Nat) rfl)) (fun _ => (E.el (e_co co_chr e_chr)))) (fun _ => a_nil))) (fun _ => (a_cons (e_co (f := fun a => En.e a) co_any (e_tup2 (a_cons e_str (fun _ => (a_cons (e_op2 o_addI (E.el (e_cb1 o_lenL (E.el (e_var (α := List (List Nat)) rfl)))) (fun _ => (E.el e_int))) (fun _ => a_nil)))))) (fun _ => a_nil))))))))) (fun _ => (j_term (j_last (j_ret (f := Fl.rt) (ret_t ret_l) e_bl)))) (fun _ => (j_nil (j_end (end_l (v := ()) (sub_cons rfl sub_nil) .slnil)))))))))))))))))))))))))) (sub_cons rfl sub_nil) .slnil (fun v_668 s_669 => (j_set (α := List ((F) × (Int))) (by decide) (e_lst (al_cons (e_co (f := (fun (p : (Unit) × (Int)) => ((fun (x : Unit) => (En.e x : F)) p.1, (id : Int → Int) p.2))) (co_pair co_any co_id) (e_tup2 (a_cons e_non (fun _ => (a_cons e_int (fun _ => a_nil)))))) (fun _ => (al_cons (e_co (f := (fun (p : (Int) × (Int)) => ((fun (x : Int) => (En.e x : F)) p.1, (id : Int → Int) p.2))) (co_pair co_any co_id) (e_tup2 (a_cons e_int (fun _ => (a_cons e_int (fun _ => a_nil)))))) (fun _ => (al_cons (e_co (f := (fun (p : (List (Ch)) × (Int)) => ((fun (x : List (Ch)) => (En.e x : F)) p.1, (id : Int → Int) p.2))) (co_pair co_any co_id) (e_tup2 (a_cons (e_lst (al_cons e_chr (fun _ => al_nil))) (fun _ => (a_cons e_int (fun _ => a_nil)))))) (fun _ => (al_cons (e_co (f := (fun (p : (List Nat) × (Int)) => ((fun (x : List Nat) => (En.e x : F)) p.1, (id : Int → Int) p.2))) (co_pair co_any co_id) (e_tup2 (a_cons e_str (fun _ => (a_cons e_int (fun _ => a_nil)))))) (fun _ => (al_cons (e_co (f := (fun (p : (Ch) × (Int)) => ((fun (x : Ch) => (En.e x : F)) p.1, (id : Int → Int) p.2))) (co_pair co_any co_id) (e_tup2 (a_cons e_chr (fun _ => (a_cons e_int (fun _ => a_nil)))))) (fun _ => (al_cons (e_co (f := (fun (p : (Bool) × (Int)) => ((fun (x : Bool) => (En.e x : F)) p.1, (id : Int → Int) p.2))) (co_pair co_any co_id) (e_tup2 (a_cons e_bl (fun _ => (a_cons e_int (fun _ => a_nil)))))) (fun _ => (al_cons (e_tup2 (a_cons e_dnew (fun _ => (a_cons e_int (fun _ => a_nil))))) (fun _ => al_nil))))))))))))))) (fun some_670 s_671 => (j_if (t_not (t_val (e_call r_law_same (a_cons (e_co (f := fun a => En.e a) co_any (c_frz (c_map (α := F) (β := (F) × (Int)) (v := fun x_672 s_673 => ((d_law_refused_a (x_672.1)).up s_673)) (i_any it_lst (e_var (α := List ((F) × (Int))) rfl)) (tg_2 (tg_nm (α := F) (by decide)) (tg_nm (α := Int) (by decide))) (fun _ => rfl) (fun x_672 _ _ _ => (e_call r_law_refused_a (a_cons (e_var (α := F) rfl) (fun _ => a_nil))))))) (fun _ => (a_cons (e_co (f := fun a => En.e a) co_any (c_frz (c_mapT (α := Int) (β := (F) × (Int)) (v := fun x_731 => x_731.2) (i_any it_lst (e_var (α := List ((F) × (Int))) rfl)) (tg_2 (tg_nm (α := F) (by decide)) (tg_nm (α := Int) (by decide))) (fun _ => rfl) (fun x_731 _ _ _ => (e_var (α := Int) rfl))))) (fun _ => a_nil))))))) (fun _ => (j_term (j_last (j_retI (ret_t ret_fn) e_bl)))) (fun _ => (j_nil (j_set (α := List (F)) (by decide) (e_lst (al_cons (e_co (f := fun a => En.e a) co_any e_non) (fun _ => (al_cons (e_co (f := fun a => En.e a) co_any e_int) (fun _ => (al_cons (e_co (f := fun a => En.e a) co_any (e_lst (al_cons e_str (fun _ => al_nil)))) (fun _ => (al_cons (e_co (f := fun a => En.e a) co_any (e_tupS (al_cons e_str (fun _ => al_nil)))) (fun _ => (al_cons (e_co (f := fun a => En.e a) co_any e_bl) (fun _ => (al_cons e_dnew (fun _ => al_nil))))))))))))) (fun odd_734 s_735 => (j_last (j_retI ret_fn (e_and (e_op2 o_eqA (E.el (c_frz (c_map (α := F) (β := F) (v := fun x_736 s_737 => ((d_law_tried_a (x_736)).up s_737)) (i_any it_lst (e_var (α := List (F)) rfl)) (tg_nm (α := F) (by decide)) (fun _ => rfl) (fun x_736 _ _ _ => (e_call r_law_tried_a (a_cons (e_var (α := F) rfl) (fun _ => a_nil))))))) (fun _ => (E.el (e_op2 o_mulL (E.el (e_lst (al_cons (e_tup2 (a_cons e_str (fun _ => (a_cons e_int (fun _ => a_nil))))) (fun _ => al_nil)))) (fun _ => (E.el e_int)))))) (fun _ => (e_op2 o_eqA (E.el (e_call r_law_tried_s (a_cons e_str (fun _ => a_nil)))) (fun _ => (E.el (e_tup2 (a_cons e_str (fun _ => (a_cons e_int (fun _ => a_nil))))))))))))))))))))) (by kernel_rfl)) h
end LB

set_option Elab.async false
set_option linter.all false
set_option maxRecDepth 100000
set_option maxHeartbeats 4000000
set_option autoImplicit false
/-! H1: what a typed program comes to, by what is known of it. -/
namespace LB
open VS TL
open L2 (atI ixN)
def Sat {σ α : Type} (o : O σ α) (Q : α → σ → Prop) : Prop := ∃ a s, o = .ok a s ∧ Q a s
section
variable {σ α β γ S R X : Type} {Q Q' : α → σ → Prop}
theorem sat_ok {a : α} {s : σ} (h : Q a s) : Sat (.ok a s) Q := ⟨a, s, rfl, h⟩
theorem Sat.mono {o : O σ α} (h : Sat o Q) (k : ∀ a s, Q a s → Q' a s) : Sat o Q' := by
  obtain ⟨a, s, e, q⟩ := h
  exact ⟨a, s, e, k a s q⟩
theorem sat_bind {o : O σ β} {k : β → σ → O σ α} {Q1 : β → σ → Prop} (h : Sat o Q1) (hk : ∀ b s, Q1 b s → Sat (k b s) Q) : Sat (o.bind k) Q := by
  obtain ⟨b, s, e, q⟩ := h
  rw [e]
  exact hk b s q
theorem sat_bindE {o : O σ β} {k : β → σ → O σ α} {b : β} {s : σ} (e : o = .ok b s) (hk : Sat (k b s) Q) : Sat (o.bind k) Q := by
  rw [e]
  exact hk
theorem Sat.run {p : P α} {Q : α → Unit → Prop} (h : Sat p Q) : ∃ a, p = .ok a () ∧ Q a () := by
  obtain ⟨a, s, e, q⟩ := h
  exact ⟨a, e, q⟩
theorem eq_of_sat {p : P α} {a : α} (h : Sat p fun b _ => b = a) : p = .ok a () := by
  obtain ⟨b, s, e, q⟩ := h
  rw [e, q]
/-- a loop by what holds behind its first rounds -/
theorem sat_fold {body : β → S → σ → O σ S} (I : List β → S → σ → Prop) {xs : List β} {v : S} {s : σ} (h0 : I [] v s)
    (hs : ∀ pre x post v s, xs = pre ++ x :: post → I pre v s → Sat (body x v s) (I (pre ++ [x]))) : Sat (foldO body xs v s) (I xs) := by
  have key : ∀ (ys pre : List β) v s, xs = pre ++ ys → I pre v s → Sat (foldO body ys v s) (I xs) := by
    intro ys
    induction ys with
    | nil => intro pre v s e h; rw [List.append_nil] at e; subst e; exact sat_ok h
    | cons y ys ih =>
      intro pre v s e h
      exact sat_bind (hs pre y ys v s e h) fun v' s' h' => ih (pre ++ [y]) v' s' (by rw [e]; simp) h'
  exact key xs [] v s rfl h0
/-- a loop that is never left -/
theorem sat_forN {body : β → S → σ → O σ (Fl S R)} (I : List β → S → σ → Prop) {xs : List β} {v : S} {s : σ} (h0 : I [] v s)
    (hs : ∀ pre x post v s, xs = pre ++ x :: post → I pre v s → Sat (body x v s) fun y s' => ∃ v', y = .nx v' ∧ I (pre ++ [x]) v' s') :
    Sat (forO body xs v s) fun y s' => ∃ v', y = .nx v' ∧ I xs v' s' := by
  have key : ∀ (ys pre : List β) v s, xs = pre ++ ys → I pre v s → Sat (forO body ys v s) fun y s' => ∃ v', y = .nx v' ∧ I xs v' s' := by
    intro ys
    induction ys with
    | nil => intro pre v s e h; rw [List.append_nil] at e; subst e; exact sat_ok ⟨v, rfl, h⟩
    | cons y ys ih =>
      intro pre v s e h
      refine sat_bind (hs pre y ys v s e h) fun z s' h' => ?_
      obtain ⟨v', rfl, h'⟩ := h'
      exact ih (pre ++ [y]) v' s' (by rw [e]; simp) h'
  exact key xs [] v s rfl h0
theorem sat_forNk {body : β → S → σ → O σ (Fl S R)} {k : Fl S R → σ → O σ α} (I : List β → S → σ → Prop) {xs : List β} {v : S} {s : σ} (h0 : I [] v s)
    (hs : ∀ pre x post v s, xs = pre ++ x :: post → I pre v s → Sat (body x v s) fun y s' => ∃ v', y = .nx v' ∧ I (pre ++ [x]) v' s')
    (hk : ∀ v s, I xs v s → Sat (k (.nx v) s) Q) : Sat ((forO body xs v s).bind k) Q :=
  sat_bind (sat_forN I h0 hs) fun y s' h => by
    obtain ⟨v', rfl, h⟩ := h
    exact hk v' s' h
end
end LB

set_option Elab.async false
set_option linter.all false
set_option maxRecDepth 100000
set_option maxHeartbeats 4000000
set_option autoImplicit false
/-! SA: texts: numbers, lines taken apart and put together. -/
namespace LB
open VS TL
theorem numL_digits {w : List Nat} (h : digB w = true) (hne : w ≠ []) (h0 : w.head? = some 48 → w = [48]) : TL.numL (PySem.NumText.digitsVal w) = w := by
  have ha : PySem.NumText.AllDigits w := fun c hc => by
    have := List.all_eq_true.mp h c hc
    simpa using this
  have hh : w.length - 1 = 0 ∨ ∃ c r, w = c :: r ∧ 49 ≤ c := by
    cases w with
    | nil => exact absurd rfl hne
    | cons c r =>
      by_cases q : c = 48
      · have := h0 (by rw [q]; rfl)
        rw [this]; exact .inl rfl
      · have := ha c (by simp)
        exact .inr ⟨c, r, rfl, by omega⟩
  have hl : w.length = w.length - 1 + 1 := by
    have := List.length_pos_iff.mpr hne
    omega
  unfold TL.numL
  rw [PySem.NumText.toDigits_digitsVal (w.length - 1) w hl ha hh, List.map_map]
  conv => rhs; rw [← List.map_id w]
  refine List.map_congr_left fun c hc => ?_
  have := ha c hc
  show (Char.ofNat c).toNat = c
  have hv : c.isValidChar := .inl (by omega)
  unfold Char.ofNat
  rw [dif_pos hv]
  rfl
theorem strI_nat (n : Nat) : strI (n : Int) = TL.numL n := by
  show (PySem.Str.ofString (toString ((n : Nat) : Int))).cps.toList = _
  rw [SX.num_S]
/-- the number that a word is -/
def numV (w : List Nat) : Option Int := if digB w = true ∧ w ≠ [] ∧ (w.head? = some 48 → w = [48]) then some ((PySem.NumText.digitsVal w : Nat) : Int) else none
theorem numV_some {w : List Nat} {v : Int} (h : numV w = some v) : 0 ≤ v ∧ strI v = w ∧ digB w = true ∧ w ≠ [] := by
  unfold numV at h
  by_cases q : digB w = true ∧ w ≠ [] ∧ (w.head? = some 48 → w = [48])
  · rw [if_pos q] at h
    cases h
    exact ⟨Int.natCast_nonneg _, by rw [strI_nat, numL_digits q.1 q.2.1 q.2.2], q.1, q.2.1⟩
  · rw [if_neg q] at h; cases h
theorem digB_free {w : List Nat} (h : digB w = true) : 32 ∉ w := fun hm => by
  have := List.all_eq_true.mp h 32 hm
  exact absurd this (by decide)
theorem numV_free {w : List Nat} (h : 32 ∈ w) : numV w = none := by
  unfold numV
  rw [if_neg]
  intro q
  exact digB_free q.1 h
theorem numV_nil : numV [] = none := by
  unfold numV
  rw [if_neg]
  intro q
  exact q.2.1 rfl
/-! ### taken apart -/
theorem spl_free1 {c : Nat} {p : List Nat} (h : c ∉ p) : TL.spl [c] 0 [] p = [p] := by
  have := SX.spl_join (c := c) (sep := []) (parts := [p]) (by simp) (fun q hq => by
    have : q = p := by simpa using hq
    rw [this]; exact h)
  exact this
theorem spl_cut {c : Nat} {p : List Nat} (q : List Nat) (h : c ∉ p) : TL.spl [c] 0 [] (p ++ c :: q) = p :: TL.spl [c] 0 [] q := SX.spl_free (sep := [c]) q (by simp) (SX.free_head h)
theorem spl_ne (c : Nat) (l : List Nat) : TL.spl [c] 0 [] l ≠ [] := by
  by_cases h : c ∈ l
  · obtain ⟨p, q, e, hp⟩ := List.eq_append_cons_of_mem h
    rw [e, spl_cut q hp]
    simp
  · rw [spl_free1 h]; simp
theorem part_split (l : List Nat) : (32 ∉ l ∧ partL [32] l = (l, [], []) ∧ splitL [32] l = [l]) ∨ ∃ p q, l = p ++ 32 :: q ∧ 32 ∉ p ∧ partL [32] l = (p, [32], q) ∧ splitL [32] l = p :: splitL [32] q := by
  by_cases h : 32 ∈ l
  · obtain ⟨p, q, e, hp⟩ := List.eq_append_cons_of_mem h
    refine .inr ⟨p, q, e, hp, ?_, by rw [e]; exact spl_cut q hp⟩
    unfold partL
    rw [e, show TL.par [32] [] (p ++ 32 :: q) = some (p, q) from SX.par_head (sep := []) q hp]
  · refine .inl ⟨h, ?_, spl_free1 h⟩
    unfold partL
    rw [SX.par_head_none (sep := []) h]
theorem split_one (q : List Nat) : (splitL [32] q = [q] ∧ 32 ∉ q) ∨ (32 ∈ q ∧ 2 ≤ (splitL [32] q).length) := by
  rcases part_split q with ⟨h, _, e⟩ | ⟨p, r, e1, hp, _, e⟩
  · exact .inl ⟨e, h⟩
  · refine .inr ⟨by rw [e1]; simp, ?_⟩
    rw [e, List.length_cons]
    have := List.length_pos_iff.mpr (spl_ne 32 r)
    show 2 ≤ (TL.spl [32] 0 [] r).length + 1
    omega
/-! ### put together -/
theorem join_splitL {a b : List Nat} (hb : b ≠ []) (hk : b.all (· < 256) = true) : VS.joinL b (splitL b a) = a := by
  have h := PySem.StrLaws.join_split (S a) (S b)
  rw [show PySem.Txt.split (S a) (S b) = (splitL b a).map S from SX.split_S hb hk, S_join] at h
  exact S_inj.mp h
/-- a line feed more at the end -/
theorem split_more {c : Nat} : ∀ (n : Nat) (l : List Nat), l.length ≤ n → splitL [c] (l ++ [c]) = splitL [c] l ++ [[]] := by
  intro n
  induction n with
  | zero =>
    intro l hl
    have : l = [] := List.length_eq_zero_iff.mp (by omega)
    subst this
    rw [show splitL [c] [] = [[]] from spl_free1 (by simp)]
    show TL.spl [c] 0 [] ([] ++ c :: []) = _
    rw [spl_cut [] (by simp), spl_free1 (by simp)]
    rfl
  | succ n ih =>
    intro l hl
    by_cases h : c ∈ l
    · obtain ⟨p, q, e, hp⟩ := List.eq_append_cons_of_mem h
      have e2 : splitL [c] l = p :: splitL [c] q := by rw [e]; exact spl_cut q hp
      have hlq : l.length = p.length + (q.length + 1) := by rw [e]; simp
      rw [e2, e, List.append_assoc]
      show TL.spl [c] 0 [] (p ++ c :: (q ++ [c])) = _
      rw [spl_cut (q ++ [c]) hp]
      have := ih q (by omega)
      unfold splitL at this ⊢
      rw [this]
      rfl
    · rw [show splitL [c] l = [l] from spl_free1 h]
      show TL.spl [c] 0 [] (l ++ c :: []) = _
      rw [spl_cut [] h, spl_free1 (by simp)]
      rfl
end LB

set_option Elab.async false
set_option linter.all false
set_option maxRecDepth 100000
set_option maxHeartbeats 4000000
set_option autoImplicit false
/-! M1: the step by itself: kinds 104 h, 72 H, 46 ., 65 A; states (reach, left). -/
namespace LM
abbrev S2 := Int × Int
def isK (k : Nat) : Bool := k == 104 || k == 72 || k == 46 || k == 65
def isTr (k : Nat) : Bool := k == 104 || k == 72
def stp (s : S2) (k : Nat) : S2 :=
  if k = 65 then (s.1 + 1, s.2 + 1) else if k = 46 then s
  else (if s.1 - 1 < 0 then 0 else s.1 - 1, if s.2 = 0 ∧ (0 < s.1 ∨ k = 72) then s.2 else s.2 - 1)
def run (s : S2) : List Nat → S2
  | [] => s
  | k :: t => run (stp s k) t
theorem run_append (s : S2) : ∀ (a b : List Nat), run s (a ++ b) = run (run s a) b
  | [], b => rfl
  | k :: a, b => by rw [List.cons_append, run, run, run_append _ a b]
  termination_by a => a.length
/-- a word n times -/
def pow (w : List Nat) : Nat → List Nat
  | 0 => []
  | n + 1 => w ++ pow w n
theorem pow_add (w : List Nat) (m : Nat) : ∀ n, pow w (n + m) = pow w n ++ pow w m
  | 0 => by simp [pow]
  | n + 1 => by rw [show n + 1 + m = (n + m) + 1 from by omega, pow, pow, pow_add w m n, List.append_assoc]
/-- those ahead of h and H -/
def met (s : S2) : List Nat → List S2
  | [] => []
  | k :: t => if isTr k = true then s :: met (stp s k) t else met (stp s k) t
/-- two states go alike at every true sign -/
def likes (u v : Int) (p : S2) : Prop := (0 < p.1 ↔ 0 < p.1 + u) ∧ (p.1 ≤ 0 → u = 0) ∧ (p.2 = 0 ↔ p.2 + v = 0)
theorem stp_nonneg {s : S2} (h : 0 ≤ s.1) (k : Nat) : 0 ≤ (stp s k).1 := by
  unfold stp
  split
  · show 0 ≤ s.1 + 1; omega
  · split
    · exact h
    · show 0 ≤ (if s.1 - 1 < 0 then 0 else s.1 - 1); split <;> omega
theorem run_nonneg : ∀ (t : List Nat) {s : S2}, 0 ≤ s.1 → 0 ≤ (run s t).1
  | [], _, h => h
  | k :: t, _, h => run_nonneg t (stp_nonneg h k)
theorem stp_shift {s : S2} {u v : Int} {k : Nat} (hk : isK k = true) (h : isTr k = true → likes u v s) (h0 : 0 ≤ s.1) (h1 : 0 ≤ s.1 + u) : stp (s.1 + u, s.2 + v) k = ((stp s k).1 + u, (stp s k).2 + v) := by
  unfold stp
  by_cases e1 : k = 65
  · simp [e1]; omega
  · by_cases e2 : k = 46
    · simp [e1, e2]
    · have ht : isTr k = true := by
        unfold isK at hk; unfold isTr
        simp only [Bool.or_eq_true, beq_iff_eq] at hk ⊢
        omega
      obtain ⟨a, b, c⟩ := h ht
      simp only [e1, e2, if_false]
      refine Prod.ext ?_ ?_
      · show (if s.1 + u - 1 < 0 then 0 else s.1 + u - 1) = (if s.1 - 1 < 0 then 0 else s.1 - 1) + u
        by_cases q : 0 < s.1
        · have := a.mp q
          rw [if_neg (by omega), if_neg (by omega)]; omega
        · have := b (by omega)
          subst this
          rw [if_pos (by omega), if_pos (by omega)]; rfl
      · show (if s.2 + v = 0 ∧ (0 < s.1 + u ∨ k = 72) then s.2 + v else s.2 + v - 1) = (if s.2 = 0 ∧ (0 < s.1 ∨ k = 72) then s.2 else s.2 - 1) + v
        by_cases q : s.2 = 0 ∧ (0 < s.1 ∨ k = 72)
        · rw [if_pos q, if_pos ⟨c.mp q.1, q.2.elim (fun z => .inl (a.mp z)) .inr⟩]
        · rw [if_neg q, if_neg fun z => q ⟨c.mpr z.1, z.2.elim (fun y => .inl (a.mpr y)) .inr⟩]; omega
theorem run_shift {u v : Int} : ∀ (t : List Nat) {s : S2}, (∀ k ∈ t, isK k = true) → (∀ p ∈ met s t, likes u v p) → 0 ≤ s.1 → 0 ≤ s.1 + u → run (s.1 + u, s.2 + v) t = ((run s t).1 + u, (run s t).2 + v) ∧ met (s.1 + u, s.2 + v) t = (met s t).map fun p => (p.1 + u, p.2 + v)
  | [], s, _, _, _, _ => ⟨rfl, rfl⟩
  | k :: t, s, hk, hm, h0, h1 => by
    have e := stp_shift (u := u) (v := v) (hk k (by simp)) (fun ht => hm s (by simp [met, ht])) h0 h1
    have h1' : 0 ≤ (stp s k).1 + u := by
      have := stp_nonneg (s := (s.1 + u, s.2 + v)) h1 k
      rw [e] at this
      exact this
    have ih := run_shift t (s := stp s k) (u := u) (v := v) (fun x hx => hk x (by simp [hx])) (fun p hp => hm p (by
      unfold met
      split
      · simp [hp]
      · exact hp)) (stp_nonneg h0 k) h1'
    refine ⟨by rw [run, run, e]; exact ih.1, ?_⟩
    unfold met
    rw [e, ih.2]
    split <;> simp
/-- rounds that go alike -/
theorem rounds {t : List Nat} {s : S2} {u v : Int} (hk : ∀ k ∈ t, isK k = true) (h0 : 0 ≤ s.1) (hu : (run s t).1 = s.1 + u) (hv : (run s t).2 = s.2 + v) : ∀ n : Nat, (∀ i : Nat, i ≤ n → ∀ p ∈ met s t, likes (i * u) (i * v) p) →
    run s (pow t (n + 1)) = (s.1 + (n + 1 : Nat) * u, s.2 + (n + 1 : Nat) * v)
  | 0, _ => by
    rw [pow, pow, List.append_nil]
    refine Prod.ext ?_ ?_
    · rw [hu]; simp
    · rw [hv]; simp
  | n + 1, h => by
    have ih := rounds hk h0 hu hv n fun i hi => h i (by omega)
    have e : pow t (n + 1 + 1) = pow t (n + 1) ++ t := by
      rw [pow_add t 1 (n + 1)]
      simp [pow]
    rw [e, run_append, ih]
    have hn := run_nonneg (pow t (n + 1)) h0
    rw [ih] at hn
    have sh := (run_shift (u := (n + 1 : Nat) * u) (v := (n + 1 : Nat) * v) t hk (h (n + 1) (Nat.le_refl _)) h0 hn).1
    rw [sh, hu, hv]
    have e1 : ((n + 1 + 1 : Nat) : Int) * u = (n + 1 : Nat) * u + u := by
      rw [show ((n + 1 + 1 : Nat) : Int) = ((n + 1 : Nat) : Int) + 1 from by omega, Int.add_mul, Int.one_mul]
    have e2 : ((n + 1 + 1 : Nat) : Int) * v = (n + 1 : Nat) * v + v := by
      rw [show ((n + 1 + 1 : Nat) : Int) = ((n + 1 : Nat) : Int) + 1 from by omega, Int.add_mul, Int.one_mul]
    refine Prod.ext ?_ ?_
    · simp only [e1]; omega
    · simp only [e2]; omega
end LM

set_option Elab.async false
set_option linter.all false
set_option maxRecDepth 100000
set_option maxHeartbeats 4000000
set_option autoImplicit false
/-! A1: reach and margins by themselves. -/
namespace LM
def rank (k : Nat) : Nat := if k = 104 then 0 else if k = 72 then 1 else if k = 46 then 2 else 3
theorem isK_cases {k : Nat} (h : isK k = true) : k = 104 ∨ k = 72 ∨ k = 46 ∨ k = 65 := by
  unfold isK at h
  simp only [Bool.or_eq_true, beq_iff_eq] at h
  omega
def le2 (a b : S2) : Prop := a.1 ≤ b.1 ∧ a.2 ≤ b.2
theorem le2.refl {a : S2} : le2 a a := ⟨Int.le_refl _, Int.le_refl _⟩
theorem le2.trans {a b c : S2} (h : le2 a b) (h' : le2 b c) : le2 a c := ⟨Int.le_trans h.1 h'.1, Int.le_trans h.2 h'.2⟩
/-- each kind is no worse -/
def nw : List Nat → List Nat → Prop
  | [], [] => True
  | a :: x, b :: y => rank a ≤ rank b ∧ nw x y
  | _, _ => False
theorem nw.refl : ∀ t : List Nat, nw t t
  | [] => trivial
  | _ :: t => ⟨Nat.le_refl _, nw.refl t⟩
theorem nw.len : ∀ {a b : List Nat}, nw a b → a.length = b.length
  | [], [], _ => rfl
  | _ :: x, _ :: y, h => by simp [nw.len h.2]
  | [], _ :: _, h => h.elim
  | _ :: _, [], h => h.elim
theorem nw.app : ∀ {a b c d : List Nat}, nw a b → nw c d → nw (a ++ c) (b ++ d)
  | [], [], _, _, _, h => h
  | _ :: x, _ :: y, _, _, h, h' => ⟨h.1, nw.app h.2 h'⟩
  | [], _ :: _, _, _, h, _ => h.elim
  | _ :: _, [], _, _, h, _ => h.elim
theorem nw.pow {a b : List Nat} (h : nw a b) : ∀ n, nw (pow a n) (pow b n)
  | 0 => trivial
  | n + 1 => by rw [LM.pow, LM.pow]; exact h.app (nw.pow h n)
theorem nw.take : ∀ {a b : List Nat} (n : Nat), nw a b → nw (a.take n) (b.take n)
  | _, _, 0, _ => by simp [nw]
  | [], [], _ + 1, _ => by simp [nw]
  | _ :: x, _ :: y, n + 1, h => ⟨h.1, nw.take n h.2⟩
  | [], _ :: _, _ + 1, h => h.elim
  | _ :: _, [], _ + 1, h => h.elim
theorem nw.drop : ∀ {a b : List Nat} (n : Nat), nw a b → nw (a.drop n) (b.drop n)
  | _, _, 0, h => h
  | [], [], _ + 1, _ => by simp [nw]
  | _ :: x, _ :: y, n + 1, h => nw.drop n h.2
  | [], _ :: _, _ + 1, h => h.elim
  | _ :: _, [], _ + 1, h => h.elim
abbrev Ks (t : List Nat) : Prop := ∀ k ∈ t, isK k = true
/-- the reach, the margin of the slot behind i slots -/
def rea (t : List Nat) : Int := (run (0, 0) t).1
def st0 (t : List Nat) (i : Nat) : S2 := run (rea (t.take i), rea (t.take i)) (t.drop i)
theorem Ks.take {t : List Nat} (h : Ks t) (n : Nat) : Ks (t.take n) := fun k hk => h k (List.mem_of_mem_take hk)
theorem Ks.drop {t : List Nat} (h : Ks t) (n : Nat) : Ks (t.drop n) := fun k hk => h k (List.mem_of_mem_drop hk)
theorem Ks.app {a b : List Nat} (h : Ks a) (h' : Ks b) : Ks (a ++ b) := fun k hk => (List.mem_append.mp hk).elim (h k) (h' k)
theorem Ks.pow {w : List Nat} (h : Ks w) : ∀ n, Ks (pow w n)
  | 0 => fun k hk => by simp [LM.pow] at hk
  | n + 1 => by rw [LM.pow]; exact h.app (Ks.pow h n)
end LM

set_option Elab.async false
set_option linter.all false
set_option maxRecDepth 100000
set_option maxHeartbeats 4000000
set_option autoImplicit false
/-! B1: the steps' functions. -/
namespace LB
open VS TL LM
open L2 (atI ixN)
theorem smL_ok {σ β : Type} {xs : List β} {s : σ} (h : xs.length ≤ 1000000) : smL xs s = .ok xs s := by
  unfold smL
  rw [if_pos h]; rfl
theorem appO_ok {σ α : Type} [En α] {l : List α} {a : α} {s : σ} (h : l.length < 1000000) : appO l a s = .ok (l ++ [a]) s := by
  unfold appO
  rw [if_pos (show small (l.length + 1) = true from decide_eq_true h)]; rfl
theorem rg1_ok {σ : Type} {j : Int} {s : σ} (h : 0 ≤ j) (h' : j < 2 ^ 62) : rg1 j s = .ok (rgI 0 j.toNat) s := by
  unfold rg1
  rw [if_pos (by unfold smI; rw [inRg_iff]; omega)]; rfl
theorem atI_last {α : Type} {x : α} {xs : List α} : atI (xs ++ [x]) (-(1 : Int)) = some x := by
  unfold atI ixN
  have h : (-1 + ((xs ++ [x]).length : Int)).toNat = xs.length := by simp; omega
  have h1 : -((xs ++ [x]).length : Int) ≤ -1 := by simp; omega
  simp only [show ¬ (0 : Int) ≤ -1 by decide, if_false, if_pos h1, h, Option.bind_some]
  simp
theorem atI_get {α : Type} {xs : List α} {i : Int} (h : 0 ≤ i) (h' : i < xs.length) : atI xs i = xs[i.toNat]? := by
  unfold atI ixN
  simp [h, h']
end LB

set_option Elab.async false
set_option linter.all false
set_option maxRecDepth 100000
set_option maxHeartbeats 4000000
set_option autoImplicit false
/-! B2: rows: what their functions tell. -/
namespace LB
open VS TL LM
open L2 (atI ixN)
abbrev Ps := List (List Nat × Int)
def den : Ps → List Nat
  | [] => []
  | p :: ps => pow p.1 p.2.toNat ++ den ps
structure Okp (m : Nat) (p : List Nat × Int) : Prop where
  ne : p.1 ≠ []
  len : p.1.length ≤ m
  ks : Ks p.1
  pos : 1 ≤ p.2
structure WF (m : Nat) (ps : Ps) : Prop where
  ok : ∀ p ∈ ps, Okp m p
  m : m ≤ 250000
  cnt : ps.length ≤ 300000
  tot : (den ps).length < 2 ^ 60
theorem mapO_ok {σ α β : Type} {v : β → σ → O σ α} (f : β → α) : ∀ (xs : List β) (s : σ), (∀ x ∈ xs, ∀ s, v x s = .ok (f x) s) → mapO v xs s = .ok (xs.map f) s
  | [], _, _ => rfl
  | x :: xs, s, h => by
    rw [mapO, h x (by simp) s, bind_ok, mapO_ok f xs s fun y hy => h y (by simp [hy]), bind_ok]
    rfl
/-- pieces as they are handed in -/
structure Okr (m : Nat) (p : List Nat × Int) : Prop where
  len : p.1.length ≤ m
  ks : Ks p.1
  pos : 0 ≤ p.2
def keep (ps : Ps) : Ps := ps.filter fun x => (!decide (x.1 = [])) && decide (0 < x.2)
theorem Okp.r {m : Nat} {p : List Nat × Int} (h : Okp m p) : Okr m p := ⟨h.len, h.ks, by have := h.pos; omega⟩
/-! through -/
/-! cuts of a power -/
def Per (w : List Nat) (c : Nat) (L : List Nat) : Prop := ∀ i, i < L.length → L[i]? = w[(c + i) % w.length]?
theorem Per.app {w A B : List Nat} {c : Nat} (h : Per w c A) (h' : Per w (c + A.length) B) : Per w c (A ++ B) := fun i hi => by
  by_cases hA : i < A.length
  · rw [List.getElem?_append_left hA]; exact h i hA
  · rw [List.getElem?_append_right (by omega), h' (i - A.length) (by rw [List.length_append] at hi; omega)]
    congr 2
    omega
theorem Per.mod {w L : List Nat} {c d : Nat} (h : Per w c L) (e : c % w.length = d % w.length) : Per w d L := fun i hi => by
  rw [h i hi, Nat.add_mod, e, ← Nat.add_mod]
theorem Per.self (w : List Nat) : Per w 0 w := fun i hi => by rw [Nat.zero_add, Nat.mod_eq_of_lt hi]
theorem Per.pow (w : List Nat) : ∀ n, Per w 0 (pow w n)
  | 0 => fun i hi => by simp [LM.pow] at hi
  | n + 1 => by
    rw [LM.pow]
    exact (Per.self w).app ((Per.pow w n).mod (by simp))
theorem Per.drop {w L : List Nat} {c : Nat} (h : Per w c L) (k : Nat) : Per w (c + k) (L.drop k) := fun i hi => by
  rw [List.length_drop] at hi
  rw [List.getElem?_drop, h (k + i) (by omega)]
  congr 2
  omega
theorem Per.take {w L : List Nat} {c : Nat} (h : Per w c L) (k : Nat) : Per w c (L.take k) := fun i hi => by
  rw [List.length_take] at hi
  rw [List.getElem?_take_of_lt (by omega), h i (by omega)]
theorem Per.eq {w A B : List Nat} {c d : Nat} (h : Per w c A) (h' : Per w d B) (e : c % w.length = d % w.length) (hl : A.length = B.length) : A = B := by
  apply List.ext_getElem?
  intro i
  by_cases hi : i < A.length
  · rw [h i hi, (h'.mod e.symm) i (by omega)]
  · rw [List.getElem?_eq_none (by omega), List.getElem?_eq_none (by omega)]
theorem sIx_nat (n d k : Nat) (h : k ≤ n) : HT.sIx n d (some (k : Int)) = k := by
  rw [HT.sIx_nat, Nat.min_eq_left h]
theorem cutL_nn {α : Type} (l : List α) {a b : Nat} (ha : a ≤ l.length) (hb : b ≤ l.length) : cutL l (some (a : Int)) (some (b : Int)) = (l.drop a).take (b - a) := by
  unfold cutL
  rw [sIx_nat _ _ _ ha, sIx_nat _ _ _ hb]
theorem cutL_from {α : Type} (l : List α) {a : Nat} (ha : a ≤ l.length) : cutL l (some (a : Int)) none = l.drop a := by
  unfold cutL
  rw [sIx_nat _ _ _ ha]
  show (l.drop a).take (l.length - a) = _
  rw [List.take_of_length_le (by simp)]
theorem cutL_to {α : Type} (l : List α) {b : Nat} (hb : b ≤ l.length) : cutL l none (some (b : Int)) = l.take b := by
  unfold cutL
  rw [sIx_nat _ _ _ hb]
  show (l.drop 0).take (b - 0) = _
  rw [List.drop_zero, Nat.sub_zero]
theorem slS_ok {l : List Nat} (h : l.length ≤ 1000000) (lo hi : Option Int) : slS lo hi l = some (cutL l lo hi) := by
  unfold slS
  rw [if_pos (show small l.length = true from decide_eq_true h)]
theorem rep_pow (w : List Nat) (n : Nat) : repS (n : Int) w = pow w n := by
  unfold repS
  rw [Int.toNat_natCast]
  induction n with
  | zero => rfl
  | succ n ih => rw [List.replicate_succ, List.flatten_cons, ih, LM.pow]
theorem mulS_ok {w : List Nat} {n : Nat} (h : n ≤ 1000000) (hl : w.length * n ≤ 1000000) : mulS w (n : Int) = some (pow w n) := by
  unfold mulS
  rw [if_pos ⟨decide_eq_true (by omega), decide_eq_true (by omega), show small (w.length * (n : Int).toNat) = true from decide_eq_true (by rw [Int.toNat_natCast]; exact hl)⟩, rep_pow]
end LB

set_option Elab.async false
set_option linter.all false
set_option maxRecDepth 100000
set_option maxHeartbeats 4000000
set_option autoImplicit false
/-! B3: parts of rows, margins, the firm slot. -/
namespace LB
open VS TL LM
open L2 (atI ixN)
theorem addL_ok {α : Type} {a b : List α} (h : a.length + b.length ≤ 1000000) : addL a b = some (a ++ b) := by
  unfold addL
  rw [if_pos (show small (a.length + b.length) = true from decide_eq_true h)]
theorem is_int (i : Int) : d_is_integer_i i = .ok true () := rfl
end LB

set_option Elab.async false
set_option linter.all false
set_option maxRecDepth 100000
set_option maxHeartbeats 4000000
set_option autoImplicit false
/-! B4: draws. -/
namespace LB
open VS TL LM
open L2 (atI ixN)
structure SpOk (b : Nat) (s : Sp) : Prop where
  mix0 : 0 ≤ s.mix
  mix1 : s.mix < 2147483647
  c0 : 0 ≤ s.cnt
  c1 : s.cnt ≤ b
  big : 0 ≤ s.big
theorem SpOk.mono {b c : Nat} {s : Sp} (h : SpOk b s) (hbc : b ≤ c) : SpOk c s := ⟨h.mix0, h.mix1, h.c0, by have := h.c1; omega, h.big⟩
theorem spOk0 (ns : List Int) : SpOk 0 ⟨ns, 0, 0, 11⟩ := ⟨show (0 : Int) ≤ 11 by decide, show (11 : Int) < 2147483647 by decide, Int.le_refl 0, Int.le_refl 0, Int.le_refl 0⟩
theorem pow18 : powO (10 : Int) (18 : Int) = some 1000000000000000000 := by
  rw [show (18 : Int) = ((18 : Nat) : Int) from rfl, powO_ok (by decide) (by decide)]; rfl
theorem v_draw {b : Nat} {many : Int} {s : Sp} (h : SpOk b s) (hb : b < 2 ^ 40) (h1 : 1 ≤ many) (h2 : many < 2 ^ 60) : ∃ d s', d_law_draw many s = .ok d s' ∧ 0 ≤ d ∧ d < many ∧ SpOk (b + 1) s' := by
  obtain ⟨m0, m1, c0, c1, bg⟩ := h
  obtain ⟨cells, big, cnt, mix⟩ := s
  dsimp only at m0 m1 c0 c1 bg
  have tail : ∀ s1 : Sp, SpOk (b + 1) s1 → ∃ d s', (if decide (0 < s1.big) = true then O.bind (ofO (modO s1.big many) s1) fun d s_23 => O.bind (ofO (divO s_23.big many) s_23) fun a s_25 => .ok d { s_25 with big := a }
      else O.bind (ofO (mulO 7919 s1.cnt) s1) fun a s => O.bind (ofO (powO (s1.mix + a + 104729) 5) s) fun a s => O.bind (ofO (modO a 2147483629) s) fun mixed s_28 => O.bind (ofO (mulO mixed 48271) s_28) fun a s => O.bind (ofO (mulO 30011 s.cnt) s) fun a_1 s => O.bind (ofO (powO (a + a_1 + 29) 3) s) fun a s => O.bind (ofO (modO a 1000000007) s) fun x s => ofO (modO x many) s) = .ok d s' ∧ 0 ≤ d ∧ d < many ∧ SpOk (b + 1) s' := by
    intro s1 ⟨m0', m1', c0', c1', bg'⟩
    by_cases q : 0 < s1.big
    · rw [if_pos (decide_eq_true q)]
      have e1 := Int.emod_nonneg s1.big (show many ≠ 0 by omega)
      have e2 := Int.emod_lt_of_pos s1.big (show 0 < many by omega)
      rw [modO_ok (show 0 < many by omega), ofO_some, bind_ok, divO_ok (show 0 < many by omega) (by omega), ofO_some, bind_ok]
      exact ⟨_, _, rfl, e1, e2, m0', m1', c0', c1', Int.ediv_nonneg bg' (by omega)⟩
    · rw [if_neg (by simpa using q)]
      have p1 : mulO 7919 s1.cnt = some (7919 * s1.cnt) := mulO_ok (.inl (by decide))
      have p2 : mulO 30011 s1.cnt = some (30011 * s1.cnt) := mulO_ok (.inl (by decide))
      have p3 : powO (s1.mix + 7919 * s1.cnt + 104729) 5 = some ((s1.mix + 7919 * s1.cnt + 104729) ^ 5) := powO_ok (j := 5) (by decide) (by omega)
      simp only [p1, p2, p3, ofO_some, bind_ok, modO_ok (show (0 : Int) < 2147483629 by decide)]
      generalize hx : (s1.mix + 7919 * s1.cnt + 104729) ^ 5 % 2147483629 = x
      have x0 : 0 ≤ x := by rw [← hx]; exact Int.emod_nonneg _ (by decide)
      have x1 : x < 2147483629 := by rw [← hx]; exact Int.emod_lt_of_pos _ (by decide)
      have p4 : mulO x 48271 = some (x * 48271) := mulO_ok (.inr (by decide))
      have p5 : powO (x * 48271 + 30011 * s1.cnt + 29) 3 = some ((x * 48271 + 30011 * s1.cnt + 29) ^ 3) := powO_ok (j := 3) (by decide) (by omega)
      simp only [p2, p4, p5, ofO_some, bind_ok, modO_ok (show (0 : Int) < 1000000007 by decide), modO_ok (show (0 : Int) < many by omega)]
      exact ⟨_, _, rfl, Int.emod_nonneg _ (by omega), Int.emod_lt_of_pos _ (by omega), m0', m1', c0', c1', bg'⟩
  have fin : ∀ {o : O Sp Int} (s1 : Sp), SpOk (b + 1) s1 → (o = (if decide (0 < s1.big) = true then O.bind (ofO (modO s1.big many) s1) fun d s_23 => O.bind (ofO (divO s_23.big many) s_23) fun a s_25 => .ok d { s_25 with big := a }
      else O.bind (ofO (mulO 7919 s1.cnt) s1) fun a s => O.bind (ofO (powO (s1.mix + a + 104729) 5) s) fun a s => O.bind (ofO (modO a 2147483629) s) fun mixed s_28 => O.bind (ofO (mulO mixed 48271) s_28) fun a s => O.bind (ofO (mulO 30011 s.cnt) s) fun a_1 s => O.bind (ofO (powO (a + a_1 + 29) 3) s) fun a s => O.bind (ofO (modO a 1000000007) s) fun x s => ofO (modO x many) s)) → ∃ d s', o = .ok d s' ∧ 0 ≤ d ∧ d < many ∧ SpOk (b + 1) s' := fun s1 h e => by rw [e]; exact tail s1 h
  unfold d_law_draw
  simp only [bind_assoc, bind_ok, pow18, ofO_some]
  by_cases q : big = 0
  · cases cells with
    | nil =>
      simp only [q, decide_true, if_true, List.isEmpty_nil, Bool.not_true, bind_ok, Bool.false_eq_true, if_false]
      exact fin ⟨[], 0, cnt + 1, mix⟩ ⟨m0, m1, by show 0 ≤ cnt + 1; omega, by show cnt + 1 ≤ _; omega, Int.le_refl 0⟩ rfl
    | cons cell l =>
      have hmod0 := Int.emod_nonneg (mix * 8191 + cell + 3) (show (2147483647 : Int) ≠ 0 by decide)
      have hmod1 := Int.emod_lt_of_pos (mix * 8191 + cell + 3) (show (0 : Int) < 2147483647 by decide)
      simp only [q, decide_true, if_true, List.isEmpty_cons, Bool.not_false, bind_ok, mulO_ok (i := mix) (j := 8191) (.inr (by decide)), ofO_some, modO_ok (show (0 : Int) < 2147483647 by decide)]
      by_cases r : (1000000000000000000 : Int) ≤ cell
      · simp only [decide_eq_true r, if_true, bind_ok]
        exact fin ⟨l, cell, cnt + 1, (mix * 8191 + cell + 3) % 2147483647⟩ ⟨hmod0, hmod1, by show 0 ≤ cnt + 1; omega, by show cnt + 1 ≤ _; omega, by show 0 ≤ cell; omega⟩ rfl
      · simp only [decide_eq_false r, Bool.false_eq_true, if_false, bind_ok]
        exact fin ⟨l, 0, cnt + 1, (mix * 8191 + cell + 3) % 2147483647⟩ ⟨hmod0, hmod1, by show 0 ≤ cnt + 1; omega, by show cnt + 1 ≤ _; omega, Int.le_refl 0⟩ rfl
  · simp only [decide_eq_false q, Bool.false_eq_true, if_false, bind_ok]
    exact fin ⟨cells, big, cnt + 1, mix⟩ ⟨m0, m1, by show 0 ≤ cnt + 1; omega, by show cnt + 1 ≤ _; omega, bg⟩ rfl
end LB

set_option Elab.async false
set_option linter.all false
set_option maxRecDepth 100000
set_option maxHeartbeats 4000000
set_option autoImplicit false
/-! B5: drawn texts. -/
namespace LB
open VS TL LM
open L2 (atI ixN)
theorem atI_mem {α : Type} {xs : List α} {i : Int} (h : 0 ≤ i) (h' : i < xs.length) : ∃ x, atI xs i = some x ∧ x ∈ xs := by
  have hi : i.toNat < xs.length := by omega
  exact ⟨xs[i.toNat], by rw [atI_get h h', List.getElem?_eq_getElem hi], List.getElem_mem hi⟩
theorem v_pick_sls {b : Nat} {l : List (List Nat)} {s : Sp} (h : SpOk b s) (hb : b < 2 ^ 40) (hl : l ≠ []) (hl' : l.length < 2 ^ 50) : ∃ x s', d_law_pick_sls l s = .ok x s' ∧ x ∈ l ∧ SpOk (b + 1) s' := by
  have := List.length_pos_iff.mpr hl
  obtain ⟨d, s', e, d0, d1, k⟩ := v_draw (many := (l.length : Int)) h hb (by omega) (by omega)
  obtain ⟨x, ex, hx⟩ := atI_mem (xs := l) d0 d1
  refine ⟨x, s', ?_, hx, k⟩
  unfold d_law_pick_sls
  rw [e, bind_ok, ex, ofO_some]
theorem v_pick_sli {b : Nat} {l : List Int} {s : Sp} (h : SpOk b s) (hb : b < 2 ^ 40) (hl : l ≠ []) (hl' : l.length < 2 ^ 50) : ∃ x s', d_law_pick_sli l s = .ok x s' ∧ x ∈ l ∧ SpOk (b + 1) s' := by
  have := List.length_pos_iff.mpr hl
  obtain ⟨d, s', e, d0, d1, k⟩ := v_draw (many := (l.length : Int)) h hb (by omega) (by omega)
  obtain ⟨x, ex, hx⟩ := atI_mem (xs := l) d0 d1
  refine ⟨x, s', ?_, hx, k⟩
  unfold d_law_pick_sli
  rw [e, bind_ok, ex, ofO_some]
theorem v_pick_ss {b : Nat} {l : List Nat} {s : Sp} (h : SpOk b s) (hb : b < 2 ^ 40) (hl : l ≠ []) (hl' : l.length ≤ 1000000) : ∃ x s', d_law_pick_ss l s = .ok x s' ∧ x.c ∈ l ∧ SpOk (b + 1) s' := by
  have := List.length_pos_iff.mpr hl
  obtain ⟨d, s', e, d0, d1, k⟩ := v_draw (many := (l.length : Int)) h hb (by omega) (by omega)
  obtain ⟨x, ex, hx⟩ := atI_mem (xs := l) d0 d1
  refine ⟨⟨x⟩, s', ?_, hx, k⟩
  unfold d_law_pick_ss
  rw [lenS_ok hl', ofO_some, bind_ok, e, bind_ok]
  unfold ixS
  rw [if_pos hl', ex]; rfl
theorem mapO_sp {α β : Type} {v : β → Sp → O Sp α} (P : α → Prop) (c : Nat) (M : Nat) : ∀ (xs : List β) (b : Nat) (s : Sp), (∀ x ∈ xs, ∀ b s, SpOk b s → b < M → ∃ a s', v x s = .ok a s' ∧ P a ∧ SpOk (b + c) s') → SpOk b s → b + c * xs.length < M →
    ∃ l s', mapO v xs s = .ok l s' ∧ l.length = xs.length ∧ (∀ a ∈ l, P a) ∧ SpOk (b + c * xs.length) s'
  | [], b, s, _, h, _ => ⟨[], s, rfl, rfl, (fun a ha => nomatch ha), by simpa using h⟩
  | x :: xs, b, s, hv, h, hb => by
    rw [List.length_cons, Nat.mul_add, Nat.mul_one] at hb
    obtain ⟨a, s1, e1, p1, k1⟩ := hv x (by simp) b s h (by omega)
    obtain ⟨l, s2, e2, l2, p2, k2⟩ := mapO_sp P c M xs (b + c) s1 (fun y hy => hv y (by simp [hy])) k1 (by omega)
    refine ⟨a :: l, s2, ?_, by simp [l2], fun z hz => ?_, ?_⟩
    · rw [mapO, e1, bind_ok, e2, bind_ok]
    · rcases List.mem_cons.mp hz with q | q
      · rw [q]; exact p1
      · exact p2 z q
    · rw [List.length_cons, Nat.mul_add, Nat.mul_one]
      have : b + c + c * xs.length = b + (c * xs.length + c) := by omega
      rw [← this]; exact k2
theorem joinL_nil : ∀ ts : List (List Nat), VS.joinL [] ts = ts.flatten
  | [] => rfl
  | [x] => by simp [VS.joinL]
  | x :: y :: r => by
    have := joinL_nil (y :: r)
    show x ++ [] ++ VS.joinL [] (y :: r) = _
    rw [this]; simp
theorem flat_ch (l : List Ch) : (l.map fun c => [c.c]).flatten = l.map (·.c) := by
  induction l with
  | nil => rfl
  | cons c l ih => rw [List.map_cons, List.flatten_cons, ih]; rfl
theorem sum_ch (l : List Ch) : ((l.map fun c => [c.c]).map List.length).sum = l.length := by
  induction l with
  | nil => rfl
  | cons c l ih => rw [List.map_cons, List.map_cons, List.sum_cons, ih]; simp; omega
theorem joinCh_ok {l : List Ch} (h : l.length ≤ 1000000) : joinCh [] l = some (l.map (·.c)) := by
  unfold joinCh joinS
  rw [if_pos (show small (((l.map fun c => [c.c]).map List.length).sum + (l.map fun c => [c.c]).length * ([] : List Nat).length) = true from decide_eq_true (by rw [sum_ch]; simpa using h)), joinL_nil, flat_ch]
theorem rgI_length (lo : Int) (n : Nat) : (rgI lo n).length = n := by unfold rgI; simp
/-- n drawn signs of a menu -/
theorem v_signs {b : Nat} {menu : List Nat} {s : Sp} {n : Nat} (h : SpOk b s) (hm : menu ≠ []) (hk : Ks menu) (hl : menu.length ≤ 1000000) (hn : n ≤ 1000) (hb : b + n < 2 ^ 40) :
    ∃ l s', mapO (fun (_ : Int) s => d_law_pick_ss menu s) (rgI 0 n) s = .ok l s' ∧ joinCh [] l = some (l.map (·.c)) ∧ Ks (l.map (·.c)) ∧ (l.map (·.c)).length = n ∧ SpOk (b + n) s' := by
  obtain ⟨l, s', e, hl', hp, k⟩ := mapO_sp (v := fun (_ : Int) s => d_law_pick_ss menu s) (fun c => isK c.c = true) 1 (2 ^ 40) (rgI 0 n) b s (fun x _ b s h hb => by
    obtain ⟨x, s', e, hx, k⟩ := v_pick_ss h hb hm hl
    exact ⟨x, s', e, hk _ hx, k⟩) h (by rw [rgI_length]; omega)
  rw [rgI_length] at hl' k
  rw [Nat.one_mul] at k
  refine ⟨l, s', e, joinCh_ok (by omega), fun c hc => ?_, by simp [hl'], k⟩
  obtain ⟨x, hx, rfl⟩ := List.mem_map.mp hc
  exact hp x hx
theorem menu_ok (l : List (List Nat)) (h : (l.all fun t => (!t.isEmpty) && (decide (t.length ≤ 1000) && t.all isK)) = true) {t : List Nat} (ht : t ∈ l) : t ≠ [] ∧ t.length ≤ 1000 ∧ Ks t := by
  have := List.all_eq_true.mp h t ht
  rw [Bool.and_eq_true, Bool.and_eq_true, decide_eq_true_iff, List.all_eq_true] at this
  exact ⟨by intro e; rw [e] at this; simp at this, this.2.1, this.2.2⟩
theorem v_t_row {b : Nat} {most : Nat} {s : Sp} (h : SpOk b s) (h2 : most ≤ 900) (hb : b + 2000 < 2 ^ 40) : ∃ t s', d_law_t_row most s = .ok t s' ∧ Ks t ∧ t.length ≤ most ∧ SpOk (b + most + 2) s' := by
  unfold d_law_t_row
  obtain ⟨menu, s1, e1, hm, k1⟩ := v_pick_sls (l := [([104, 72, 46, 65] : List Nat), ([104, 65] : List Nat), ([104, 104, 65] : List Nat), ([104, 72, 65] : List Nat), ([72, 65] : List Nat), ([104, 46, 65] : List Nat), ([104, 104, 104, 72, 46, 65] : List Nat), ([65, 46] : List Nat), ([104, 72] : List Nat), ([104, 65, 65] : List Nat), ([72, 72, 65, 65] : List Nat)]) h (by omega) (by simp) (by simp)
  obtain ⟨m1, m2, m3⟩ := menu_ok _ (by decide) hm
  obtain ⟨d, s2, e2, d0, d1, k2⟩ := v_draw (many := (most : Int) + 1) k1 (by omega) (by omega) (by omega)
  obtain ⟨n, rfl⟩ : ∃ n : Nat, d = n := ⟨d.toNat, by omega⟩
  obtain ⟨l, s3, e4, e5, e6, e7, k3⟩ := v_signs (n := n) k2 m1 m3 (by omega) (by omega) (by omega)
  simp only [e1, bind_ok, e2, rg1_ok (j := (n : Int)) (s := s2) (by omega) (by omega), Int.toNat_natCast, smL_ok (xs := rgI 0 n) (s := s2) (by rw [rgI_length]; omega), e4, e5, ofO_some]
  exact ⟨_, _, rfl, e6, by omega, k3.mono (by omega)⟩
theorem addS_ok {a b : List Nat} (h : a.length + b.length ≤ 1000000) : addS a b = some (a ++ b) := by
  unfold addS
  rw [if_pos (show small (a.length + b.length) = true from decide_eq_true h)]
end LB

set_option Elab.async false
set_option linter.all false
set_option maxRecDepth 100000
set_option maxHeartbeats 4000000
set_option autoImplicit false
/-! HJ: runs of rows of single kinds. -/
namespace LB
open VS TL LM
open L2 (atI ixN)
theorem k_lt {k : Nat} (h : isK k = true) : k < 0x110000 := by rcases isK_cases h with h | h | h | h <;> subst h <;> decide
abbrev Rn := List (Ch × Int)
def mrg (v : Rn) (p : Ch × Int) : Rn := match v.getLast? with
  | none => [p]
  | some l => if l.1 = p.1 then v.dropLast ++ [(p.1, l.2 + p.2)] else v ++ [p]
def RnOk (v : Rn) : Prop := ∀ p ∈ v, isK p.1.c = true
theorem mrg_ok {v : Rn} {p : Ch × Int} (h : RnOk v) (hp : isK p.1.c = true) : RnOk (mrg v p) := by
  unfold mrg
  split
  · intro q hq; rw [List.mem_singleton] at hq; subst hq; exact hp
  · split
    · intro q hq
      rcases List.mem_append.mp hq with hq | hq
      · exact h q (List.dropLast_subset v hq)
      · rw [List.mem_singleton] at hq; subst hq; exact hp
    · intro q hq
      rcases List.mem_append.mp hq with hq | hq
      · exact h q hq
      · rw [List.mem_singleton] at hq; subst hq; exact hp
theorem mrg_len (v : Rn) (p : Ch × Int) : (mrg v p).length ≤ v.length + 1 := by
  unfold mrg
  split
  · simp
  · split
    · simp only [List.length_append, List.length_dropLast, List.length_singleton]; omega
    · simp
theorem eqO_rn {v : Rn} (h : RnOk v) : eqO v ([] : Rn) = some (decide (v = [])) := by
  have h1 : EqT.ok v = true := List.all_eq_true.mpr fun p hp => by
    show (decide (p.1.c < 0x110000) && true) = true
    rw [Bool.and_true]
    exact decide_eq_true (k_lt (h p hp))
  unfold eqO
  rw [if_pos ⟨h1, rfl⟩]
theorem setO_last {σ : Type} {v : Rn} {l x : Ch × Int} {s : σ} : setO (v ++ [l]) (-(1 : Int)) x s = .ok (v ++ [x]) s := by
  unfold setO
  have e : ixN (v ++ [l]).length (-(1 : Int)) = some v.length := by
    unfold ixN
    rw [if_neg (by decide)]
    rw [List.length_append, List.length_singleton]
    first
    | (rw [if_pos (by omega)]; congr 1; omega)
    | (simp; omega)
  rw [e]
  simp [ofO]
/-- one step of both loops -/
theorem mrg_step {σ : Type} {v : Rn} {p : Ch × Int} {s : σ} (h : RnOk v) (hl : v.length < 100000) :
    (O.bind (O.bind (ofO ((eqO v ([] : Rn)).map fun c => !c) s) fun b s1 => if b = true then (O.bind (O.bind (ofO (atI v (-(1 : Int))) s1) fun x s2 => .ok (x.1) s2) fun x s2 => .ok ((decide (x = p.1))) s2) else .ok false s1) fun b s1 => O.bind (if b = true then (O.bind (O.bind (O.bind (O.bind (ofO (atI v (-(1 : Int))) s1) fun x s2 => .ok (x.2) s2) fun x s2 => .ok ((x + p.2)) s2) fun x s2 => .ok ((p.1, x)) s2) fun x s2 => O.bind (setO v (-(1 : Int)) x s2) fun w s3 => (.ok w s3)) else (O.bind (appO v (p.1, p.2) s1) fun w s2 => (.ok w s2))) fun w s2 => (.ok w s2 : O σ Rn)) = .ok (mrg v p) s := by
  rw [eqO_rn h]
  simp only [Option.map_some, ofO_some, bind_ok]
  rcases List.eq_nil_or_concat v with rfl | ⟨u, l, rfl⟩
  · simp only [decide_true, Bool.not_true, Bool.false_eq_true, if_false, bind_ok]
    rw [appO_ok (by simp)]
    rfl
  · rw [List.concat_eq_append] at h hl ⊢
    have e1 : decide (u ++ [l] = []) = false := decide_eq_false (by simp)
    simp only [e1, Bool.not_false, if_true, atI_last, ofO_some, bind_ok]
    have e2 : mrg (u ++ [l]) p = if l.1 = p.1 then u ++ [(p.1, l.2 + p.2)] else u ++ [l] ++ [p] := by
      unfold mrg
      rw [List.getLast?_concat]
      simp only [List.dropLast_concat]
    rw [e2]
    by_cases q : l.1 = p.1
    · simp only [decide_eq_true q, if_true, bind_ok, setO_last, if_pos q]
    · simp only [decide_eq_false q, Bool.false_eq_true, if_false, if_neg q]
      rw [appO_ok (by omega)]
      rfl
theorem mrg_fold {σ β : Type} {body : β → Rn → σ → O σ Rn} (f : β → Ch × Int) : ∀ (xs : List β) (v : Rn) (s : σ), (∀ x ∈ xs, isK (f x).1.c = true) → (∀ x ∈ xs, ∀ v s, RnOk v → v.length < 100000 → body x v s = .ok (mrg v (f x)) s) → RnOk v → v.length + xs.length < 100000 → foldO body xs v s = .ok ((xs.map f).foldl mrg v) s
  | [], v, s, _, _, _, _ => rfl
  | x :: xs, v, s, h1, h2, h3, h4 => by
    rw [List.length_cons] at h4
    have := mrg_len v (f x)
    rw [foldO, h2 x (by simp) v s h3 (by omega), bind_ok, mrg_fold f xs _ s (fun y hy => h1 y (by simp [hy])) (fun y hy => h2 y (by simp [hy])) (mrg_ok h3 (h1 x (by simp))) (by omega)]
    rfl
theorem mrg_cont {σ β γ : Type} {body : β → Rn → σ → O σ Rn} {k : Rn → σ → O σ γ} (Q : O σ γ → Prop) {xs : List β} {s : σ} (f : β → Ch × Int) (h1 : ∀ x ∈ xs, isK (f x).1.c = true) (h2 : ∀ x ∈ xs, ∀ v s, RnOk v → v.length < 100000 → body x v s = .ok (mrg v (f x)) s) (h4 : xs.length < 100000)
    (hk : Q (k ((xs.map f).foldl mrg []) s)) : Q ((foldO body xs [] s).bind k) := by
  rw [mrg_fold f xs [] s h1 h2 (fun p hp => by cases hp) (by simpa using h4), bind_ok]
  exact hk
theorem lstO_ok {σ α : Type} {xs : List α} {s : σ} (h : xs.length ≤ 1000000) : lstO xs s = .ok xs s := by
  unfold lstO
  rw [if_pos (show small xs.length = true from decide_eq_true h)]
  rfl
/-- runs of single kinds -/
theorem v_runs1 {sg : Rn} (h : RnOk sg) (hl : sg.length ≤ 1000) (ht : ∀ p ∈ sg, -(2 ^ 64) < p.2 ∧ p.2 < 2 ^ 64) : d_Row_runs ⟨sg.map fun p => ([p.1.c], p.2)⟩ = .ok (sg.foldl mrg []) () := by
  unfold d_Row_runs
  dsimp only
  refine mrg_cont (fun o => o = .ok (sg.foldl mrg []) ()) (fun (p : List Nat × Int) => (Ch.mk (p.1.headD 0), p.2)) (fun x hx => ?_) (fun x hx v s hv hvl => ?_) (by rw [List.length_map]; omega) ?_
  · obtain ⟨p, hp, rfl⟩ := List.mem_map.mp hx
    exact h p hp
  · obtain ⟨p, hp, rfl⟩ := List.mem_map.mp hx
    obtain ⟨⟨c⟩, t⟩ := p
    have i0 : ixS [c] (0 : Int) = some ⟨c⟩ := by unfold ixS; rfl
    have m1 : mulS [c] (1 : Int) = some [c] := mulS_ok (n := 1) (by decide) (by simp)
    have l1 : lenS [c] = some 1 := lenS_ok (l := [c]) (by simp)
    dsimp only
    simp only [i0, l1, m1, ofO_some, bind_ok, decide_true, if_true]
    rw [mulO_ok (.inl (by decide)), ofO_some]
    simp only [bind_ok, Int.one_mul]
    rw [lstO_ok (by simp)]
    simp only [bind_ok, foldO]
    have := mrg_step (s := ()) (p := (Ch.mk c, t)) hv hvl
    cases s
    rw [this]
    rfl
  · show O.ok _ () = _
    congr 1
    rw [List.map_map]
    congr 1
    exact (List.map_congr_left fun p _ => rfl).trans (List.map_id _)
end LB

set_option Elab.async false
set_option linter.all false
set_option maxRecDepth 100000
set_option maxHeartbeats 4000000
set_option autoImplicit false
/-! A3: trees by themselves: no tree of a row has a greater reach, or a greater margin, than the row. -/
namespace LM
/-- blocks 1 .. n, the root 0 -/
structure ATree (n : Nat) (sl pa : Nat → Nat) (dp : Nat → Int) : Prop where
  s0 : sl 0 = 0
  d0 : dp 0 = 0
  st : ∀ b, 1 ≤ b → b ≤ n → pa b < b ∧ sl (pa b) < sl b ∧ dp b = dp (pa b) + 1
inductive Anc (pa : Nat → Nat) : Nat → Nat → Prop
  | refl (b : Nat) : Anc pa b b
  | up {a b : Nat} : b ≠ 0 → Anc pa a (pa b) → Anc pa a b
section
variable {n : Nat} {sl pa : Nat → Nat} {dp : Nat → Int}
theorem Anc.par {a b : Nat} (hb : b ≠ 0) (h : Anc pa a (pa b)) : Anc pa a b := .up hb h
/-- the greatest depth of a true block of the first k slots -/
structure IsH (n : Nat) (sl : Nat → Nat) (dp : Nat → Int) (tr : Nat → Bool) (k : Nat) (h : Int) : Prop where
  nn : 0 ≤ h
  up : ∀ b, 1 ≤ b → b ≤ n → sl b ≤ k → tr b = true → dp b ≤ h
  at_ : h = 0 ∨ ∃ b, 1 ≤ b ∧ b ≤ n ∧ sl b ≤ k ∧ tr b = true ∧ dp b = h
/-- a tree of a row -/
structure OfRow (w : List Nat) (n : Nat) (sl : Nat → Nat) (dp : Nat → Int) : Prop where
  in_ : ∀ b, 1 ≤ b → b ≤ n → 1 ≤ sl b ∧ sl b ≤ w.length ∧ w[sl b - 1]? ≠ some 46
  one : ∀ i, w[i]? = some 104 → ∀ a b, 1 ≤ a → a ≤ n → 1 ≤ b → b ≤ n → sl a = i + 1 → sl b = i + 1 → a = b
  some_ : ∀ i c, w[i]? = some c → isTr c = true → ∃ b, 1 ≤ b ∧ b ≤ n ∧ sl b = i + 1
  deep : ∀ a b, 1 ≤ a → a ≤ n → 1 ≤ b → b ≤ n → isTr (w.getD (sl a - 1) 0) = true → isTr (w.getD (sl b - 1) 0) = true → sl a < sl b → dp a < dp b
def Apart (pa sl : Nat → Nat) (x y s : Nat) : Prop := ∀ c, Anc pa c x → Anc pa c y → sl c < s
theorem Apart.symm {x y s : Nat} (h : Apart pa sl x y s) : Apart pa sl y x s := fun c a b => h c b a
theorem Apart.par {x y s : Nat} (hx : x ≠ 0) (h : Apart pa sl x y s) : Apart pa sl (pa x) y s := fun c a b => h c (.up hx a) b
variable {w : List Nat}
end
end LM

set_option Elab.async false
set_option linter.all false
set_option maxRecDepth 100000
set_option maxHeartbeats 4000000
set_option autoImplicit false
/-! A4: branches, last common blocks; trees as lists of pairs. -/
namespace LM
section
variable {n : Nat} {sl pa : Nat → Nat} {dp : Nat → Int}
end
theorem snoc_ind {α : Type} {P : List α → Prop} (h0 : P []) (hs : ∀ l a, P l → P (l ++ [a])) : ∀ l, P l := by
  have key : ∀ (m : Nat) (l : List α), l.length = m → P l := by
    intro m
    induction m with
    | zero => intro l hl; rw [List.length_eq_zero_iff.mp hl]; exact h0
    | succ m ih =>
      intro l hl
      rcases List.eq_nil_or_concat l with e | ⟨u, a, e⟩
      · rw [e] at hl; simp at hl
      · rw [List.concat_eq_append] at e
        rw [e, List.length_append, List.length_singleton] at hl
        rw [e]
        exact hs u a (ih u (by omega))
  exact fun l => key l.length l rfl
/-! ### trees as lists of pairs of a slot and a parent -/
abbrev Bl := List (Int × Int)
def slI (bl : Bl) (b : Nat) : Int := ((0 : Int) :: bl.map (·.1)).getD b 0
def slN (bl : Bl) (b : Nat) : Nat := (slI bl b).toNat
def paN (bl : Bl) (b : Nat) : Nat := (bl.getD (b - 1) (0, 0)).2.toNat
def dpl (bl : Bl) : List Int := bl.foldl (fun acc p => acc ++ [acc.getD p.2.toNat 0 + 1]) [0]
def dpI (bl : Bl) (b : Nat) : Int := (dpl bl).getD b 0
/-- each block stands on an earlier one of a lesser slot -/
def VT : Bl → Prop := fun bl => ∀ (i : Nat) (p : Int × Int), bl[i]? = some p → 0 ≤ p.2 ∧ p.2 ≤ i ∧ slI bl p.2.toNat < p.1
theorem dpl_snoc (bl : Bl) (p : Int × Int) : dpl (bl ++ [p]) = dpl bl ++ [dpI bl p.2.toNat + 1] := by
  unfold dpl dpI
  rw [List.foldl_append]
  rfl
theorem dpl_len (bl : Bl) : (dpl bl).length = bl.length + 1 := by
  refine snoc_ind (P := fun bl => (dpl bl).length = bl.length + 1) rfl (fun bl p ih => ?_) bl
  rw [dpl_snoc, List.length_append, ih, List.length_append]; rfl
theorem slI_zero (bl : Bl) : slI bl 0 = 0 := rfl
theorem slI_succ {bl : Bl} {i : Nat} {p : Int × Int} (h : bl[i]? = some p) : slI bl (i + 1) = p.1 := by
  unfold slI
  rw [List.getD_cons_succ, List.getD_eq_getElem?_getD, List.getElem?_map, h]
  rfl
theorem slI_app (bl more : Bl) {b : Nat} (hb : b ≤ bl.length) : slI (bl ++ more) b = slI bl b := by
  unfold slI
  cases b with
  | zero => rfl
  | succ i =>
    rw [List.getD_cons_succ, List.getD_cons_succ, List.getD_eq_getElem?_getD, List.getD_eq_getElem?_getD, List.map_append, List.getElem?_append_left (by rw [List.length_map]; omega)]
theorem dpI_app (bl more : Bl) {b : Nat} (hb : b ≤ bl.length) : dpI (bl ++ more) b = dpI bl b := by
  refine snoc_ind (P := fun more => dpI (bl ++ more) b = dpI bl b) (by rw [List.append_nil]) (fun more p ih => ?_) more
  rw [← ih, ← List.append_assoc]
  unfold dpI
  rw [dpl_snoc, List.getD_eq_getElem?_getD, List.getD_eq_getElem?_getD, List.getElem?_append_left (by rw [dpl_len, List.length_append]; omega)]
theorem paN_succ {bl : Bl} {i : Nat} {p : Int × Int} (h : bl[i]? = some p) : paN bl (i + 1) = p.2.toNat := by
  unfold paN
  rw [show i + 1 - 1 = i by omega, List.getD_eq_getElem?_getD, h]
  rfl
theorem dpI_zero (bl : Bl) : dpI bl 0 = 0 := by
  have := dpI_app [] bl (b := 0) (by simp)
  rw [List.nil_append] at this
  rw [this]
  rfl
theorem dpI_succ {bl : Bl} (V : VT bl) {i : Nat} {p : Int × Int} (h : bl[i]? = some p) : dpI bl (i + 1) = dpI bl p.2.toNat + 1 := by
  have hi := (List.getElem?_eq_some_iff.mp h).1
  have e : bl = (bl.take i ++ [p]) ++ bl.drop (i + 1) := by
    have := (List.take_append_drop i bl).symm
    rw [List.drop_eq_getElem_cons hi, (List.getElem?_eq_some_iff.mp h).2] at this
    rw [List.append_assoc]
    exact this
  have hp := V i p h
  have hl : (bl.take i ++ [p]).length = i + 1 := by rw [List.length_append, List.length_take]; simp; omega
  have e1 : dpI bl (i + 1) = dpI (bl.take i ++ [p]) (i + 1) := by
    conv => lhs; rw [e]
    exact dpI_app _ _ (by omega)
  have e2 : dpI bl p.2.toNat = dpI (bl.take i) p.2.toNat := by
    have : dpI bl p.2.toNat = dpI (bl.take i ++ ([p] ++ bl.drop (i + 1))) p.2.toNat := by
      conv => lhs; rw [e]
      rw [List.append_assoc]
    rw [this]
    exact dpI_app _ _ (by rw [List.length_take]; omega)
  rw [e1, e2]
  show (dpl (bl.take i ++ [p])).getD (i + 1) 0 = _
  rw [dpl_snoc, List.getD_eq_getElem?_getD, List.getElem?_append_right (by rw [dpl_len, List.length_take]; omega), dpl_len, List.length_take]
  simp [show i + 1 - (min i bl.length + 1) = 0 by omega]
theorem slI_nn {bl : Bl} (V : VT bl) : ∀ b, b ≤ bl.length → 0 ≤ slI bl b := by
  intro b
  induction b using Nat.strongRecOn with
  | ind b ih =>
    intro hb
    cases b with
    | zero => rw [slI_zero]; omega
    | succ i =>
      obtain ⟨p, hp⟩ : ∃ p, bl[i]? = some p := ⟨bl[i], List.getElem?_eq_getElem (by omega)⟩
      obtain ⟨h1, h2, h3⟩ := V i p hp
      rw [slI_succ hp]
      have := ih p.2.toNat (by omega) (by omega)
      omega
theorem slN_cast {bl : Bl} (V : VT bl) {b : Nat} (hb : b ≤ bl.length) : ((slN bl b : Nat) : Int) = slI bl b := by
  unfold slN
  have := slI_nn V b hb
  omega
theorem VT.tree {bl : Bl} (V : VT bl) : ATree bl.length (slN bl) (paN bl) (dpI bl) := by
  refine ⟨rfl, dpI_zero bl, fun b h1 hb => ?_⟩
  obtain ⟨i, rfl⟩ : ∃ i, b = i + 1 := ⟨b - 1, by omega⟩
  obtain ⟨p, hp⟩ : ∃ p, bl[i]? = some p := ⟨bl[i], List.getElem?_eq_getElem (by omega)⟩
  obtain ⟨q1, q2, q3⟩ := V i p hp
  rw [paN_succ hp]
  refine ⟨by omega, ?_, dpI_succ V hp⟩
  have e1 := slN_cast V (b := p.2.toNat) (by omega)
  have e2 := slN_cast V (b := i + 1) hb
  rw [slI_succ hp] at e2
  omega
theorem VT.snoc {bl : Bl} (V : VT bl) {p : Int × Int} (h1 : 0 ≤ p.2) (h2 : p.2 ≤ bl.length) (h3 : slI bl p.2.toNat < p.1) : VT (bl ++ [p]) := by
  intro i q hq
  by_cases hi : i < bl.length
  · rw [List.getElem?_append_left hi] at hq
    obtain ⟨a, b, c⟩ := V i q hq
    exact ⟨a, b, by rw [slI_app _ _ (by omega)]; exact c⟩
  · rw [List.getElem?_append_right (by omega)] at hq
    have : i = bl.length := by
      have := (List.getElem?_eq_some_iff.mp hq).1
      simp at this
      omega
    subst this
    simp at hq
    subst hq
    exact ⟨h1, h2, by rw [slI_app _ _ (by omega)]; exact h3⟩
theorem VT.nil : VT [] := fun i p h => by simp at h
end LM

set_option Elab.async false
set_option linter.all false
set_option maxRecDepth 100000
set_option maxHeartbeats 4000000
set_option autoImplicit false
/-! BT1: what trees tell: the making of a tree, branches, last common blocks. -/
namespace LB
open VS TL LM
open L2 (atI ixN)
theorem enI_get {α : Type} : ∀ (l : List α) (k j : Nat), (enI k l)[j]? = (l[j]?).map fun x => (((k + j : Nat) : Int), x)
  | [], k, j => by simp [enI]
  | x :: l, k, 0 => by simp [enI]
  | x :: l, k, j + 1 => by
    show (enI (k + 1) l)[j]? = _
    rw [enI_get l (k + 1) j]
    simp only [List.getElem?_cons_succ]
    rw [show k + 1 + j = k + (j + 1) by omega]
theorem enI_len {α : Type} : ∀ (l : List α) (k : Nat), (enI k l).length = l.length
  | [], _ => rfl
  | x :: l, k => by show (enI (k + 1) l).length + 1 = l.length + 1; rw [enI_len l]
/-- a tree of pairs -/
def mkT (bl : Bl) : Tree := ⟨bl, 0 :: bl.map (·.1), none :: bl.map (fun p => some p.2), dpl bl⟩
theorem at_cast {α : Type} {l : List α} {b : Nat} {x : α} (h : l[b]? = some x) : atI l (b : Int) = some x := by
  have hl := (List.getElem?_eq_some_iff.mp h).1
  rw [atI_get (by omega) (by omega), Int.toNat_natCast, h]
theorem at_slot (bl : Bl) {b : Nat} (hb : b ≤ bl.length) : atI (mkT bl).slots (b : Int) = some (slI bl b) := by
  refine at_cast ?_
  show ((0 : Int) :: bl.map (·.1))[b]? = _
  unfold slI
  rw [List.getD_eq_getElem?_getD, List.getElem?_eq_getElem (by simp; omega)]
  rfl
theorem at_depth (bl : Bl) {b : Nat} (hb : b ≤ bl.length) : atI (mkT bl).depths (b : Int) = some (dpI bl b) := by
  refine at_cast ?_
  show (dpl bl)[b]? = _
  unfold dpI
  rw [List.getD_eq_getElem?_getD, List.getElem?_eq_getElem (by rw [dpl_len]; omega)]
  rfl
theorem v_tin (bl : Bl) {b : Int} : d_Tree__contains (mkT bl) b = .ok (decide (0 ≤ b) && decide (b < (bl.length : Int) + 1)) () := by
  unfold d_Tree__contains
  rw [is_int]
  simp only [bind_ok, if_true]
  have : (((mkT bl).slots.length : Nat) : Int) = (bl.length : Int) + 1 := by
    show ((((0 : Int) :: bl.map (·.1)).length : Nat) : Int) = _
    rw [List.length_cons, List.length_map]
    omega
  rw [this]
theorem v_stand {bl : Bl} {slot : Int} {p : Nat} (hp : p ≤ bl.length) : d_Tree_can_stand (mkT bl) slot (p : Int) = .ok (decide (slI bl p < slot)) () := by
  unfold d_Tree_can_stand
  rw [is_int, v_tin]
  have e : (decide ((0 : Int) ≤ (p : Int)) && decide ((p : Int) < (bl.length : Int) + 1)) = true := by
    rw [Bool.and_eq_true, decide_eq_true_eq, decide_eq_true_eq]; omega
  rw [e]
  simp only [bind_ok, if_true, Bool.xor_false, at_slot bl hp, ofO_some]
theorem v_tinit {bl : Bl} (V : VT bl) (hl : bl.length ≤ 100000) : d_Tree__init bl = .ok (mkT bl) () := by
  unfold d_Tree__init
  refine eq_of_sat ?_
  show Sat (O.bind _ _) _
  refine sat_bindE (b := false) rfl ?_
  rw [if_neg (by simp)]
  dsimp only
  refine sat_bind (sat_fold (fun pre (v : Bl × List Int × List (Option Int) × List Int) _ => ∃ q : Bl, pre = enI 0 q ∧ (∃ r, bl = q ++ r) ∧ v = (q, (mkT q).slots, (mkT q).parents, (mkT q).depths)) ⟨[], rfl, ⟨bl, rfl⟩, rfl⟩ ?_) ?_
  · rintro pre x post v ⟨⟩ e ⟨q, rfl, ⟨r, rfl⟩, rfl⟩
    have hx : (enI 0 (q ++ r))[q.length]? = some x := by rw [e, List.getElem?_append_right (by rw [enI_len]; omega), enI_len]; simp
    rw [enI_get] at hx
    cases r with
    | nil => rw [List.append_nil, List.getElem?_eq_none (by omega)] at hx; cases hx
    | cons p r =>
      rw [List.getElem?_append_right (by omega)] at hx
      simp only [Nat.sub_self, List.getElem?_cons_zero, Option.map_some] at hx
      cases hx
      have hq : (q ++ p :: r)[q.length]? = some p := by simp
      obtain ⟨v1, v2, v3⟩ := V q.length p hq
      have hlq : q.length ≤ 99999 := by rw [List.length_append, List.length_cons] at hl; omega
      obtain ⟨m, em⟩ : ∃ m : Nat, p.2 = m := ⟨p.2.toNat, by omega⟩
      have em' : p.2.toNat = m := by omega
      rw [em', slI_app _ _ (by omega)] at v3
      have hcs : d_Tree_can_stand (mkT q) p.1 p.2 = .ok true () := by
        rw [em, v_stand (by omega)]
        rw [decide_eq_true v3]
      have hdp : atI (mkT q).depths p.2 = some (dpI q m) := by rw [em]; exact at_depth q (by omega)
      have hmk : (Tree.mk q (mkT q).slots (mkT q).parents (mkT q).depths) = mkT q := rfl
      have l1 : (mkT q).slots.length < 1000000 := by show ((0 : Int) :: q.map (·.1)).length < _; rw [List.length_cons, List.length_map]; omega
      have l2 : (mkT q).parents.length < 1000000 := by show ((none : Option Int) :: q.map (fun p => some p.2)).length < _; rw [List.length_cons, List.length_map]; omega
      have l3 : (mkT q).depths.length < 1000000 := by show (dpl q).length < _; rw [dpl_len]; omega
      show Sat (O.bind (O.bind (O.bind (O.ok true ()) _) _) _) _
      simp only [bind_ok, Bool.not_true, Bool.false_eq_true, if_false, decide_true, hmk, hcs, noEx, hdp, ofO_some]
      rw [appO_ok (by omega), bind_ok, appO_ok l1, bind_ok, appO_ok l2, bind_ok, appO_ok l3, bind_ok]
      refine sat_ok ⟨q ++ [p], ?_, ⟨r, by simp⟩, ?_⟩
      · apply List.ext_getElem?
        intro j
        rw [enI_get]
        by_cases hj : j < q.length
        · rw [List.getElem?_append_left (by rw [enI_len]; exact hj), List.getElem?_append_left hj, enI_get]
        · rw [List.getElem?_append_right (by rw [enI_len]; omega), List.getElem?_append_right (by omega), enI_len]
          by_cases hj2 : j = q.length
          · subst hj2; simp
          · rw [List.getElem?_eq_none (by simp; omega), List.getElem?_eq_none (by simp; omega)]
            rfl
      · show (q ++ [(p.1, p.2)], (mkT q).slots ++ [p.1], (mkT q).parents ++ [some p.2], (mkT q).depths ++ [dpI q m + 1]) = _
        refine Prod.ext rfl (Prod.ext ?_ (Prod.ext ?_ ?_))
        · show ((0 : Int) :: q.map (·.1)) ++ [p.1] = (0 : Int) :: (q ++ [p]).map (·.1)
          simp
        · show ((none : Option Int) :: q.map (fun p => some p.2)) ++ [some p.2] = (none : Option Int) :: (q ++ [p]).map (fun p => some p.2)
          simp
        · show dpl q ++ [dpI q m + 1] = dpl (q ++ [p])
          rw [dpl_snoc, em']
  · rintro v ⟨⟩ ⟨q, e, ⟨r, e2⟩, rfl⟩
    have : q = bl := by
      have h1 := congrArg List.length e
      rw [enI_len, enI_len] at h1
      have h2 := congrArg List.length e2
      rw [List.length_append] at h2
      have : r = [] := List.length_eq_zero_iff.mp (by omega)
      rw [this, List.append_nil] at e2
      exact e2.symm
    subst this
    exact sat_ok rfl
end LB

set_option Elab.async false
set_option linter.all false
set_option maxRecDepth 100000
set_option maxHeartbeats 4000000
set_option autoImplicit false
/-! SB: numbers, and the rows that lines tell. -/
namespace LB
open VS TL LM
open L2 (atI ixN)
theorem ixS_head {c : Nat} {r : List Nat} (h : r.length < 100000) : ixS (c :: r) (0 : Int) = some ⟨c⟩ := by
  unfold ixS
  rw [if_pos (by rw [List.length_cons]; omega)]
  unfold atI ixN
  rw [if_pos (Int.le_refl _), if_pos (by rw [List.length_cons]; omega)]
  rfl
theorem digs_eq (w : List Nat) : (((w.map Ch.mk).map fun x => (decide (x.c ∈ ([48, 49, 50, 51, 52, 53, 54, 55, 56, 57] : List Nat)))).all id) = digB w := by
  unfold digB
  rw [List.map_map, List.all_map]
  congr 1
  funext c
  show decide (c ∈ [48, 49, 50, 51, 52, 53, 54, 55, 56, 57]) = (decide (48 ≤ c) && decide (c ≤ 57))
  rw [← Bool.decide_and]
  refine decide_eq_decide.mpr ?_
  simp only [List.mem_cons, List.not_mem_nil, or_false]
  omega
theorem intSO_ok {w : List Nat} (h : digB w = true) (hn : w ≠ []) (hl : w.length ≤ 600) : intSO w = some ((PySem.NumText.digitsVal w : Nat) : Int) := by
  unfold intSO
  rw [if_pos ⟨h, hn, by omega⟩]
theorem v_number_of {w : List Nat} (hl : w.length ≤ 600) : d_number_of w = .ok (numV w) () := by
  unfold d_number_of
  by_cases h0 : w = []
  · rw [if_pos (decide_eq_true h0), bind_ok, if_pos rfl, h0, numV_nil]
  · rw [if_neg (by simpa using h0), smL_ok (by rw [List.length_map]; omega)]
    simp only [bind_ok]
    rw [digs_eq]
    cases hd : digB w with
    | false =>
      have : numV w = none := by
        unfold numV
        rw [if_neg]
        intro q
        rw [hd] at q
        exact absurd q.1 (by decide)
      rw [this]
      rfl
    | true =>
      cases w with
      | nil => exact absurd rfl h0
      | cons c r =>
        rw [List.length_cons] at hl
        rw [ixS_head (by omega)]
        simp only [Bool.not_true, Bool.false_eq_true, if_false, ofO_some, bind_ok]
        by_cases hc : c = 48
        · subst hc
          simp only [decide_true, if_true]
          by_cases hr : (48 :: r : List Nat) = [48]
          · have hv : numV (48 :: r) = some ((PySem.NumText.digitsVal (48 :: r) : Nat) : Int) := by
              unfold numV
              rw [if_pos ⟨hd, by simp, fun _ => hr⟩]
            rw [hv]
            simp only [decide_eq_true hr, Bool.not_true, bind_ok, Bool.false_eq_true, if_false]
            rw [intSO_ok hd (by simp) (by rw [List.length_cons]; omega), ofO_some, bind_ok]
          · have hv : numV (48 :: r) = none := by
              unfold numV
              rw [if_neg fun q => hr (q.2.2 rfl)]
            rw [hv]
            simp only [decide_eq_false hr, Bool.not_false, bind_ok, if_true]
        · have hv : numV (c :: r) = some ((PySem.NumText.digitsVal (c :: r) : Nat) : Int) := by
            unfold numV
            rw [if_pos ⟨hd, by simp, fun q => absurd (Option.some.inj q) hc⟩]
          rw [hv]
          simp only [decide_eq_false (fun q : (⟨c⟩ : Ch) = ⟨48⟩ => hc (congrArg Ch.c q)), Bool.false_eq_true, if_false, bind_ok]
          rw [intSO_ok hd (by simp) (by rw [List.length_cons]; omega), ofO_some, bind_ok]
theorem v_law_number {w : List Nat} (hl : w.length ≤ 600) : d_law_number w = .ok (numV w) () := by
  unfold d_law_number
  by_cases h0 : w = []
  · rw [if_pos (decide_eq_true h0), bind_ok, if_pos rfl, h0, numV_nil]
  · rw [if_neg (by simpa using h0), smL_ok (by rw [List.length_map]; omega)]
    simp only [bind_ok]
    rw [digs_eq]
    cases hd : digB w with
    | false =>
      have : numV w = none := by
        unfold numV
        rw [if_neg]
        intro q
        rw [hd] at q
        exact absurd q.1 (by decide)
      rw [this]
      rfl
    | true =>
      cases w with
      | nil => exact absurd rfl h0
      | cons c r =>
        rw [List.length_cons] at hl
        rw [ixS_head (by omega)]
        simp only [Bool.not_true, Bool.false_eq_true, if_false, ofO_some, bind_ok]
        by_cases hc : c = 48
        · subst hc
          simp only [decide_true, Bool.not_true, Bool.false_eq_true, if_false]
          by_cases hr : (48 :: r : List Nat) = [48]
          · have hv : numV (48 :: r) = some ((PySem.NumText.digitsVal (48 :: r) : Nat) : Int) := by
              unfold numV
              rw [if_pos ⟨hd, by simp, fun _ => hr⟩]
            rw [hv]
            simp only [decide_eq_true hr, bind_ok, if_true]
            rw [intSO_ok hd (by simp) (by rw [List.length_cons]; omega), ofO_some, bind_ok]
          · have hv : numV (48 :: r) = none := by
              unfold numV
              rw [if_neg fun q => hr (q.2.2 rfl)]
            rw [hv]
            simp only [decide_eq_false hr, bind_ok, Bool.false_eq_true, if_false]
        · have hv : numV (c :: r) = some ((PySem.NumText.digitsVal (c :: r) : Nat) : Int) := by
            unfold numV
            rw [if_pos ⟨hd, by simp, fun q => absurd (Option.some.inj q) hc⟩]
          rw [hv]
          simp only [decide_eq_false (fun q : (⟨c⟩ : Ch) = ⟨48⟩ => hc (congrArg Ch.c q)), Bool.not_false, if_true, bind_ok]
          rw [intSO_ok hd (by simp) (by rw [List.length_cons]; omega), ofO_some, bind_ok]
/-! ### a line of a row -/
def kindB (p : List Nat) : Bool := decide (p = [104]) || (decide (p = [72]) || (decide (p = [46]) || decide (p = [65])))
def lineR (last l : List Nat) : Option (List Nat × Int) := match TL.par [32] [] l with
  | some (p, q) => if kindB p = true ∧ p ≠ last then (match numV q with
    | some v => if v ≠ 0 then some (p, v) else none
    | none => none) else none
  | none => none
theorem partO_ok {l : List Nat} (hl : l.length ≤ 1000) : partO l [32] = some ⟨(partL [32] l).1, (partL [32] l).2.1, (partL [32] l).2.2⟩ := by
  unfold partO
  rw [if_pos ⟨by simp, by omega⟩]
theorem splitO_ok {l : List Nat} {c : Nat} (hc : c < 256) (hl : l.length ≤ 100000) : splitO l [c] = some (splitL [c] l) := by
  unfold splitO
  rw [if_pos ⟨by simp, by omega, by simpa using hc⟩]
theorem line_none {l : List Nat} (h : 32 ∉ l) (last : List Nat) : lineR last l = none := by
  unfold lineR
  rw [SX.par_head_none (sep := []) h]
theorem line_some {p q : List Nat} (h : 32 ∉ p) (last : List Nat) : lineR last (p ++ 32 :: q) = if kindB p = true ∧ p ≠ last then (match numV q with
    | some v => if v ≠ 0 then some (p, v) else none
    | none => none) else none := by
  unfold lineR
  rw [show TL.par [32] [] (p ++ 32 :: q) = some (p, q) from SX.par_head (sep := []) q h]
theorem kindB_in {p : List Nat} : kindB p = true ↔ ∃ c, p = [c] ∧ c ∈ ([104, 72, 46, 65] : List Nat) := by
  unfold kindB
  simp only [Bool.or_eq_true, decide_eq_true_eq]
  constructor
  · rintro (h | h | h | h) <;> exact ⟨_, h, by simp⟩
  · rintro ⟨c, rfl, h⟩
    simp only [List.mem_cons, List.not_mem_nil, or_false] at h
    rcases h with rfl | rfl | rfl | rfl <;> simp
def bodyRR : Int × List Nat → (List ((List Nat) × (Int))) × (List Nat) → Unit → P ((List ((List Nat) × (Int))) × (List Nat)) := fun i_433 (v_432 : (List ((List Nat) × (Int))) × (List Nat)) _ => (O.bind (ofO (partO i_433.2 [(Ch.mk 32).c]) ()) fun p_437 _ =>
    (O.bind (d_number_of (p_437.c)) fun many_453 _ =>
    (O.bind (O.bind (O.bind (ofO (lenS p_437.a) ()) fun x_473 _ => .ok ((!decide (x_473 = (1 : Int)))) ()) fun b_472 _ => if b_472 = true then .ok true () else (O.bind (ofO ((inB (En.e p_437.a) (En.e ([104, 72, 46, 65] : List Nat))).map fun c => !c) ()) fun b_474 _ => if b_474 = true then .ok true () else (if (decide (p_437.a = v_432.2)) = true then .ok true () else (if many_453.isNone = true then .ok true () else (O.bind (ofO (many_453) ()) fun x_475 _ => .ok ((decide (x_475 = (0 : Int)))) ()))))) fun b_471 _ => if b_471 = true then (O.bind (.ok (i_433.1 + (2 : Int)) ()) fun x_456 _ => .ex 500 [(5, En.e x_456)] ()) else
    (O.bind (O.bind (ofO (many_453) ()) fun x_477 _ => .ok ((p_437.a, x_477)) ()) fun y_476 _ => O.bind (appO v_432.1 y_476 ()) fun found_457 _ =>
    (let last_459 := p_437.a; (.ok (found_457, last_459) ()))))))
theorem in_kinds (p : List Nat) (hp : p.length = 1) : (inB (En.e p) (En.e ([104, 72, 46, 65] : List Nat))).map (fun c => !c) = some (!kindB p) := by
  match p, hp with
  | [c], _ =>
    show (some (decide (c ∈ ([104, 72, 46, 65] : List Nat)))).map (fun c => !c) = _
    rw [Option.map_some]
    congr 2
    rw [Bool.eq_iff_iff, decide_eq_true_iff, kindB_in]
    constructor
    · intro h; exact ⟨c, rfl, h⟩
    · rintro ⟨d, e, h⟩
      have : c = d := by simpa using e
      rw [this]; exact h
theorem bodyRR_ok {at_ : Int} {l last : List Nat} {found : List (List Nat × Int)} (hl : l.length ≤ 600) (hf : found.length < 1000) :
    bodyRR (at_, l) (found, last) () = match lineR last l with
      | some (p, v) => .ok (found ++ [(p, v)], p) ()
      | none => .ex 500 [(5, .int (at_ + 2))] () := by
  unfold bodyRR
  dsimp only
  rw [show partO l [32] = _ from partO_ok (by omega), ofO_some, bind_ok]
  rcases part_split l with ⟨h, e, _⟩ | ⟨p, q, rfl, hp, e, _⟩
  · rw [e, line_none h]
    dsimp only
    rw [v_number_of (by simp), bind_ok, numV_nil, lenS_ok (by omega), ofO_some, bind_ok]
    by_cases h1 : l.length = 1
    · rw [decide_eq_true (by omega : (l.length : Int) = 1), in_kinds l h1]
      simp only [Bool.not_true, bind_ok, Bool.false_eq_true, if_false, ofO_some]
      cases kindB l
      · rfl
      · by_cases h2 : l = last
        · rw [decide_eq_true h2]; rfl
        · rw [decide_eq_false h2]; rfl
    · rw [decide_eq_false (by omega : ¬ (l.length : Int) = 1)]
      rfl
  · rw [e]
    have hlen : (p ++ 32 :: q).length = p.length + (q.length + 1) := by simp
    dsimp only
    rw [v_number_of (by omega), bind_ok, lenS_ok (by omega), ofO_some, bind_ok]
    by_cases h1 : p.length = 1
    · rw [decide_eq_true (by omega : (p.length : Int) = 1), in_kinds p h1]
      simp only [Bool.not_true, bind_ok, Bool.false_eq_true, if_false, ofO_some]
      cases hk : kindB p with
      | false =>
        have e9 : lineR last (p ++ 32 :: q) = none := by rw [line_some hp, if_neg (fun z => absurd z.1 (by rw [hk]; decide))]
        rw [e9]
        rfl
      | true =>
        by_cases h2 : p = last
        · have e9 : lineR last (p ++ 32 :: q) = none := by rw [line_some hp, if_neg (fun z => z.2 h2)]
          rw [e9, decide_eq_true h2]
          rfl
        · rw [decide_eq_false h2]
          simp only [Bool.not_true, Bool.false_eq_true, if_false]
          cases hv : numV q with
          | none =>
            have e9 : lineR last (p ++ 32 :: q) = none := by rw [line_some hp, if_pos ⟨hk, h2⟩, hv]
            rw [e9]
            rfl
          | some v =>
            simp only [Option.isNone_some, Bool.false_eq_true, if_false, ofO_some, bind_ok]
            by_cases h0 : v = 0
            · have e9 : lineR last (p ++ 32 :: q) = none := by
                rw [line_some hp, if_pos ⟨hk, h2⟩, hv]
                exact if_neg (fun z => z h0)
              rw [e9, decide_eq_true h0]
              rfl
            · have e9 : lineR last (p ++ 32 :: q) = some (p, v) := by
                rw [line_some hp, if_pos ⟨hk, h2⟩, hv]
                exact if_pos h0
              rw [e9, decide_eq_false h0]
              simp only [Bool.false_eq_true, if_false]
              rw [appO_ok (by omega), bind_ok]
    · have e9 : lineR last (p ++ 32 :: q) = none := by
        rw [line_some hp, if_neg]
        intro z
        obtain ⟨c, e2, _⟩ := kindB_in.mp z.1
        rw [e2] at h1
        exact h1 rfl
      rw [e9, decide_eq_false (by omega : ¬ (p.length : Int) = 1)]
      rfl
/-- the lines of a row: the first that is refused, or what they tell -/
def rowGo : List (List Nat) → List Nat → Nat → Nat ⊕ List (List Nat × Int)
  | [], _, _ => .inr []
  | l :: ls, last, k => match lineR last l with
    | none => .inl k
    | some (p, v) => match rowGo ls p (k + 1) with
      | .inl j => .inl j
      | .inr r => .inr ((p, v) :: r)
theorem rr_fold : ∀ (ls : List (List Nat)) (last : List Nat) (k : Nat) (found : List (List Nat × Int)), (∀ l ∈ ls, l.length ≤ 600) → found.length + ls.length < 1000 →
    foldO bodyRR (enI k ls) (found, last) () = match rowGo ls last k with
      | .inl j => .ex 500 [(5, .int ((j : Int) + 2))] ()
      | .inr r => .ok (found ++ r, (r.getLast?.map (·.1)).getD last) ()
  | [], last, k, found, _, _ => by simp [rowGo, enI, foldO]
  | l :: ls, last, k, found, h, hf => by
    rw [List.length_cons] at hf
    show foldO bodyRR (((k : Int), l) :: enI (k + 1) ls) (found, last) () = _
    rw [foldO, bodyRR_ok (h l (by simp)) (by omega)]
    unfold rowGo
    cases e : lineR last l with
    | none => rfl
    | some x =>
      obtain ⟨p, v⟩ := x
      simp only
      rw [bind_ok, rr_fold ls p (k + 1) (found ++ [(p, v)]) (fun x hx => h x (by simp [hx])) (by rw [List.length_append]; simp; omega)]
      cases rowGo ls p (k + 1) with
      | inl j => rfl
      | inr r =>
        simp only [List.append_assoc, List.singleton_append]
        congr 2
        cases r with
        | nil => rfl
        | cons y r =>
          rw [List.getLast?_cons_cons]
          cases hq : (y :: r).getLast? with
          | none => simp at hq
          | some z => rfl
theorem lineR_ok {last l p : List Nat} {v : Int} (h : lineR last l = some (p, v)) : kindB p = true ∧ p ≠ last ∧ l = p ++ 32 :: strI v ∧ 0 < v := by
  by_cases hm : 32 ∈ l
  · obtain ⟨a, q, rfl, ha⟩ := List.eq_append_cons_of_mem hm
    rw [line_some ha] at h
    by_cases z : kindB a = true ∧ a ≠ last
    · rw [if_pos z] at h
      cases hv : numV q with
      | none => rw [hv] at h; cases h
      | some w =>
        rw [hv] at h
        obtain ⟨h1, h2, h3, h4⟩ := numV_some hv
        by_cases h0 : w ≠ 0
        · have h : (if w ≠ 0 then some (a, w) else none) = some (p, v) := h
          rw [if_pos h0] at h
          cases h
          exact ⟨z.1, z.2, by rw [h2], by omega⟩
        · have h : (if w ≠ 0 then some (a, w) else none) = some (p, v) := h
          rw [if_neg h0] at h
          cases h
    · rw [if_neg z] at h; cases h
  · rw [line_none hm] at h; cases h
end LB

set_option Elab.async false
set_option linter.all false
set_option maxRecDepth 100000
set_option maxHeartbeats 4000000
set_option autoImplicit false
/-! SC: the law's look at a row's lines; a row read and written. -/
namespace LB
open VS TL LM
open L2 (atI ixN)
theorem eqFb_str (a w : List Nat) : eqFb (.str a) (.str w) = decide (w = a) := by
  show (a == w) = _
  by_cases h : w = a
  · rw [h]; simp
  · rw [decide_eq_false h]
    exact beq_eq_false_iff_ne.mpr fun q => h q.symm
theorem in4 (w : List Nat) : (inB (En.e w) (En.e (T4.mk (Ch.mk 104) (Ch.mk 72) (Ch.mk 46) (Ch.mk 65)))).map (fun c => !c) = some (!kindB w) := by
  show (some (([F.str [104], .str [72], .str [46], .str [65]]).any fun y => eqFb y (.str w))).map _ = _
  rw [Option.map_some]
  congr 2
  simp only [List.any_cons, List.any_nil, eqFb_str, Bool.or_false, kindB]
def zeroB : Option Int → Bool
  | none => true
  | some v => decide (v = 0)
theorem inN0 (x : Option Int) : inB (En.e x) (En.e ((), (0 : Int))) = some (zeroB x) := by
  cases x with
  | none => rfl
  | some v =>
    show some (([F.non, .int 0]).any fun y => eqFb y (.int v)) = _
    have h1 : eqFb (.non) (.int v) = false := rfl
    have h2 : eqFb (.int 0) (.int v) = decide (v = 0) := by
      show ((0 : Int) == v) = _
      by_cases h : v = 0
      · rw [h]; rfl
      · rw [decide_eq_false h]
        exact beq_eq_false_iff_ne.mpr fun q => h q.symm
    simp only [List.any_cons, List.any_nil, h1, h2, Bool.or_false, Bool.false_or]
    rfl
theorem at0 {α : Type} (a : α) (l : List α) : atI (a :: l) (0 : Int) = some a := by
  unfold atI ixN
  rw [if_pos (Int.le_refl _), if_pos (by rw [List.length_cons]; omega)]
  rfl
theorem at1 {α : Type} (a b : α) (l : List α) : atI (a :: b :: l) (1 : Int) = some b := by
  unfold atI ixN
  rw [if_pos (by decide), if_pos (by rw [List.length_cons, List.length_cons]; omega)]
  rfl
def bodyRF : Int × List Nat → List Nat → Unit → P (Fl (List Nat) (Option Int)) := fun i_337 (v_336 : (List Nat)) _ => (O.bind (ofO (splitO i_337.2 [(Ch.mk 32).c]) ()) fun words_341 _ =>
    (O.bind (if (!decide (((words_341).length : Int) = (2 : Int))) = true then .ok true () else (O.bind (O.bind (ofO (atI words_341 (0 : Int)) ()) fun x_351 _ => ofO ((inB (En.e x_351) (En.e (T4.mk (Ch.mk 104) (Ch.mk 72) (Ch.mk 46) (Ch.mk 65)))).map fun c => !c) ()) fun b_350 _ => if b_350 = true then .ok true () else (O.bind (ofO (atI words_341 (0 : Int)) ()) fun x_352 _ => .ok ((decide (x_352 = v_336))) ()))) fun b_349 _ => if b_349 = true then (.ok (.rt (some (i_337.1 + (2 : Int)))) ()) else
    (O.bind (O.bind (O.bind (ofO (atI words_341 (1 : Int)) ()) fun x_355 _ => d_law_number (x_355)) fun x_354 _ => ofO ((inB (En.e x_354) (En.e ((), (0 : Int))))) ()) fun b_353 _ => if b_353 = true then (.ok (.rt (some (i_337.1 + (2 : Int)))) ()) else
    (O.bind (ofO (atI words_341 (0 : Int)) ()) fun last_345 _ =>
    (.ok (.nx last_345) ())))))
theorem bodyRF_ok {at_ : Int} {l last : List Nat} (hl : l.length ≤ 600) :
    bodyRF (at_, l) last () = match lineR last l with
      | some (p, _) => .ok (.nx p) ()
      | none => .ok (.rt (some (at_ + 2))) () := by
  unfold bodyRF
  dsimp only
  rw [show splitO l [32] = _ from splitO_ok (by decide) (by omega), ofO_some, bind_ok]
  rcases part_split l with ⟨h, _, e⟩ | ⟨p, q, rfl, hp, _, e⟩
  · rw [e, line_none h]
    rfl
  · rw [e]
    have hlen : (p ++ 32 :: q).length = p.length + (q.length + 1) := by simp
    rcases split_one q with ⟨e2, hq⟩ | ⟨hq, h2⟩
    · rw [e2]
      simp only [List.length_cons, List.length_nil, at0, at1, ofO_some, bind_ok, in4]
      rw [if_neg (by simp)]
      cases hk : kindB p with
      | false =>
        have e9 : lineR last (p ++ 32 :: q) = none := by rw [line_some hp, if_neg (fun z => absurd z.1 (by rw [hk]; decide))]
        rw [e9]
        rfl
      | true =>
        by_cases h2 : p = last
        · have e9 : lineR last (p ++ 32 :: q) = none := by rw [line_some hp, if_neg (fun z => z.2 h2)]
          rw [e9, decide_eq_true h2]
          rfl
        · rw [decide_eq_false h2]
          simp only [Bool.not_true, Bool.false_eq_true, if_false, bind_ok]
          rw [v_law_number (by omega), bind_ok, inN0, ofO_some, bind_ok]
          cases hv : numV q with
          | none =>
            have e9 : lineR last (p ++ 32 :: q) = none := by rw [line_some hp, if_pos ⟨hk, h2⟩, hv]
            rw [e9]
            rfl
          | some v =>
            rw [show zeroB (some v) = decide (v = 0) from rfl]
            by_cases h0 : v = 0
            · have e9 : lineR last (p ++ 32 :: q) = none := by
                rw [line_some hp, if_pos ⟨hk, h2⟩, hv]
                exact if_neg (fun z => z h0)
              rw [e9, decide_eq_true h0]
              rfl
            · have e9 : lineR last (p ++ 32 :: q) = some (p, v) := by
                rw [line_some hp, if_pos ⟨hk, h2⟩, hv]
                exact if_pos h0
              rw [e9, decide_eq_false h0]
              rfl
    · have e9 : lineR last (p ++ 32 :: q) = none := by
        rw [line_some hp, numV_free hq]
        split <;> rfl
      rw [e9, decide_eq_false (by rw [List.length_cons]; omega : ¬ (((p :: splitL [32] q).length : Nat) : Int) = 2)]
      rfl
theorem rf_for : ∀ (ls : List (List Nat)) (last : List Nat) (k : Nat), (∀ l ∈ ls, l.length ≤ 600) → ∃ z,
    forO bodyRF (enI k ls) last () = match rowGo ls last k with
      | .inl j => .ok (.rt (some ((j : Int) + 2))) ()
      | .inr _ => .ok (.nx z) ()
  | [], last, k, _ => ⟨last, rfl⟩
  | l :: ls, last, k, h => by
    show ∃ z, forO bodyRF (((k : Int), l) :: enI (k + 1) ls) last () = _
    rw [forO, bodyRF_ok (h l (by simp))]
    unfold rowGo
    cases e : lineR last l with
    | none => exact ⟨[], rfl⟩
    | some x =>
      obtain ⟨p, v⟩ := x
      obtain ⟨z, hz⟩ := rf_for ls p (k + 1) fun x hx => h x (by simp [hx])
      refine ⟨z, ?_⟩
      simp only
      rw [bind_ok]
      show forO bodyRF (enI (k + 1) ls) p () = _
      rw [hz]
      cases rowGo ls p (k + 1) <;> rfl
def faultN {α : Type} : Nat ⊕ α → Option Int
  | .inl j => some ((j : Int) + 2)
  | .inr _ => none
theorem v_row_fault {h : List Nat} {ls : List (List Nat)} (hl : ∀ l ∈ ls, l.length ≤ 600) : d_law_row_fault (h :: ls) = .ok (faultN (rowGo ls [] 0)) () := by
  obtain ⟨z, hz⟩ := rf_for ls [] 0 hl
  have e1 : cutL (h :: ls) (some (1 : Int)) none = ls := cutL_from (h :: ls) (a := 1) (by simp)
  unfold d_law_row_fault
  dsimp only
  rw [e1]
  show O.bind (forO bodyRF (enI 0 ls) [] ()) _ = _
  rw [hz]
  cases rowGo ls [] 0 <;> rfl
/-! ### a row read -/
def alt : List Nat → List (List Nat × Int) → Prop
  | _, [] => True
  | last, p :: r => p.1 ≠ last ∧ alt p.1 r
theorem rowGo_ok : ∀ {ls : List (List Nat)} {last : List Nat} {k : Nat} {r : List (List Nat × Int)}, rowGo ls last k = .inr r →
    ls = r.map (fun p => p.1 ++ 32 :: strI p.2) ∧ (∀ p ∈ r, kindB p.1 = true ∧ 0 < p.2) ∧ alt last r
  | [], last, k, r, h => by
    cases h
    exact ⟨rfl, by simp, trivial⟩
  | l :: ls, last, k, r, h => by
    unfold rowGo at h
    cases e : lineR last l with
    | none => rw [e] at h; cases h
    | some x =>
      obtain ⟨p, v⟩ := x
      rw [e] at h
      simp only at h
      cases e2 : rowGo ls p (k + 1) with
      | inl j => rw [e2] at h; cases h
      | inr r2 =>
        rw [e2] at h
        cases h
        obtain ⟨h1, h2, h3, h4⟩ := lineR_ok e
        obtain ⟨i1, i2, i3⟩ := rowGo_ok e2
        refine ⟨by rw [List.map_cons, ← i1, ← h3], fun q hq => ?_, h2, i3⟩
        rcases List.mem_cons.mp hq with z | z
        · rw [z]; exact ⟨h1, h4⟩
        · exact i2 q z
theorem mrg_alt : ∀ (sg v : Rn), (∀ l, v.getLast? = some l → ∀ p, sg.head? = some p → p.1 ≠ l.1) → alt [] (sg.map fun p => ([p.1.c], p.2)) ∨ True → sg.Pairwise (fun _ _ => True) → (∀ (a b : Rn) (x y : Ch × Int), sg = a ++ x :: y :: b → x.1 ≠ y.1) → sg.foldl mrg v = v ++ sg
  | [], v, _, _, _, _ => by simp
  | p :: sg, v, h, _, _, hc => by
    have e : mrg v p = v ++ [p] := by
      unfold mrg
      cases q : v.getLast? with
      | none => simp [List.getLast?_eq_none_iff.mp q]
      | some l =>
        have := h l q p rfl
        simp only
        rw [if_neg (fun z => this z.symm)]
    rw [List.foldl_cons, e, mrg_alt sg (v ++ [p]) (fun l hl q hq => ?_) (.inr trivial) (List.pairwise_iff_forall_sublist.mpr fun _ => trivial) (fun a b x y z => hc (p :: a) b x y (by rw [z]; rfl)), List.append_assoc]
    · rfl
    · rw [List.getLast?_concat] at hl
      cases hl
      cases sg with
      | nil => cases hq
      | cons y r =>
        cases hq
        exact fun z => hc [] r p q rfl z.symm
theorem alt_mid : ∀ (a : List (List Nat × Int)) (last : List Nat) (x y : List Nat × Int) (b : List (List Nat × Int)), alt last (a ++ x :: y :: b) → x.1 ≠ y.1
  | [], last, x, y, b, h => fun z => h.2.1 z.symm
  | p :: a, last, x, y, b, h => alt_mid a p.1 x y b h.2
/-- a row that lines have told, its runs -/
theorem runs_of {r : List (List Nat × Int)} (hr : ∀ p ∈ r, kindB p.1 = true ∧ 0 < p.2) (ha : alt [] r) (hl : r.length ≤ 900) (hb : ∀ p ∈ r, p.2 < 2 ^ 64) :
    ∃ sg : Rn, r = sg.map (fun p => ([p.1.c], p.2)) ∧ RnOk sg ∧ d_Row_runs ⟨r⟩ = .ok sg () := by
  let sg : Rn := r.map fun p => (⟨p.1.headD 0⟩, p.2)
  have er : r = sg.map (fun p => ([p.1.c], p.2)) := by
    show r = (r.map _).map _
    rw [List.map_map]
    conv => lhs; rw [← List.map_id r]
    refine List.map_congr_left fun p hp => ?_
    obtain ⟨c, e, _⟩ := kindB_in.mp (hr p hp).1
    show p = ([p.1.headD 0], p.2)
    rw [e]
    exact Prod.ext e rfl
  have hok : RnOk sg := fun q hq => by
    obtain ⟨p, hp, rfl⟩ := List.mem_map.mp hq
    obtain ⟨c, e, hc⟩ := kindB_in.mp (hr p hp).1
    show isK (p.1.headD 0) = true
    rw [e]
    show isK c = true
    simp only [List.mem_cons, List.not_mem_nil, or_false] at hc
    rcases hc with rfl | rfl | rfl | rfl <;> rfl
  refine ⟨sg, er, hok, ?_⟩
  have hlen : sg.length = r.length := List.length_map _
  have h1 := v_runs1 hok (by omega) fun q hq => by
    obtain ⟨p, hp, rfl⟩ := List.mem_map.mp hq
    have := (hr p hp).2
    have := hb p hp
    show -(2 ^ 64) < p.2 ∧ p.2 < 2 ^ 64
    omega
  rw [← er] at h1
  rw [h1, mrg_alt sg [] (fun l h => by simp at h) (.inr trivial) (List.pairwise_iff_forall_sublist.mpr fun _ => trivial) ?_]
  · rfl
  · intro a b x y e z
    have e2 : r = a.map (fun p => ([p.1.c], p.2)) ++ ([x.1.c], x.2) :: ([y.1.c], y.2) :: b.map (fun p => ([p.1.c], p.2)) := by
      rw [er, e]
      simp
    rw [e2] at ha
    exact alt_mid _ _ _ _ _ ha (by show [x.1.c] = [y.1.c]; rw [z])
theorem strO_ok {v : Int} (h0 : 0 ≤ v) (h : v < 2 ^ 64) : strO v = some (strI v) := by
  unfold strO
  rw [if_pos]
  by_cases q : v.natAbs = 0
  · rw [q]; decide
  · have h1 := (Nat.log2_lt q (k := 64)).mpr (by omega)
    omega
end LB

set_option Elab.async false
set_option linter.all false
set_option maxRecDepth 100000
set_option maxHeartbeats 4000000
set_option autoImplicit false
/-! SD: rows and trees read and written. -/
namespace LB
open VS TL LM
open L2 (atI ixN)
theorem mapO_eqP {α β : Type} {v : β → Unit → P α} {g : β → α} : ∀ (xs : List β), (∀ x ∈ xs, v x () = .ok (g x) ()) → mapO v xs () = .ok (xs.map g) ()
  | [], _ => rfl
  | x :: xs, h => by
    rw [mapO, h x (by simp), bind_ok, mapO_eqP xs fun y hy => h y (by simp [hy]), bind_ok]
    rfl
/-- how long lines are -/
structure Bd (ls : List (List Nat)) : Prop where
  n : ls.length ≤ 500
  l : ∀ l ∈ ls, l.length ≤ 19
theorem joinS_ok2 {ls : List (List Nat)} (h : Bd ls) : joinS [10] ls = some (VS.joinL [10] ls) := by
  unfold joinS
  rw [if_pos]
  refine decide_eq_true ?_
  have : ∀ l : List (List Nat), (∀ x ∈ l, x.length ≤ 19) → (l.map List.length).sum ≤ 19 * l.length := by
    intro l
    induction l with
    | nil => intro _; simp
    | cons a l ih =>
      intro h
      rw [List.map_cons, List.sum_cons, List.length_cons]
      have := h a (by simp)
      have := ih fun x hx => h x (by simp [hx])
      omega
  have h1 := this ls h.l
  have := h.n
  show (ls.map List.length).sum + ls.length * 1 ≤ 1000000
  omega
theorem digs_bound : ∀ (w : List Nat) (acc : Nat), digB w = true → w.foldl (fun acc c => acc * 10 + (c - 48)) acc < (acc + 1) * 10 ^ w.length
  | [], acc, _ => by simp
  | c :: w, acc, h => by
    unfold digB at h
    rw [List.all_cons, Bool.and_eq_true, Bool.and_eq_true, decide_eq_true_iff, decide_eq_true_iff] at h
    have := digs_bound w (acc * 10 + (c - 48)) h.2
    rw [List.foldl_cons, List.length_cons, Nat.pow_succ]
    refine Nat.lt_of_lt_of_le this ?_
    rw [Nat.mul_comm (10 ^ w.length) 10, ← Nat.mul_assoc]
    exact Nat.mul_le_mul_right _ (by omega)
theorem numV_lt {w : List Nat} {v : Int} (h : numV w = some v) (hl : w.length ≤ 19) : v < 2 ^ 64 := by
  obtain ⟨h1, h2, h3, h4⟩ := numV_some h
  unfold numV at h
  split at h
  · cases h
    have h5 := digs_bound w 0 h3
    have h6 : PySem.NumText.digitsVal w < (0 + 1) * 10 ^ w.length := h5
    have h7 : 10 ^ w.length ≤ 10 ^ 19 := Nat.pow_le_pow_right (by decide) hl
    have h8 : (10 : Nat) ^ 19 < 2 ^ 64 := by decide
    omega
  · cases h
theorem lineR_num {last l p : List Nat} {v : Int} (h : lineR last l = some (p, v)) (hl : l.length ≤ 19) : v < 2 ^ 64 := by
  by_cases hm : 32 ∈ l
  · obtain ⟨a, q, rfl, ha⟩ := List.eq_append_cons_of_mem hm
    have hlen : (a ++ 32 :: q).length = a.length + (q.length + 1) := by simp
    rw [line_some ha] at h
    split at h
    · cases hv : numV q with
      | none => rw [hv] at h; cases h
      | some w =>
        rw [hv] at h
        have h : (if w ≠ 0 then some (a, w) else none) = some (p, v) := h
        split at h
        · cases h
          exact numV_lt hv (by omega)
        · cases h
    · cases h
  · rw [line_none hm] at h; cases h
theorem rowGo_num : ∀ {ls : List (List Nat)} {last : List Nat} {k : Nat} {r : List (List Nat × Int)}, rowGo ls last k = .inr r → (∀ l ∈ ls, l.length ≤ 19) → ∀ p ∈ r, p.2 < 2 ^ 64
  | [], last, k, r, h, _ => by cases h; simp
  | l :: ls, last, k, r, h, hb => by
    unfold rowGo at h
    cases e : lineR last l with
    | none => rw [e] at h; cases h
    | some x =>
      obtain ⟨p, v⟩ := x
      rw [e] at h
      simp only at h
      cases e2 : rowGo ls p (k + 1) with
      | inl j => rw [e2] at h; cases h
      | inr r2 =>
        rw [e2] at h
        cases h
        intro q hq
        rcases List.mem_cons.mp hq with z | z
        · rw [z]; exact lineR_num e (hb l (by simp))
        · exact rowGo_num e2 (fun y hy => hb y (by simp [hy])) q z
/-! ### rows -/
theorem v_row_read {ls : List (List Nat)} (h : Bd ls) : d_row_read ls = match rowGo ls [] 0 with
    | .inl j => .ex 500 [(5, .int ((j : Int) + 2))] ()
    | .inr r => .ok ⟨r⟩ () := by
  have e := rr_fold ls [] 0 [] (fun l hl => by have := h.l l hl; omega) (by have := h.n; simp; omega)
  unfold d_row_read
  dsimp only
  show O.bind (foldO bodyRR (enI 0 ls) ([], []) ()) _ = _
  rw [e]
  cases q : rowGo ls [] 0 with
  | inl j => rfl
  | inr r =>
    obtain ⟨h1, h2, _⟩ := rowGo_ok q
    have hl : r.length ≤ 500 := by
      have := h.n
      rw [h1, List.length_map] at this
      exact this
    have hp : d_Pieces__init r = .ok ⟨r⟩ () := by
      unfold d_Pieces__init
      rw [smL_ok (by omega), bind_ok, bind_ok]
      have e1 : r.filter (fun x_464 => ((!decide (x_464.1 = ([] : List Nat))) && (decide ((0 : Int) < x_464.2)))) = r := List.filter_eq_self.mpr fun p hp => by
        obtain ⟨h3, h4⟩ := h2 p hp
        obtain ⟨c, e, _⟩ := kindB_in.mp h3
        rw [e, decide_eq_true h4]
        rfl
      rw [e1]
      have e2 : r.map (fun x_464 => (x_464.1, x_464.2)) = r := List.map_id' r
      rw [e2]
    simp only [List.nil_append]
    rw [bind_ok, hp, bind_ok]
    rfl
theorem row_written {ls : List (List Nat)} {r : List (List Nat × Int)} (h : Bd ([114, 111, 119] :: ls)) (q : rowGo ls [] 0 = .inr r) : d_write_Row ⟨r⟩ = .ok (VS.joinL [10] ([114, 111, 119] :: ls)) () := by
  obtain ⟨h1, h2, h3⟩ := rowGo_ok q
  have hn := h.n
  rw [List.length_cons] at hn
  have hl : r.length ≤ 500 := by
    rw [h1, List.length_map] at hn
    omega
  have hb := rowGo_num q fun l hl => h.l l (by simp [hl])
  obtain ⟨sg, er, hok, hrun⟩ := runs_of h2 h3 (by omega) hb
  have hsl : sg.length = r.length := by rw [er, List.length_map]
  unfold d_write_Row d_row_of_Row
  rw [bind_ok, hrun, bind_ok, bind_ok, smL_ok (by omega), bind_ok]
  rw [mapO_eqP (g := fun p : Ch × Int => [p.1.c] ++ 32 :: strI p.2) sg fun p hp => by
    have hm : ([p.1.c], p.2) ∈ r := by rw [er]; exact List.mem_map_of_mem hp
    have hv := (h2 _ hm).2
    have hv2 := hb _ hm
    have hx : ([p.1.c] ++ 32 :: strI p.2) ∈ ls := by rw [h1]; exact List.mem_map_of_mem (f := fun p : List Nat × Int => p.1 ++ 32 :: strI p.2) hm
    have hxl := h.l _ (List.mem_cons_of_mem _ hx)
    rw [List.length_append, List.length_cons] at hxl
    rw [addS_ok (by simp), ofO_some, bind_ok, strO_ok (by omega) hv2, ofO_some, bind_ok, addS_ok (by simp at hxl ⊢; omega), ofO_some]
    simp]
  rw [bind_ok]
  have e3 : sg.map (fun p : Ch × Int => [p.1.c] ++ 32 :: strI p.2) = ls := by
    rw [h1, er, List.map_map]
    rfl
  rw [e3, addL_ok (by simp; omega), ofO_some, bind_ok]
  rw [show joinS [(Ch.mk 10).c] ([[114, 111, 119]] ++ ls) = some (VS.joinL [10] ([114, 111, 119] :: ls)) from joinS_ok2 h, ofO_some]
end LB

set_option Elab.async false
set_option linter.all false
set_option maxRecDepth 100000
set_option maxHeartbeats 4000000
set_option autoImplicit false
/-! SE: trees read and written. -/
namespace LB
open VS TL LM
open L2 (atI ixN)
def lineT (bl : Bl) (l : List Nat) : Option (Int × Int) := match TL.par [32] [] l with
  | some (p, q) => match numV p, numV q with
    | some a, some b => if b ≤ bl.length ∧ slI bl b.toNat < a then some (a, b) else none
    | _, _ => none
  | none => none
theorem lineT_none {l : List Nat} (h : 32 ∉ l) (bl : Bl) : lineT bl l = none := by
  unfold lineT
  rw [SX.par_head_none (sep := []) h]
theorem lineT_some {p q : List Nat} (h : 32 ∉ p) (bl : Bl) : lineT bl (p ++ 32 :: q) = match numV p, numV q with
    | some a, some b => if b ≤ bl.length ∧ slI bl b.toNat < a then some (a, b) else none
    | _, _ => none := by
  unfold lineT
  rw [show TL.par [32] [] (p ++ 32 :: q) = some (p, q) from SX.par_head (sep := []) q h]
theorem lineT_ok {bl : Bl} {l : List Nat} {x : Int × Int} (h : lineT bl l = some x) : l = strI x.1 ++ 32 :: strI x.2 ∧ 0 ≤ x.1 ∧ 0 ≤ x.2 ∧ x.2 ≤ bl.length ∧ slI bl x.2.toNat < x.1 ∧ (l.length ≤ 19 → x.1 < 2 ^ 64 ∧ x.2 < 2 ^ 64) := by
  by_cases hm : 32 ∈ l
  · obtain ⟨p, q, rfl, hp⟩ := List.eq_append_cons_of_mem hm
    have hlen : (p ++ 32 :: q).length = p.length + (q.length + 1) := by simp
    rw [lineT_some hp] at h
    cases ha : numV p with
    | none => rw [ha] at h; cases h
    | some a =>
      cases hb : numV q with
      | none => rw [ha, hb] at h; cases h
      | some b =>
        rw [ha, hb] at h
        have h : (if b ≤ bl.length ∧ slI bl b.toNat < a then some (a, b) else none) = some x := h
        by_cases z : b ≤ bl.length ∧ slI bl b.toNat < a
        · rw [if_pos z] at h
          cases h
          obtain ⟨a1, a2, _, _⟩ := numV_some ha
          obtain ⟨b1, b2, _, _⟩ := numV_some hb
          exact ⟨by rw [a2, b2], a1, b1, z.1, z.2, fun hl => ⟨numV_lt ha (by omega), numV_lt hb (by omega)⟩⟩
        · rw [if_neg z] at h; cases h
  · rw [lineT_none hm] at h; cases h
theorem can_stand {bl : Bl} {a : Int} {b : Int} (hb : 0 ≤ b) : d_Tree_can_stand_Treeoioi (mkT bl) (some a) (some b) = .ok (decide (b ≤ bl.length ∧ slI bl b.toNat < a)) () := by
  unfold d_Tree_can_stand_Treeoioi d_Tree__contains_Treeoi d_is_integer_oi
  simp only [Option.isSome_some, Bool.and_true, Bool.and_false, Bool.not_false, bind_ok, if_true, ofO_some, decide_eq_true hb, Bool.xor_false]
  have hl : ((mkT bl).slots.length : Int) = bl.length + 1 := by
    show ((((0 : Int) :: bl.map (·.1)).length : Nat) : Int) = _
    rw [List.length_cons, List.length_map]
    omega
  rw [hl]
  by_cases q : b ≤ bl.length
  · rw [decide_eq_true (by omega : b < (bl.length : Int) + 1)]
    obtain ⟨n, rfl⟩ : ∃ n : Nat, b = n := ⟨b.toNat, by omega⟩
    simp only [if_true, at_slot bl (by omega : n ≤ bl.length), ofO_some, bind_ok, Int.toNat_natCast]
    congr 1
    exact decide_eq_decide.mpr ⟨fun h => ⟨q, h⟩, fun h => h.2⟩
  · rw [decide_eq_false (by omega : ¬ b < (bl.length : Int) + 1), decide_eq_false (fun z => q z.1)]
    rfl
def bodyTR : Int × List Nat → Bl → Unit → P Bl := fun i_485 (v_484 : (List ((Int) × (Int)))) _ => (O.bind (ofO (partO i_485.2 [(Ch.mk 32).c]) ()) fun p_489 _ =>
    (O.bind (d_number_of (p_489.a)) fun slot_491 _ =>
    (O.bind (d_number_of (p_489.c)) fun parent_493 _ =>
    (O.bind (if slot_491.isNone = true then .ok true () else (if parent_493.isNone = true then .ok true () else (O.bind (O.bind (ofO (parent_493) ()) fun x_567 _ => .ok ((decide (i_485.1 < x_567))) ()) fun b_566 _ => if b_566 = true then .ok true () else (O.bind (noEx ((O.bind (d_Tree__init (v_484)) fun x_569 _ => d_Tree_can_stand_Treeoioi (x_569) (slot_491) (parent_493)))) fun x_568 _ => .ok ((!x_568)) ())))) fun b_565 _ => if b_565 = true then (O.bind (.ok (i_485.1 + (2 : Int)) ()) fun x_560 _ => .ex 500 [(5, En.e x_560)] ()) else
    (O.bind (O.bind (ofO (slot_491) ()) fun x_571 _ => O.bind (ofO (parent_493) ()) fun x_572 _ => .ok ((x_571, x_572)) ()) fun y_570 _ => O.bind (appO v_484 y_570 ()) fun found_561 _ =>
    (.ok found_561 ()))))))
theorem bodyTR_ok {bl : Bl} (V : VT bl) {l : List Nat} (hl : l.length ≤ 600) (hb : bl.length ≤ 900) :
    bodyTR ((bl.length : Int), l) bl () = match lineT bl l with
      | some x => .ok (bl ++ [x]) ()
      | none => .ex 500 [(5, .int ((bl.length : Int) + 2))] () := by
  unfold bodyTR
  dsimp only
  rw [show partO l [32] = _ from partO_ok (by omega), ofO_some, bind_ok]
  rcases part_split l with ⟨h, e, _⟩ | ⟨p, q, rfl, hp, e, _⟩
  · rw [e, lineT_none h]
    dsimp only
    rw [v_number_of (by omega), bind_ok, v_number_of (by simp), bind_ok, numV_nil]
    cases numV l <;> rfl
  · rw [e]
    have hlen : (p ++ 32 :: q).length = p.length + (q.length + 1) := by simp
    dsimp only
    rw [v_number_of (by omega), bind_ok, v_number_of (by omega), bind_ok, lineT_some hp]
    cases ha : numV p with
    | none => rfl
    | some a =>
      cases hq : numV q with
      | none => rfl
      | some b =>
        obtain ⟨b1, _, _, _⟩ := numV_some hq
        simp only [Option.isNone_some, Bool.false_eq_true, if_false, ofO_some, bind_ok]
        rw [v_tinit V (by omega), bind_ok, can_stand b1]
        have hn : ∀ c : Bool, noEx (.ok c () : P Bool) = .ok c () := fun _ => rfl
        rw [hn, bind_ok]
        by_cases z : b ≤ bl.length ∧ slI bl b.toNat < a
        · have e9 : (if b ≤ (bl.length : Int) ∧ slI bl b.toNat < a then some (a, b) else none) = some (a, b) := if_pos z
          rw [e9, decide_eq_true z, decide_eq_false (by omega : ¬ (bl.length : Int) < b)]
          simp only [Bool.false_eq_true, if_false, Bool.not_true, bind_ok]
          rw [appO_ok (by omega), bind_ok]
        · have e9 : (if b ≤ (bl.length : Int) ∧ slI bl b.toNat < a then some (a, b) else none) = none := if_neg z
          rw [e9, decide_eq_false z]
          by_cases y : (bl.length : Int) < b
          · rw [decide_eq_true y]; rfl
          · rw [decide_eq_false y]; rfl
def treeGo : List (List Nat) → Bl → Nat ⊕ Bl
  | [], bl => .inr bl
  | l :: ls, bl => match lineT bl l with
    | none => .inl bl.length
    | some x => treeGo ls (bl ++ [x])
theorem lineT_vt {bl : Bl} (V : VT bl) {l : List Nat} {x : Int × Int} (h : lineT bl l = some x) : VT (bl ++ [x]) := by
  obtain ⟨_, _, h2, h3, h4, _⟩ := lineT_ok h
  exact V.snoc h2 h3 h4
theorem tr_fold : ∀ (ls : List (List Nat)) (bl : Bl), VT bl → (∀ l ∈ ls, l.length ≤ 600) → bl.length + ls.length ≤ 900 →
    foldO bodyTR (enI bl.length ls) bl () = match treeGo ls bl with
      | .inl j => .ex 500 [(5, .int ((j : Int) + 2))] ()
      | .inr b => .ok b ()
  | [], bl, _, _, _ => rfl
  | l :: ls, bl, V, h, hf => by
    rw [List.length_cons] at hf
    show foldO bodyTR (((bl.length : Int), l) :: enI (bl.length + 1) ls) bl () = _
    rw [foldO, bodyTR_ok V (h l (by simp)) (by omega)]
    unfold treeGo
    cases e : lineT bl l with
    | none => rfl
    | some x =>
      simp only
      rw [bind_ok]
      have hl : (bl ++ [x]).length = bl.length + 1 := by simp
      rw [← hl]
      exact tr_fold ls (bl ++ [x]) (lineT_vt V e) (fun y hy => h y (by simp [hy])) (by omega)
theorem treeGo_ok : ∀ {ls : List (List Nat)} {bl b : Bl}, treeGo ls bl = .inr b → VT bl → ∃ m : Bl, b = bl ++ m ∧ VT b ∧ ls = m.map (fun p => strI p.1 ++ 32 :: strI p.2) ∧ (∀ p ∈ m, 0 ≤ p.1 ∧ 0 ≤ p.2) ∧ ((∀ l ∈ ls, l.length ≤ 19) → ∀ p ∈ m, p.1 < 2 ^ 64 ∧ p.2 < 2 ^ 64)
  | [], bl, b, h, V => by
    cases h
    exact ⟨[], by simp, V, rfl, by simp, by simp⟩
  | l :: ls, bl, b, h, V => by
    unfold treeGo at h
    cases e : lineT bl l with
    | none => rw [e] at h; cases h
    | some x =>
      rw [e] at h
      obtain ⟨h1, h2, h3, _, _, h6⟩ := lineT_ok e
      obtain ⟨m, rfl, V2, e2, e3, e4⟩ := treeGo_ok h (lineT_vt V e)
      refine ⟨x :: m, by simp, V2, by rw [List.map_cons, ← e2, ← h1], fun p hp => ?_, fun hb p hp => ?_⟩
      · rcases List.mem_cons.mp hp with z | z
        · rw [z]; exact ⟨h2, h3⟩
        · exact e3 p z
      · rcases List.mem_cons.mp hp with z | z
        · rw [z]; exact h6 (hb l (by simp))
        · exact e4 (fun y hy => hb y (by simp [hy])) p z
theorem v_tree_read {ls : List (List Nat)} (h : Bd ls) : d_tree_read ls = match treeGo ls [] with
    | .inl j => .ex 500 [(5, .int ((j : Int) + 2))] ()
    | .inr b => .ok (mkT b) () := by
  have e := tr_fold ls [] VT.nil (fun l hl => by have := h.l l hl; omega) (by have := h.n; simp; omega)
  unfold d_tree_read
  dsimp only
  show O.bind (foldO bodyTR (enI 0 ls) [] ()) _ = _
  rw [show foldO bodyTR (enI 0 ls) [] () = _ from e]
  cases q : treeGo ls [] with
  | inl j => rfl
  | inr b =>
    obtain ⟨m, hm, V, e2, _, _⟩ := treeGo_ok q VT.nil
    have hn := h.n
    rw [e2, List.length_map] at hn
    simp only
    rw [bind_ok]
    exact v_tinit V (by rw [hm]; simp; omega)
theorem tree_written {ls : List (List Nat)} {b : Bl} (h : Bd ([116, 114, 101, 101] :: ls)) (q : treeGo ls [] = .inr b) : d_write_Tree (mkT b) = .ok (VS.joinL [10] ([116, 114, 101, 101] :: ls)) () := by
  obtain ⟨m, hm, V, e2, e3, e4⟩ := treeGo_ok q VT.nil
  rw [List.nil_append] at hm
  subst hm
  have hn := h.n
  rw [List.length_cons] at hn
  have hl : b.length ≤ 500 := by
    rw [e2, List.length_map] at hn
    omega
  have hb := e4 fun l hl => h.l l (by simp [hl])
  unfold d_write_Tree d_Tree_blocks
  rw [bind_ok, bind_ok, smL_ok (by show b.length ≤ _; omega), bind_ok]
  rw [mapO_eqP (g := fun p : Int × Int => strI p.1 ++ 32 :: strI p.2) (mkT b).pairs fun p hp => by
    have hp : p ∈ b := hp
    obtain ⟨a1, a2⟩ := e3 p hp
    obtain ⟨b1, b2⟩ := hb p hp
    have hx : (strI p.1 ++ 32 :: strI p.2) ∈ ls := by rw [e2]; exact List.mem_map_of_mem (f := fun p : Int × Int => strI p.1 ++ 32 :: strI p.2) hp
    have hxl := h.l _ (List.mem_cons_of_mem _ hx)
    rw [List.length_append, List.length_cons] at hxl
    rw [strO_ok a1 b1, ofO_some, bind_ok, addS_ok (by simp; omega), ofO_some, bind_ok, strO_ok a2 b2, ofO_some, bind_ok, addS_ok (by simp; omega), ofO_some]
    simp]
  rw [bind_ok, show (mkT b).pairs.map (fun p : Int × Int => strI p.1 ++ 32 :: strI p.2) = ls from e2.symm, addL_ok (by simp; omega), ofO_some, bind_ok]
  rw [show joinS [(Ch.mk 10).c] ([[116, 114, 101, 101]] ++ ls) = some (VS.joinL [10] ([116, 114, 101, 101] :: ls)) from joinS_ok2 h, ofO_some]
/-! ### the law's look -/
theorem inNone2 (x y : Option Int) : inB (En.e ()) (En.e [x, y]) = some (x.isNone || y.isNone) := by
  cases x <;> cases y <;> rfl
def bodyTF : Int × List Nat → List Int → Unit → P (Fl (List Int) (Option Int)) := fun i_384 (v_383 : (List (Int))) _ => (O.bind (ofO (splitO i_384.2 [(Ch.mk 32).c]) ()) fun words_388 _ =>
    (O.bind (if (!decide (((words_388).length : Int) = (2 : Int))) = true then .ok true () else (O.bind (O.bind (smL words_388 ()) fun l_402 _ => mapO (fun x_390 _ => (d_law_number (x_390))) l_402 ()) fun x_401 _ => ofO ((inB (En.e ()) (En.e x_401))) ())) fun b_400 _ => if b_400 = true then (.ok (.rt (some (i_384.1 + (2 : Int)))) ()) else
    (O.bind (O.bind (O.bind (smL words_388 ()) fun l_404 _ => mapO (fun x_392 _ => (d_law_number (x_392))) l_404 ()) fun x_403 _ => lpO x_403 ()) fun p_393 _ =>
    (O.bind (O.bind (O.bind (ofO (p_393.b) ()) fun x_407 _ => .ok ((decide (i_384.1 < x_407))) ()) fun b_406 _ => if b_406 = true then .ok true () else (O.bind (ofO (p_393.a) ()) fun x_408 _ => O.bind (O.bind (ofO (p_393.b) ()) fun x_410 _ => ofO (atI v_383 x_410) ()) fun x_409 _ => .ok ((decide (x_408 ≤ x_409))) ())) fun b_405 _ => if b_405 = true then (.ok (.rt (some (i_384.1 + (2 : Int)))) ()) else
    (O.bind (ofO (p_393.a) ()) fun y_410 _ => O.bind (appO v_383 y_410 ()) fun slots_396 _ =>
    (.ok (.nx slots_396) ()))))))
theorem bodyTF_ok {bl : Bl} {l : List Nat} (hl : l.length ≤ 600) (hb : bl.length ≤ 900) :
    bodyTF ((bl.length : Int), l) (mkT bl).slots () = match lineT bl l with
      | some x => .ok (.nx (mkT (bl ++ [x])).slots) ()
      | none => .ok (.rt (some ((bl.length : Int) + 2))) () := by
  unfold bodyTF
  dsimp only
  rw [show splitO l [32] = _ from splitO_ok (by decide) (by omega), ofO_some, bind_ok]
  rcases part_split l with ⟨h, _, e⟩ | ⟨p, q, rfl, hp, _, e⟩
  · rw [e, lineT_none h]
    rfl
  · rw [e]
    have hlen : (p ++ 32 :: q).length = p.length + (q.length + 1) := by simp
    rcases split_one q with ⟨e2, hq⟩ | ⟨hq, h2⟩
    · rw [e2]
      have em : ∀ s : Unit, mapO (fun x_390 (_ : Unit) => (d_law_number (x_390))) [p, q] s = .ok [numV p, numV q] () := fun s => by
        rw [mapO, v_law_number (by omega), bind_ok, mapO, v_law_number (by omega), bind_ok, mapO, bind_ok, bind_ok]
      rw [if_neg (by simp), smL_ok (by simp), bind_ok, em, bind_ok, inNone2, ofO_some, bind_ok, lineT_some hp]
      cases ha : numV p with
      | none => rfl
      | some a =>
        cases hv : numV q with
        | none => rfl
        | some b =>
          obtain ⟨b1, _, _, _⟩ := numV_some hv
          rw [if_neg (by simp)]
          show O.bind (.ok (⟨some a, some b⟩ : Lp (Option Int)) ()) _ = _
          rw [bind_ok]
          simp only [ofO_some, bind_ok]
          by_cases y : (bl.length : Int) < b
          · have e9 : (if b ≤ (bl.length : Int) ∧ slI bl b.toNat < a then some (a, b) else none) = none := if_neg fun z => by omega
            rw [e9, decide_eq_true y]
            rfl
          · obtain ⟨n, rfl⟩ : ∃ n : Nat, b = n := ⟨b.toNat, by omega⟩
            rw [decide_eq_false y, at_slot bl (by omega), ofO_some]
            simp only [Bool.false_eq_true, if_false, bind_ok]
            rw [Int.toNat_natCast]
            by_cases z : slI bl n < a
            · have e9 : (if (n : Int) ≤ (bl.length : Int) ∧ slI bl n < a then some (a, (n : Int)) else none) = some (a, (n : Int)) := if_pos ⟨by omega, z⟩
              rw [e9, decide_eq_false (by omega : ¬ a ≤ slI bl n)]
              simp only [Bool.false_eq_true, if_false]
              rw [appO_ok (by show (((0 : Int) :: bl.map (·.1)).length) < _; simp; omega), bind_ok]
              have es : (mkT bl).slots ++ [a] = (mkT (bl ++ [(a, (n : Int))])).slots := by
                show ((0 : Int) :: bl.map (·.1)) ++ [a] = (0 : Int) :: (bl ++ [(a, (n : Int))]).map (·.1)
                simp
              rw [es]
            · have e9 : (if (n : Int) ≤ (bl.length : Int) ∧ slI bl n < a then some (a, (n : Int)) else none) = none := if_neg fun y => z y.2
              rw [e9, decide_eq_true (by omega : a ≤ slI bl n)]
              rfl
    · have e9 : lineT bl (p ++ 32 :: q) = none := by
        rw [lineT_some hp, numV_free hq]
        cases numV p <;> rfl
      rw [e9, decide_eq_false (by rw [List.length_cons]; omega : ¬ (((p :: splitL [32] q).length : Nat) : Int) = 2)]
      rfl
theorem tf_for : ∀ (ls : List (List Nat)) (bl : Bl), (∀ l ∈ ls, l.length ≤ 600) → bl.length + ls.length ≤ 900 → ∃ z,
    forO bodyTF (enI bl.length ls) (mkT bl).slots () = match treeGo ls bl with
      | .inl j => .ok (.rt (some ((j : Int) + 2))) ()
      | .inr _ => .ok (.nx z) ()
  | [], bl, _, _ => ⟨(mkT bl).slots, rfl⟩
  | l :: ls, bl, h, hf => by
    rw [List.length_cons] at hf
    show ∃ z, forO bodyTF (((bl.length : Int), l) :: enI (bl.length + 1) ls) (mkT bl).slots () = _
    rw [forO, bodyTF_ok (h l (by simp)) (by omega)]
    unfold treeGo
    cases e : lineT bl l with
    | none => exact ⟨[], rfl⟩
    | some x =>
      have hl : (bl ++ [x]).length = bl.length + 1 := by simp
      obtain ⟨z, hz⟩ := tf_for ls (bl ++ [x]) (fun y hy => h y (by simp [hy])) (by omega)
      refine ⟨z, ?_⟩
      simp only
      rw [bind_ok]
      show forO bodyTF (enI (bl.length + 1) ls) (mkT (bl ++ [x])).slots () = _
      rw [← hl, hz]
theorem v_tree_fault {h : List Nat} {ls : List (List Nat)} (hl : ∀ l ∈ ls, l.length ≤ 600) (hn : ls.length ≤ 900) : d_law_tree_fault (h :: ls) = .ok (faultN (treeGo ls [])) () := by
  obtain ⟨z, hz⟩ := tf_for ls [] hl (by simp; omega)
  have e1 : cutL (h :: ls) (some (1 : Int)) none = ls := cutL_from (h :: ls) (a := 1) (by simp)
  unfold d_law_tree_fault
  dsimp only
  rw [e1]
  show O.bind (forO bodyTF (enI 0 ls) (mkT []).slots ()) _ = _
  rw [show forO bodyTF (enI 0 ls) (mkT []).slots () = _ from hz]
  cases treeGo ls [] <;> rfl
end LB

set_option Elab.async false
set_option linter.all false
set_option maxRecDepth 100000
set_option maxHeartbeats 4000000
set_option autoImplicit false
/-! SF: what is told of lines; the drawn lines. -/
namespace LB
open VS TL LM
open L2 (atI ixN)
theorem joinL_eq (s : List Nat) : ∀ ps : List (List Nat), VS.joinL s ps = TL.joinL s ps
  | [] => rfl
  | [x] => rfl
  | x :: y :: r => by
    show x ++ s ++ VS.joinL s (y :: r) = x ++ (s ++ TL.joinL s (y :: r))
    rw [joinL_eq s (y :: r), List.append_assoc]
/-- drawn lines -/
structure Lb (k : Nat) (ls : List (List Nat)) : Prop where
  ne : ls ≠ []
  n : ls.length ≤ 12 + k
  l : ∀ l ∈ ls, l.length ≤ 12 + k ∧ ∀ c ∈ l, c < 128 ∧ c ≠ 10
theorem Lb.bd {k : Nat} {ls : List (List Nat)} (h : Lb k ls) (hk : k ≤ 7) : Bd ls := ⟨by have := h.n; omega, fun l hl => by have := (h.l l hl).1; omega⟩
theorem Lb.split {k : Nat} {ls : List (List Nat)} (h : Lb k ls) : splitL [10] (VS.joinL [10] ls) = ls := by
  rw [joinL_eq]
  exact SX.spl_join h.ne fun p hp hm => (h.l p hp).2 10 hm |>.2 rfl
theorem join_bound : ∀ (ls : List (List Nat)), (∀ l ∈ ls, l.length ≤ 19) → (VS.joinL [10] ls).length ≤ 20 * ls.length
  | [], _ => by simp [VS.joinL]
  | [x], h => by
    have := h x (by simp)
    show x.length ≤ _
    simp; omega
  | x :: y :: r, h => by
    have h1 := h x (by simp)
    have h2 := join_bound (y :: r) fun z hz => h z (List.mem_cons_of_mem _ hz)
    show (x ++ [10] ++ VS.joinL [10] (y :: r)).length ≤ _
    rw [List.length_append, List.length_append, List.length_singleton]
    rw [List.length_cons (a := x)]
    omega
theorem join_mem : ∀ (ls : List (List Nat)), (∀ l ∈ ls, ∀ c ∈ l, c < 128) → ∀ c ∈ VS.joinL [10] ls, c < 128
  | [], _ => by simp [VS.joinL]
  | [x], h => fun c hc => h x (by simp) c hc
  | x :: y :: r, h => fun c hc => by
    have hc : c ∈ x ++ [10] ++ VS.joinL [10] (y :: r) := hc
    simp only [List.mem_append, List.mem_singleton] at hc
    rcases hc with (q | q) | q
    · exact h x (by simp) c q
    · rw [q]; decide
    · exact join_mem (y :: r) (fun z hz => h z (List.mem_cons_of_mem _ hz)) c q
/-! ### what is told -/
def rowT : List Nat := [114, 111, 119]
def treeT : List Nat := [116, 114, 101, 101]
def badF (n : Int) : F := .tup [.str [98, 97, 100], .int n]
def readF (t : List Nat) : F := .tup [.str [114, 101, 97, 100], .str t]
/-- which line is refused -/
def fault : List (List Nat) → Option Int
  | [] => some 1
  | h :: ls => if h = rowT then faultN (rowGo ls [] 0) else if h = treeT then faultN (treeGo ls []) else some 1
theorem fault_cons (h : List Nat) (ls : List (List Nat)) : fault (h :: ls) = if h = rowT then faultN (rowGo ls [] 0) else if h = treeT then faultN (treeGo ls []) else some 1 := rfl
theorem v_tried {told : List Nat} {ls : List (List Nat)} (hl : told.length ≤ 90000) (hs : splitL [10] told = ls) (hne : ls ≠ []) (hb : Bd ls) : d_law_tried_s told = .ok (match fault ls with
    | none => readF told
    | some n => badF n) () := by
  have hj : VS.joinL [10] ls = told := by rw [← hs]; exact join_splitL (by simp) (by rfl)
  cases ls with
  | nil => exact absurd rfl hne
  | cons h ls =>
    have hb2 : Bd ls := ⟨by have := hb.n; rw [List.length_cons] at this; omega, fun l hl => hb.l l (by simp [hl])⟩
    have e1 : cutL (h :: ls) (some (1 : Int)) none = ls := cutL_from (h :: ls) (a := 1) (by simp)
    have er : d_read_s told = (if h = rowT then O.bind (d_row_read ls) fun x_580 _ => .ok ((Ei.a x_580 : Ei (Row) (Tree))) () else if h = treeT then O.bind (d_tree_read ls) fun x_583 _ => .ok ((Ei.b x_583 : Ei (Row) (Tree))) () else .ex 500 [(5, .int 1)] ()) := by
      unfold d_read_s
      rw [show splitO told [(Ch.mk 10).c] = some (h :: ls) from by rw [← hs]; exact splitO_ok (by decide) (by omega), ofO_some, bind_ok, at0, ofO_some, bind_ok, bind_ok, e1]
      by_cases q : h = rowT
      · rw [if_pos q, if_pos (decide_eq_true (show h = [114, 111, 119] from q))]
      · rw [if_neg q, if_neg (by simpa [rowT] using q), bind_ok, bind_ok]
        by_cases q2 : h = treeT
        · rw [if_pos q2, if_pos (decide_eq_true (show h = [116, 114, 101, 101] from q2))]
        · rw [if_neg q2, if_neg (by simpa [treeT] using q2)]
          rfl
    unfold d_law_tried_s
    rw [er, fault_cons]
    by_cases q : h = rowT
    · rw [if_pos q, if_pos q, v_row_read hb2]
      cases e : rowGo ls [] 0 with
      | inl j => rfl
      | inr r =>
        have hw := row_written (by rw [q] at hb; exact hb) e
        simp only [bind_ok]
        rw [show d_write_oRowTree (Ei.a ⟨r⟩ : Ei Row Tree) = d_write_Row ⟨r⟩ from rfl, hw, show VS.joinL [10] ([114, 111, 119] :: ls) = told from by rw [← hj, q]; rfl]
        rfl
    · rw [if_neg q, if_neg q]
      by_cases q2 : h = treeT
      · rw [if_pos q2, if_pos q2, v_tree_read hb2]
        cases e : treeGo ls [] with
        | inl j => rfl
        | inr b =>
          have hw := tree_written (by rw [q2] at hb; exact hb) e
          simp only [bind_ok]
          rw [show d_write_oRowTree (Ei.b (mkT b) : Ei Row Tree) = d_write_Tree (mkT b) from rfl, hw, show VS.joinL [10] ([116, 114, 101, 101] :: ls) = told from by rw [← hj, q2]; rfl]
          rfl
      · rw [if_neg q2, if_neg q2]
        rfl
theorem same_bad (n : Int) : d_same (badF n) (badF n) = .ok true () := same_refl (by rfl)
theorem same_read {t : List Nat} (hl : t.length ≤ 90000) (ha : ∀ c ∈ t, c < 128) : d_same (readF t) (readF t) = .ok true () := by
  refine same_refl ?_
  have h2 : t.all (· < 0x110000) = true := List.all_eq_true.mpr fun c hc => by
    have := ha c hc
    exact decide_eq_true (by omega)
  have h1 : small t.length = true := decide_eq_true (by omega)
  simp [okP, okPs, readF, h1, h2, small]
  try exact fun c hc => by have := ha c hc; omega
/-! ### an empty line more -/
theorem lineR_nil (last : List Nat) : lineR last [] = none := line_none (by simp) last
theorem rowGo_more : ∀ (ls : List (List Nat)) (last : List Nat) (k : Nat) (r : List (List Nat × Int)), rowGo ls last k = .inr r → rowGo (ls ++ [[]]) last k = .inl (k + ls.length)
  | [], last, k, r, _ => by
    show (match lineR last [] with
      | none => .inl k
      | some (p, v) => match rowGo [] p (k + 1) with
        | .inl j => .inl j
        | .inr r => .inr ((p, v) :: r) : Nat ⊕ List (List Nat × Int)) = _
    rw [lineR_nil]
    rfl
  | l :: ls, last, k, r, h => by
    unfold rowGo at h
    rw [List.cons_append]
    unfold rowGo
    cases e : lineR last l with
    | none => rw [e] at h; cases h
    | some x =>
      obtain ⟨p, v⟩ := x
      rw [e] at h
      simp only at h ⊢
      cases e2 : rowGo ls p (k + 1) with
      | inl j => rw [e2] at h; cases h
      | inr r2 =>
        rw [rowGo_more ls p (k + 1) r2 e2, List.length_cons]
        show Sum.inl (k + 1 + ls.length) = _
        rw [show k + 1 + ls.length = k + (ls.length + 1) by omega]
theorem treeGo_more : ∀ (ls : List (List Nat)) (bl b : Bl), treeGo ls bl = .inr b → treeGo (ls ++ [[]]) bl = .inl (bl.length + ls.length)
  | [], bl, b, _ => by
    show (match lineT bl [] with
      | none => .inl bl.length
      | some x => treeGo [] (bl ++ [x]) : Nat ⊕ Bl) = _
    rw [lineT_none (by simp)]
    rfl
  | l :: ls, bl, b, h => by
    unfold treeGo at h
    rw [List.cons_append]
    unfold treeGo
    cases e : lineT bl l with
    | none => rw [e] at h; cases h
    | some x =>
      rw [e] at h
      simp only
      rw [treeGo_more ls (bl ++ [x]) b h, List.length_append, List.length_singleton, List.length_cons, show bl.length + 1 + ls.length = bl.length + (ls.length + 1) by omega]
theorem fault_more {ls : List (List Nat)} (h : fault ls = none) : fault (ls ++ [[]]) = some ((ls.length : Int) + 1) := by
  cases ls with
  | nil => cases h
  | cons a ls =>
    rw [fault_cons] at h
    rw [List.cons_append, fault_cons]
    by_cases q : a = rowT
    · rw [if_pos q] at h ⊢
      cases e : rowGo ls [] 0 with
      | inl j => rw [e] at h; cases h
      | inr r =>
        rw [rowGo_more ls [] 0 r e, List.length_cons]
        show some (((0 + ls.length : Nat) : Int) + 2) = _
        congr 1
        omega
    · rw [if_neg q] at h ⊢
      by_cases q2 : a = treeT
      · rw [if_pos q2] at h ⊢
        cases e : treeGo ls [] with
        | inl j => rw [e] at h; cases h
        | inr b =>
          rw [treeGo_more ls [] b e, List.length_cons]
          show some ((((([] : Bl).length + ls.length : Nat)) : Int) + 2) = _
          congr 1
          simp
          omega
      · rw [if_neg q2] at h; cases h
end LB

set_option Elab.async false
set_option linter.all false
set_option maxRecDepth 100000
set_option maxHeartbeats 4000000
set_option autoImplicit false
/-! SG: drawn lines, bent ones. -/
namespace LB
open VS TL LM
open L2 (atI ixN)
theorem atI_some {α : Type} {l : List α} {d : Int} (h0 : 0 ≤ d) (h1 : d < l.length) : ∃ x, atI l d = some x ∧ x ∈ l := by
  obtain ⟨x, e, hx⟩ := atI_mem (xs := l) h0 h1
  exact ⟨x, e, hx⟩
theorem lstO1 {σ α : Type} [En α] (x : α) (s : σ) : lstO [x] s = .ok [x] s := lstO_ok (by simp)
theorem setO_okG {σ α : Type} [En α] {l : List α} {j : Int} (h0 : 0 ≤ j) (h : j < l.length) (y : α) (s : σ) : setO l j y s = .ok (l.set j.toNat y) s := by
  unfold setO ixN
  rw [if_pos h0, if_pos h]
  rfl
/-- a number's text -/
theorem strI_bd {v : Int} (h0 : 0 ≤ v) {k : Nat} (hk : 0 < k) (h : v < 10 ^ k) : (strI v).length ≤ k ∧ ∀ c ∈ strI v, c < 128 ∧ c ≠ 10 := by
  obtain ⟨n, rfl⟩ : ∃ n : Nat, v = n := ⟨v.toNat, by omega⟩
  rw [strI_nat]
  refine ⟨TL.numL_len hk (by exact_mod_cast h), fun c hc => ?_⟩
  have := TL.numL_digits n c hc
  omega
theorem strO_okS {v : Int} (h0 : 0 ≤ v) (h : v < 10 ^ 12) : strO v = some (strI v) := strO_ok h0 (by omega)
/-! ### bent lines -/
def odds : List (List Nat) := [([] : List Nat), ([114, 111, 119] : List Nat), ([116, 114, 101, 101] : List Nat), ([104, 32, 49] : List Nat), ([65, 32, 48] : List Nat), ([49, 32, 48] : List Nat), ([48, 32, 48] : List Nat), [(Ch.mk 104).c], [(Ch.mk 49).c], ([50, 32, 49, 32, 48] : List Nat)] ++ [([72, 32, 32, 50] : List Nat), ([104, 32, 45, 49] : List Nat), ([120, 32, 51] : List Nat), ([48, 49, 32, 48] : List Nat), ([53, 32, 52] : List Nat), [(Ch.mk 32).c], ([104, 65, 32, 49] : List Nat), ([49, 32, 48, 48] : List Nat), ([32, 51] : List Nat), ([104, 72, 32, 49] : List Nat)]
theorem odds_ok : ∀ l ∈ odds, l.length ≤ 12 ∧ ∀ c ∈ l, c < 128 ∧ c ≠ 10 := by decide +kernel
def signs : List (List Nat) := [[(Ch.mk 32).c], [(Ch.mk 97).c], [(Ch.mk 48).c], [(Ch.mk 49).c], [(Ch.mk 50).c], [(Ch.mk 104).c], [(Ch.mk 45).c], [(Ch.mk 65).c], ([] : List Nat), [(Ch.mk 57).c], [(Ch.mk 46).c]]
theorem signs_ok : ∀ l ∈ signs, l.length ≤ 1 ∧ ∀ c ∈ l, c < 128 ∧ c ≠ 10 := by decide +kernel
theorem cut_mem {α : Type} (l : List α) (lo hi : Option Int) : ∀ x ∈ cutL l lo hi, x ∈ l := fun x hx => List.mem_of_mem_drop (List.mem_of_mem_take hx)
theorem cut_from_len {α : Type} (l : List α) {a : Nat} (ha : a ≤ l.length + 1) : (cutL l (some (a : Int)) none).length + a ≤ l.length + 1 := by
  by_cases q : a ≤ l.length
  · rw [cutL_from l q, List.length_drop]; omega
  · have : (cutL l (some (a : Int)) none).length ≤ l.length - Nat.min a l.length := by
      unfold cutL
      rw [HT.sIx_nat, List.length_take, List.length_drop]
      exact Nat.min_le_right _ _
    have h2 : Nat.min a l.length = l.length := Nat.min_eq_right (by omega)
    omega
theorem v_bent {k b : Nat} {ls : List (List Nat)} {s : Sp} (h : Lb k ls) (hk : k ≤ 6) (hs : SpOk b s) (hb : b + 100 < 2 ^ 40) : Sat (d_law_bent ls s) fun ls' s' => Lb (k + 1) ls' ∧ SpOk (b + 6) s' := by
  have hpos := List.length_pos_iff.mpr h.ne
  have hn := h.n
  have keep : ∀ l ∈ ls, l.length ≤ 12 + (k + 1) ∧ ∀ c ∈ l, c < 128 ∧ c ≠ 10 := fun l hl => ⟨by have := (h.l l hl).1; omega, (h.l l hl).2⟩
  unfold d_law_bent
  obtain ⟨way, s1, e1, w0, w1, k1⟩ := v_draw (many := 8) hs (by omega) (by decide) (by decide)
  refine sat_bindE e1 ?_
  obtain ⟨d, s2, e2, d0, d1, k2⟩ := v_draw (many := (ls.length : Int)) k1 (by omega) (by omega) (by omega)
  refine sat_bindE e2 ?_
  obtain ⟨i, rfl⟩ : ∃ i : Nat, d = i := ⟨d.toNat, by omega⟩
  have hi : i < ls.length := by omega
  have c1 : cutL ls none (some (i : Int)) = ls.take i := cutL_to ls (by omega)
  have c2 : cutL ls (some ((i : Int) + 1)) none = ls.drop (i + 1) := by
    have := cutL_from ls (a := i + 1) (by omega)
    rw [show (((i + 1 : Nat)) : Int) = (i : Int) + 1 by omega] at this
    exact this
  have c3 : cutL ls (some (i : Int)) none = ls.drop i := cutL_from ls (by omega)
  have c4 : cutL ls (some (i : Int)) (some ((i : Int) + 1)) = (ls.drop i).take 1 := by
    have := cutL_nn ls (a := i) (b := i + 1) (by omega) (by omega)
    rw [show (((i + 1 : Nat)) : Int) = (i : Int) + 1 by omega, show i + 1 - i = 1 by omega] at this
    exact this
  by_cases q0 : way = 0
  · rw [if_pos (decide_eq_true q0)]
    by_cases q1 : (1 : Int) < ls.length
    · rw [if_pos (decide_eq_true q1), c1, c2, addL_ok (by rw [List.length_take, List.length_drop]; omega), ofO_some]
      refine sat_ok ⟨⟨fun z => ?_, by rw [List.length_append, List.length_take, List.length_drop]; omega, fun l hl => ?_⟩, k2.mono (by omega)⟩
      · have := congrArg List.length z
        rw [List.length_append, List.length_take, List.length_drop, List.length_nil] at this
        omega
      · rcases List.mem_append.mp hl with z | z
        · exact keep l (List.mem_of_mem_take z)
        · exact keep l (List.mem_of_mem_drop z)
    · rw [if_neg (by simpa using q1)]
      exact sat_ok ⟨⟨by simp, by simp; omega, fun l hl => by
        have : l = [] := by simpa using hl
        subst this
        simp⟩, k2.mono (by omega)⟩
  · rw [if_neg (by simpa using q0)]
    by_cases q1 : way = 1
    · rw [if_pos (decide_eq_true q1), c1, c4, addL_ok (by rw [List.length_take, List.length_take, List.length_drop]; omega), ofO_some, bind_ok, c3, addL_ok (by rw [List.length_append, List.length_take, List.length_take, List.length_drop]; omega), ofO_some]
      refine sat_ok ⟨⟨fun z => ?_, by rw [List.length_append, List.length_append, List.length_take, List.length_take, List.length_drop]; omega, fun l hl => ?_⟩, k2.mono (by omega)⟩
      · have := congrArg List.length z
        rw [List.length_append, List.length_append, List.length_take, List.length_take, List.length_drop, List.length_nil] at this
        omega
      · rcases List.mem_append.mp hl with z | z
        · rcases List.mem_append.mp z with z | z
          · exact keep l (List.mem_of_mem_take z)
          · exact keep l (List.mem_of_mem_drop (List.mem_of_mem_take z))
        · exact keep l (List.mem_of_mem_drop z)
    · rw [if_neg (by simpa using q1)]
      by_cases q2 : way = 2
      · rw [if_pos (decide_eq_true q2)]
        obtain ⟨j, s3, e3, j0, j1, k3⟩ := v_draw (many := (ls.length : Int)) k2 (by omega) (by omega) (by omega)
        refine sat_bindE e3 ?_
        dsimp only
        obtain ⟨x, ex, hx⟩ := atI_some (l := ls) j0 j1
        obtain ⟨y, ey, hy⟩ := atI_some (l := ls) (d := (i : Int)) (by omega) (by omega)
        rw [ex, ofO_some, bind_ok, ey, ofO_some, bind_ok, setO_okG (by omega) (by omega), bind_ok, setO_okG j0 (by rw [List.length_set]; omega), bind_ok]
        refine sat_ok ⟨⟨fun z => ?_, by rw [List.length_set, List.length_set]; omega, fun l hl => ?_⟩, k3.mono (by omega)⟩
        · have := congrArg List.length z
          rw [List.length_set, List.length_set, List.length_nil] at this
          omega
        · rcases List.mem_or_eq_of_mem_set hl with z | z
          · rcases List.mem_or_eq_of_mem_set z with z | z
            · exact keep l z
            · rw [z]; exact keep x hx
          · rw [z]; exact keep y hy
      · rw [if_neg (by simpa using q2)]
        by_cases q3 : way = 3
        · rw [if_pos (decide_eq_true q3)]
          dsimp only
          rw [addL_ok (by simp), ofO_some, bind_ok]
          obtain ⟨x, s3, e3, hx, k3⟩ := v_pick_sls (l := odds) k2 (by omega) (by simp [odds]) (by simp [odds])
          have e3 : d_law_pick_sls ([([] : List Nat), ([114, 111, 119] : List Nat), ([116, 114, 101, 101] : List Nat), ([104, 32, 49] : List Nat), ([65, 32, 48] : List Nat), ([49, 32, 48] : List Nat), ([48, 32, 48] : List Nat), [(Ch.mk 104).c], [(Ch.mk 49).c], ([50, 32, 49, 32, 48] : List Nat)] ++ [([72, 32, 32, 50] : List Nat), ([104, 32, 45, 49] : List Nat), ([120, 32, 51] : List Nat), ([48, 49, 32, 48] : List Nat), ([53, 32, 52] : List Nat), [(Ch.mk 32).c], ([104, 65, 32, 49] : List Nat), ([49, 32, 48, 48] : List Nat), ([32, 51] : List Nat), ([104, 72, 32, 49] : List Nat)]) s2 = .ok x s3 := e3
          rw [e3, bind_ok, lstO1, bind_ok, c1, addL_ok (by rw [List.length_take]; simp; omega), ofO_some, bind_ok, c3, addL_ok (by rw [List.length_append, List.length_take, List.length_drop]; simp; omega), ofO_some]
          have hxo := odds_ok x hx
          refine sat_ok ⟨⟨by simp, by rw [List.length_append, List.length_append, List.length_take, List.length_drop, List.length_singleton]; omega, fun l hl => ?_⟩, k3.mono (by omega)⟩
          rcases List.mem_append.mp hl with z | z
          · rcases List.mem_append.mp z with z | z
            · exact keep l (List.mem_of_mem_take z)
            · rw [List.mem_singleton] at z
              rw [z]
              exact ⟨by omega, hxo.2⟩
          · exact keep l (List.mem_of_mem_drop z)
        · rw [if_neg (by simpa using q3)]
          obtain ⟨line, el, hl⟩ := atI_some (l := ls) (d := (i : Int)) (by omega) (by omega)
          rw [el, ofO_some, bind_ok]
          have hll := h.l line hl
          obtain ⟨at_, s3, e3, a0, a1, k3⟩ := v_draw (many := (line.length : Int) + 1) k2 (by omega) (by omega) (by omega)
          rw [lenS_ok (by omega), ofO_some, bind_ok, bind_ok]
          refine sat_bindE e3 ?_
          obtain ⟨p, rfl⟩ : ∃ p : Nat, at_ = p := ⟨at_.toNat, by omega⟩
          obtain ⟨x, s4, e4, hx, k4⟩ := v_pick_sls (l := signs) k3 (by omega) (by simp [signs]) (by simp [signs])
          refine sat_bindE e4 ?_
          have hxo := signs_ok x hx
          obtain ⟨c, s5, e5, c0, c1', k5⟩ := v_draw (many := 2) k4 (by omega) (by decide) (by decide)
          obtain ⟨m, rfl⟩ : ∃ m : Nat, c = m := ⟨c.toNat, by omega⟩
          refine sat_bindE (b := ((p + m : Nat) : Int)) (s := s5) (by rw [e5, bind_ok]; rfl) ?_
          have hcl := cut_from_len line (a := p + m) (by omega)
          have ht : cutL line none (some (p : Int)) = line.take p := cutL_to line (by omega)
          have hnew : (line.take p ++ x ++ cutL line (some ((p + m : Nat) : Int)) none).length ≤ line.length + 2 ∧ (line.take p ++ x ++ cutL line (some ((p + m : Nat) : Int)) none).length ≤ 12 + (k + 1) := by
            rw [List.length_append, List.length_append, List.length_take]
            have := hll.1
            have := hxo.1
            by_cases z : p + m ≤ line.length
            · rw [cutL_from line z, List.length_drop]
              omega
            · omega
          refine sat_bindE (b := line.take p ++ x ++ cutL line (some ((p + m : Nat) : Int)) none) (s := s5) (by
            rw [slS_ok (by omega), ofO_some, bind_ok, ht, addS_ok (by rw [List.length_take]; omega), ofO_some, bind_ok, slS_ok (by omega), ofO_some, bind_ok, addS_ok (by rw [List.length_append, List.length_take]; omega), ofO_some]) ?_
          rw [c1, addL_ok (by rw [List.length_take]; simp; omega), ofO_some, bind_ok, c2, addL_ok (by rw [List.length_append, List.length_take, List.length_drop]; simp; omega), ofO_some]
          refine sat_ok ⟨⟨by simp, by rw [List.length_append, List.length_append, List.length_take, List.length_drop, List.length_singleton]; omega, fun l hl2 => ?_⟩, k5.mono (by omega)⟩
          rcases List.mem_append.mp hl2 with z | z
          · rcases List.mem_append.mp z with z | z
            · exact keep l (List.mem_of_mem_take z)
            · rw [List.mem_singleton] at z
              rw [z]
              refine ⟨hnew.2, fun c hc => ?_⟩
              rcases List.mem_append.mp hc with y | y
              · rcases List.mem_append.mp y with y | y
                · exact hll.2 c (List.mem_of_mem_take y)
                · exact hxo.2 c y
              · exact hll.2 c (cut_mem _ _ _ c y)
          · exact keep l (List.mem_of_mem_drop z)
end LB

set_option Elab.async false
set_option linter.all false
set_option maxRecDepth 100000
set_option maxHeartbeats 4000000
set_option autoImplicit false
/-! SH: the drawn lines. -/
namespace LB
open VS TL LM
open L2 (atI ixN)
theorem pow6 : powO (10 : Int) (6 : Int) = some 1000000 := by
  rw [show (6 : Int) = ((6 : Nat) : Int) from rfl, powO_ok (by decide) (by decide)]; rfl
theorem v_tslot {bl : Bl} {b : Nat} (hb : b ≤ bl.length) : d_law_t_slot bl (b : Int) = .ok (slI bl b) () := by
  unfold d_law_t_slot
  by_cases q : b = 0
  · subst q
    rw [if_neg (by simp)]
    rfl
  · rw [if_pos (by simp; omega)]
    have g : bl[b - 1]? = some (bl[b - 1]'(by omega)) := List.getElem?_eq_getElem _
    rw [show (b : Int) - 1 = ((b - 1 : Nat) : Int) by omega, at_cast g]
    simp only [ofO_some, bind_ok]
    have := slI_succ g
    rw [show b - 1 + 1 = b by omega] at this
    rw [this]
def Small (n : Nat) (bl : Bl) : Prop := ∀ p ∈ bl, 0 ≤ p.1 ∧ p.1 ≤ 2000000 * n ∧ 0 ≤ p.2 ∧ p.2 ≤ n
theorem slI_bound {n : Nat} {bl : Bl} (h : Small n bl) (c : Nat) : 0 ≤ slI bl c ∧ slI bl c ≤ 2000000 * n := by
  unfold slI
  rw [List.getD_eq_getElem?_getD]
  cases e : ((0 : Int) :: bl.map (·.1))[c]? with
  | none => simp; omega
  | some x =>
    have hx := List.mem_of_getElem? e
    rcases List.mem_cons.mp hx with z | z
    · subst z; simp; omega
    · obtain ⟨p, hp, rfl⟩ := List.mem_map.mp z
      have := h p hp
      exact ⟨this.1, this.2.1⟩
theorem v_drawn {b : Nat} {s : Sp} (hs : SpOk b s) (hb : b + 100 < 2 ^ 40) : Sat (d_law_t_drawn 7 s) fun bl s' => Small 7 bl ∧ bl.length ≤ 7 ∧ SpOk (b + 22) s' := by
  unfold d_law_t_drawn
  obtain ⟨d, s1, e, d0, d1, k1⟩ := v_draw (many := 7 + 1) hs (by omega) (by decide) (by decide)
  rw [e]
  simp only [bind_ok]
  rw [rg1_ok (by omega) (by omega)]
  simp only [bind_ok]
  refine sat_bind (sat_fold (fun pre bl s' => Small pre.length bl ∧ bl.length = pre.length ∧ SpOk (b + 1 + 3 * pre.length) s') ⟨by simp [Small], rfl, k1⟩ ?_) ?_
  · rintro pre x post bl s2 e2 ⟨V, hl, k2⟩
    have hp : pre.length < 7 := by
      have := congrArg List.length e2
      rw [rgI_length, List.length_append, List.length_cons] at this
      omega
    obtain ⟨p, s3, e3, p0, p1, k3⟩ := v_draw (many := (bl.length : Int) + 1) k2 (by omega) (by omega) (by omega)
    rw [e3]
    simp only [bind_ok]
    rw [lstO_ok (by simp)]
    simp only [bind_ok]
    obtain ⟨q, s4, e4, hq, k4⟩ := v_pick_sli (l := [p, (bl.length : Int)]) k3 (by omega) (by simp) (by simp)
    rw [e4]
    simp only [bind_ok]
    have q01 : 0 ≤ q ∧ q ≤ bl.length := by
      rcases List.mem_cons.mp hq with z | z
      · omega
      · rw [List.mem_singleton] at z; omega
    obtain ⟨c, rfl⟩ : ∃ c : Nat, q = c := ⟨q.toNat, by omega⟩
    rw [v_tslot (bl := bl) (b := c) (by omega), show (noEx (.ok (slI bl c) () : P Int)).up s4 = .ok (slI bl c) s4 from rfl]
    simp only [bind_ok]
    rw [pow6]
    simp only [ofO_some, bind_ok]
    rw [lstO_ok (by simp)]
    simp only [bind_ok]
    obtain ⟨a, s5, e5, ha, k5⟩ := v_pick_sli (l := [(0 : Int), 0, 1, 2, 1000000]) k4 (by omega) (by simp) (by simp)
    rw [e5]
    simp only [bind_ok]
    rw [appO_ok (by omega)]
    simp only [bind_ok]
    have hsl := slI_bound V c
    refine sat_ok ⟨fun r hr => ?_, by rw [List.length_append, List.length_append, hl]; rfl, k5.mono (by rw [List.length_append, List.length_singleton]; omega)⟩
    rw [List.length_append, List.length_singleton]
    rcases List.mem_append.mp hr with z | z
    · have := V r z
      omega
    · rw [List.mem_singleton] at z
      subst z
      simp only [List.mem_cons, List.not_mem_nil, or_false] at ha
      simp only
      omega
  · rintro bl s2 ⟨V, hl, k2⟩
    rw [rgI_length] at hl k2 V
    refine sat_ok ⟨fun p hp => ?_, by omega, k2.mono (by omega)⟩
    have := V p hp
    omega
theorem mapO_okM {σ α β : Type} {v : β → σ → O σ α} (f : β → α) {xs : List β} {s : σ} (h : ∀ x ∈ xs, ∀ s, v x s = .ok (f x) s) : mapO v xs s = .ok (xs.map f) s := mapO_ok f xs s h
theorem lines_lb {α : Type} {xs : List α} {f : α → List Nat} {h : List Nat} (hl : xs.length ≤ 10) (hh : h.length ≤ 12 ∧ ∀ c ∈ h, c < 128 ∧ c ≠ 10) (hf : ∀ x ∈ xs, (f x).length ≤ 12 ∧ ∀ c ∈ f x, c < 128 ∧ c ≠ 10) : Lb 0 ([h] ++ xs.map f) := by
  refine ⟨by simp, by simp; omega, fun l hm => ?_⟩
  rcases List.mem_append.mp hm with z | z
  · rw [List.mem_singleton] at z
    rw [z]; exact hh
  · obtain ⟨x, hx, rfl⟩ := List.mem_map.mp z
    exact hf x hx
theorem two_txt {a b : Int} {p q : Nat} (ha : 0 ≤ a) (hb : 0 ≤ b) (hp : 0 < p) (hq : 0 < q) (ha2 : a < 10 ^ p) (hb2 : b < 10 ^ q) (hpq : p + q ≤ 11) : (strI a ++ [32] ++ strI b).length ≤ 12 ∧ ∀ c ∈ strI a ++ [32] ++ strI b, c < 128 ∧ c ≠ 10 := by
  obtain ⟨a1, a2⟩ := strI_bd ha hp ha2
  obtain ⟨b1, b2⟩ := strI_bd hb hq hb2
  refine ⟨by rw [List.length_append, List.length_append, List.length_singleton]; omega, fun c hc => ?_⟩
  rcases List.mem_append.mp hc with z | z
  · rcases List.mem_append.mp z with z | z
    · exact a2 c z
    · rw [List.mem_singleton] at z; subst z; decide
  · exact b2 c z
theorem eqO_kn {v : List (Ch × Int)} (h : ∀ p ∈ v, isK p.1.c = true ∧ 1 ≤ p.2 ∧ p.2 ≤ 30) (w : List (Ch × Int)) (hw : w = []) : eqO v w = some (decide (v = w)) := by
  subst hw
  unfold eqO
  rw [if_pos]
  refine ⟨List.all_eq_true.mpr fun p hp => ?_, rfl⟩
  show (decide (p.1.c < 0x110000) && true) = true
  rw [Bool.and_true]
  refine decide_eq_true ?_
  rcases isK_cases (h p hp).1 with y | y | y | y <;> omega
theorem v_lines {b : Nat} {s : Sp} (hs : SpOk b s) (hb : b + 5000 < 2 ^ 40) : Sat (d_law_lines s) fun ls s' => Lb 0 ls ∧ SpOk (b + 60) s' := by
  unfold d_law_lines
  obtain ⟨d, s1, e, d0, d1, k1⟩ := v_draw (many := 2) hs (by omega) (by decide) (by decide)
  rw [e]
  simp only [bind_ok]
  by_cases q : d = 0
  · rw [if_pos (decide_eq_true q)]
    obtain ⟨t, s2, e2, hk, hl, k2⟩ := v_t_row (most := 8) k1 (by omega) (by omega)
    rw [show d_law_t_row (8 : Int) s1 = .ok t s2 from e2]
    simp only [bind_ok]
    refine sat_bind (sat_fold (fun pre (v : List (Ch × Int)) s' => v.length ≤ pre.length ∧ (∀ p ∈ v, isK p.1.c = true ∧ 1 ≤ p.2 ∧ p.2 ≤ 30) ∧ SpOk (b + 1 + 8 + 2 + pre.length) s') ⟨by simp, by simp, k2⟩ ?_) ?_
    · rintro pre x post v s3 e3 ⟨h1, h2, k3⟩
      have hx : isK x.c = true := by
        have : x ∈ t.map Ch.mk := by rw [e3]; simp
        obtain ⟨c, hc, rfl⟩ := List.mem_map.mp this
        exact hk c hc
      have hp : pre.length < 8 := by
        have := congrArg List.length e3
        rw [List.length_map, List.length_append, List.length_cons] at this
        omega
      have hb : ∃ c, (O.bind (ofO (eqO v ([] : List (Ch × Int))) s3) fun b_186 s_187 => if b_186 = true then .ok true s_187 else (O.bind (O.bind (ofO (atI v (-(1 : Int))) s_187) fun x_190 s_191 => .ok (x_190.1) s_191) fun x_188 s_189 => .ok ((!decide (x_188 = x))) s_189)) = .ok c s3 := by
        rw [eqO_kn h2 [] rfl, ofO_some, bind_ok]
        by_cases z : v = []
        · exact ⟨true, if_pos (decide_eq_true z)⟩
        · rw [if_neg (by simpa using z)]
          have hv := List.dropLast_concat_getLast z
          rw [← hv, atI_last]
          exact ⟨_, rfl⟩
      obtain ⟨c, hc⟩ := hb
      rw [hc]
      simp only [bind_ok]
      cases c with
      | false =>
        rw [if_neg (by simp)]
        simp only [bind_ok]
        exact sat_ok ⟨by rw [List.length_append]; omega, h2, k3.mono (by rw [List.length_append, List.length_singleton]; omega)⟩
      | true =>
        rw [if_pos rfl]
        obtain ⟨y, s4, e4, y0, y1, k4⟩ := v_draw (many := 30) k3 (by omega) (by decide) (by decide)
        rw [e4]
        simp only [bind_ok]
        rw [appO_ok (by omega)]
        simp only [bind_ok]
        refine sat_ok ⟨by rw [List.length_append, List.length_append]; simp; omega, fun p hp => ?_, k4.mono (by rw [List.length_append, List.length_singleton]; omega)⟩
        rcases List.mem_append.mp hp with z | z
        · exact h2 p z
        · rw [List.mem_singleton] at z
          subst z
          exact ⟨hx, by simp only; omega, by simp only; omega⟩
    · rintro v s3 ⟨h1, h2, k3⟩
      rw [List.length_map] at h1 k3
      rw [smL_ok (by omega), bind_ok, mapO_okM (fun p : Ch × Int => [p.1.c] ++ [32] ++ strI p.2) fun p hp s => by
        have hv := h2 p hp
        obtain ⟨b1, _⟩ := strI_bd (v := p.2) (by omega) (k := 2) (by decide) (by omega)
        rw [addS_ok (by simp), ofO_some, bind_ok, strO_okS (by omega) (by omega), ofO_some, bind_ok, addS_ok (by simp; omega), ofO_some], bind_ok, addL_ok (by simp; omega), ofO_some]
      refine sat_ok ⟨lines_lb (by omega) (by decide) fun p hp => ?_, k3.mono (by omega)⟩
      have hv := h2 p hp
      obtain ⟨b1, b2⟩ := strI_bd (v := p.2) (by omega) (k := 2) (by decide) (by omega)
      refine ⟨by simp; omega, fun c hc => ?_⟩
      rcases List.mem_append.mp hc with z | z
      · rcases isK_cases hv.1 with y | y | y | y <;> rw [y] at z <;> simp at z <;> omega
      · exact b2 c z
  · rw [if_neg (by simpa using q)]
    refine sat_bind (v_drawn k1 (by omega)) ?_
    rintro bl s2 ⟨h1, h2, k2⟩
    have hA : ∀ p ∈ bl, (0 ≤ p.1 ∧ p.1 < 10 ^ 9) ∧ (0 ≤ p.2 ∧ p.2 < 10 ^ 1) := fun p hp => by
      have := h1 p hp
      omega
    have hT : ∀ p ∈ bl, (strI p.1 ++ [32] ++ strI p.2).length ≤ 12 ∧ ∀ c ∈ strI p.1 ++ [32] ++ strI p.2, c < 128 ∧ c ≠ 10 := fun p hp => two_txt (hA p hp).1.1 (hA p hp).2.1 (by decide) (by decide) (hA p hp).1.2 (hA p hp).2.2 (by decide)
    rw [smL_ok (by omega), bind_ok, mapO_okM (fun p : Int × Int => strI p.1 ++ [32] ++ strI p.2) fun p hp s => by
      have hv := hA p hp
      have ht := (hT p hp).1
      rw [List.length_append, List.length_append] at ht
      rw [strO_okS (by omega) (by omega), ofO_some, bind_ok, addS_ok (by omega), ofO_some, bind_ok, strO_okS (by omega) (by omega), ofO_some, bind_ok, addS_ok (by rw [List.length_append]; omega), ofO_some], bind_ok, addL_ok (by simp; omega), ofO_some]
    exact sat_ok ⟨lines_lb (by omega) (by decide) hT, k2.mono (by omega)⟩
end LB

set_option Elab.async false
set_option linter.all false
set_option maxRecDepth 100000
set_option maxHeartbeats 4000000
set_option autoImplicit false
/-! C59: law k59 answers true. -/
namespace LB
open VS TL LM
open L2 (atI ixN)
theorem eqA_refl {α : Type} [En α] [DecidableEq α] [EqT α] (hd : EqT.dep α ≤ 64) (a : α) (ha : EqT.ok a = true) : eqA (En.e a) (En.e a) = some true := by
  have e : eqO a a = some true := by
    unfold eqO
    rw [if_pos ⟨ha, ha⟩]
    simp
  have h := o_eq (α := α) hd a a _ e
  unfold eqF at h
  obtain ⟨c, e, h⟩ := opt_map_some h
  show eqB (En.e a) (En.e a) = _
  rw [e]
  have h : F.bl c = F.bl true := h
  cases h
  rfl
theorem mulL_ok {α : Type} {a : List α} {k : Nat} (h : a.length * k ≤ 1000000) (hk : k ≤ 1000000) : mulL a (k : Int) = some (List.replicate k a).flatten := by
  unfold mulL
  rw [if_pos ⟨decide_eq_true (by omega), decide_eq_true (by omega), by unfold small; simpa using h⟩, Int.toNat_natCast]
/-! ### odd things -/
def oddR : List (F × Int) := [((En.e ()), (0 : Int)), ((En.e (5 : Int)), (0 : Int)), ((En.e [Ch.mk 104]), (0 : Int)), ((En.e ([104, 120] : List Nat)), (1 : Int)), ((En.e (Ch.mk 120)), (0 : Int)), ((En.e true), (0 : Int)), ((F.dct []), (0 : Int))]
theorem odd_refused : ∀ p ∈ oddR, d_law_refused_a p.1 = .ok (F.int p.2) () := by
  intro p hp
  simp only [oddR, List.mem_cons, List.not_mem_nil, or_false] at hp
  rcases hp with rfl | rfl | rfl | rfl | rfl | rfl | rfl <;> rfl
def oddT : List F := [(En.e ()), (En.e (5 : Int)), (En.e ([([114, 111, 119] : List Nat)] : List (List Nat))), (En.e (Tu.mk [([116, 114, 101, 101] : List Nat)])), (En.e true), (F.dct [])]
theorem odd_tried : ∀ x ∈ oddT, d_law_tried_a x = .ok (badF 0) () := by
  intro p hp
  simp only [oddT, List.mem_cons, List.not_mem_nil, or_false] at hp
  rcases hp with rfl | rfl | rfl | rfl | rfl | rfl <;> rfl
theorem tried_nil : d_law_tried_s [] = .ok (badF 1) () := by
  rw [v_tried (told := []) (ls := [[]]) (by simp) (by rfl) (by simp) ⟨by simp, by simp⟩]
  rfl
theorem flX {σ S R α : Type} (f : S → σ → O σ α) (g : R → α) (v : S) (s : σ) : flB f g (.nx v) s = f v s := rfl
theorem Lb.mono {k m : Nat} {ls : List (List Nat)} (h : Lb k ls) (hk : k ≤ m) : Lb m ls := ⟨h.ne, by have := h.n; omega, fun l hl => ⟨by have := (h.l l hl).1; omega, (h.l l hl).2⟩⟩
theorem bad_bind {ls : List (List Nat)} (hne : ls ≠ []) (hb : Bd ls) (s : Sp) {α : Type} (k : Option Int → Sp → O Sp α) :
    (O.bind (O.bind (ofO (atI ls (0 : Int)) s) fun x_767 s_768 => .ok ((decide (x_767 = ([114, 111, 119] : List Nat)))) s_768) fun b_765 s_766 => O.bind (if b_765 = true then (O.bind ((d_law_row_fault (ls)).up s_766) fun bad_358 s_359 =>
    (.ok bad_358 s_359)) else (O.bind (O.bind (ofO (atI ls (0 : Int)) s_766) fun x_771 s_772 => .ok ((decide (x_771 = ([116, 114, 101, 101] : List Nat)))) s_772) fun b_769 s_770 => O.bind (if b_769 = true then (O.bind ((d_law_tree_fault (ls)).up s_770) fun bad_414 s_415 =>
    (.ok bad_414 s_415)) else (.ok (some (1 : Int)) s_770)) fun v_416 s_417 =>
    (.ok v_416 s_417))) k) = k (fault ls) s := by
  cases ls with
  | nil => exact absurd rfl hne
  | cons h ls =>
    have hl : ∀ l ∈ ls, l.length ≤ 600 := fun l hl => by have := hb.l l (by simp [hl]); omega
    have hn : ls.length ≤ 900 := by have := hb.n; rw [List.length_cons] at this; omega
    rw [at0, fault_cons]
    simp only [ofO_some, bind_ok]
    by_cases q : h = rowT
    · rw [if_pos q, if_pos (decide_eq_true (show h = [114, 111, 119] from q)), v_row_fault hl]
      rfl
    · rw [if_neg q, if_neg (by simpa [rowT] using q)]
      by_cases q2 : h = treeT
      · rw [if_pos q2, if_pos (decide_eq_true (show h = [116, 114, 101, 101] from q2)), v_tree_fault hl hn]
        rfl
      · rw [if_neg q2, if_neg (by simpa [treeT] using q2)]
        rfl
theorem map_odd {σ : Type} (s : σ) : mapO (fun x_672 s_673 => ((d_law_refused_a (x_672.1)).up s_673)) oddR s = .ok (oddR.map fun p => F.int p.2) s := mapO_ok _ oddR s fun p hp s => by rw [odd_refused p hp]; rfl
theorem map_tried {σ : Type} (s : σ) : mapO (fun x_736 s_737 => ((d_law_tried_a (x_736)).up s_737)) oddT s = .ok (oddT.map fun _ => badF 0) s := mapO_ok _ oddT s fun p hp s => by rw [odd_tried p hp]; rfl
theorem end_eq : eqA (En.e (oddT.map fun _ => badF 0)) (En.e (List.replicate 6 [(([98, 97, 100] : List Nat), (0 : Int))]).flatten) = some true := eqA_refl (α := List (List Nat × Int)) (by decide) ((List.replicate 6 [(([98, 97, 100] : List Nat), (0 : Int))]).flatten) (by rfl)
theorem nil_eq : eqA (En.e (badF 1)) (En.e (([98, 97, 100] : List Nat), (1 : Int))) = some true := eqA_refl (α := List Nat × Int) (by decide) ([98, 97, 100], 1) (by rfl)
theorem law_true (s : Sp) (hs : SpOk 0 s) : ∃ s', d_law s = .ok true s' := by
  have main : Sat (d_law s) fun b s' => b = true := by
    unfold d_law
    rw [rg1_ok (by decide) (by decide), bind_ok]
    refine sat_forNk (fun pre _ s' => SpOk (80 * pre.length) s') hs ?_ ?_
    · rintro pre x post v s1 e1 k1
      have hp : pre.length < 10 := by
        have := congrArg List.length e1
        rw [rgI_length, List.length_append, List.length_cons] at this
        have h10 : (10 : Int).toNat = 10 := rfl
        omega
      refine sat_bind (v_lines k1 (by omega)) ?_
      rintro ls0 s2 ⟨b0, k2⟩
      obtain ⟨d, s3, e3, d0, d1, k3⟩ := v_draw (many := 3) k2 (by omega) (by decide) (by decide)
      rw [e3]
      simp only [bind_ok]
      rw [rg1_ok (by omega) (by omega)]
      simp only [bind_ok]
      refine sat_bind (Q1 := fun ls s' => Lb 3 ls ∧ SpOk (80 * (pre.length + 1)) s') ?_ ?_
      · obtain ⟨z, s9, ez, q⟩ := (sat_fold (fun pr (ls : List (List Nat)) s' => Lb pr.length ls ∧ SpOk (80 * pre.length + 61 + 6 * pr.length) s') (xs := rgI 0 (1 + d).toNat) (v := ls0) (s := s3) (body := fun i_233 (v_232 : (List (List Nat))) s_234 => (O.bind (d_law_bent (v_232) s_234) fun lineshere_295 s_296 => (.ok lineshere_295 s_296))) ⟨b0, k3⟩ fun pr y po ls s' e ⟨h1, h2⟩ => by
          have hp2 : pr.length < 3 := by
            have := congrArg List.length e
            rw [rgI_length, List.length_append, List.length_cons] at this
            omega
          refine sat_bind (v_bent h1 (by omega) h2 (by omega)) fun ls' s5 h => sat_ok ⟨?_, ?_⟩
          · rw [List.length_append, List.length_singleton]; exact h.1
          · rw [List.length_append, List.length_singleton]; exact h.2.mono (by omega))
        rw [rgI_length] at q
        exact ⟨z, s9, ez, q.1.mono (by omega), q.2.mono (by omega)⟩
      rintro ls s4 ⟨bl, k4⟩
      have hBd : Bd ls := bl.bd (by decide)
      have hjl : (VS.joinL [10] ls).length ≤ 90000 := by
        have := join_bound ls hBd.l
        have := hBd.n
        have := bl.n
        omega
      obtain ⟨told, ht⟩ : ∃ t, t = VS.joinL [10] ls := ⟨_, rfl⟩
      rw [← ht] at hjl
      have hsp : splitL [10] told = ls := by rw [ht]; exact bl.split
      rw [show joinS [(Ch.mk 10).c] ls = some told from by rw [ht]; exact joinS_ok2 hBd, ofO_some, bind_ok, show splitO told [(Ch.mk 10).c] = some ls from by rw [← hsp]; exact splitO_ok (by decide) (by omega), ofO_some, bind_ok]
      rw [bad_bind bl.ne hBd]
      rw [v_tried hjl hsp bl.ne hBd, up_ok, bind_ok]
      have hI : SpOk (80 * (pre ++ [x]).length) s4 := by rw [List.length_append, List.length_singleton]; exact k4
      cases hf : fault ls with
      | some n =>
        show Sat (O.bind (O.bind ((d_same (badF n) (badF n)).up s4) _) _) _
        rw [same_bad]
        simp only [up_ok, bind_ok, Bool.not_true, Bool.false_eq_true, if_false]
        exact sat_ok ⟨(), rfl, hI⟩
      | none =>
        show Sat (O.bind (O.bind ((d_same (readF told) (readF told)).up s4) _) _) _
        rw [same_read hjl (by rw [ht]; exact join_mem ls fun l hl c hc => ((bl.l l hl).2 c hc).1)]
        simp only [up_ok, bind_ok, Bool.not_true, Bool.false_eq_true, if_false]
        have hsp2 : splitL [10] (told ++ [10]) = ls ++ [[]] := by rw [split_more told.length told (Nat.le_refl _), hsp]
        have hBd2 : Bd (ls ++ [[]]) := ⟨by have := bl.n; simp; omega, fun l hl => by
          rcases List.mem_append.mp hl with z | z
          · exact hBd.l l z
          · rw [List.mem_singleton] at z; subst z; simp⟩
        have hj2 : (told ++ [10]).length ≤ 90000 := by
          have h1 := join_bound ls hBd.l
          have h2 := bl.n
          rw [← ht] at h1
          rw [List.length_append, List.length_singleton]
          omega
        have e9 := v_tried hj2 hsp2 (by simp) hBd2
        rw [fault_more hf] at e9
        rw [show (Option.isNone (none : Option Int)) = true from rfl, if_pos rfl, show addS told [(Ch.mk 10).c] = some (told ++ [10]) from addS_ok (by rw [List.length_append] at hj2; simp at hj2 ⊢; omega), ofO_some, bind_ok, e9]
        show Sat (O.bind (O.bind (O.bind ((d_same (badF (ls.length + 1)) (badF (ls.length + 1))).up s4) _) _) _) _
        rw [same_bad]
        simp only [up_ok, bind_ok, Bool.not_true, Bool.false_eq_true, if_false]
        exact sat_ok ⟨(), rfl, hI⟩
    · intro v s1 _
      rw [flX]
      show Sat (O.bind (O.bind (O.bind (O.bind (O.bind (smL oddR s1) _) _) _) _) _) _
      rw [smL_ok (by simp [oddR]), bind_ok, map_odd]
      simp only [bind_ok]
      rw [smL_ok (by simp [oddR])]
      simp only [bind_ok]
      rw [show d_same (En.e (oddR.map fun p => F.int p.2)) (En.e (List.map (fun x_731 => x_731.2) ([((fun (p : (Unit) × (Int)) => ((fun (x : Unit) => (En.e x : F)) p.1, (id : Int → Int) p.2)) ((), (0 : Int))), ((fun (p : (Int) × (Int)) => ((fun (x : Int) => (En.e x : F)) p.1, (id : Int → Int) p.2)) ((5 : Int), (0 : Int))), ((fun (p : (List (Ch)) × (Int)) => ((fun (x : List (Ch)) => (En.e x : F)) p.1, (id : Int → Int) p.2)) (([(Ch.mk 104)] : List (Ch)), (0 : Int))), ((fun (p : (List Nat) × (Int)) => ((fun (x : List Nat) => (En.e x : F)) p.1, (id : Int → Int) p.2)) (([104, 120] : List Nat), (1 : Int))), ((fun (p : (Ch) × (Int)) => ((fun (x : Ch) => (En.e x : F)) p.1, (id : Int → Int) p.2)) ((Ch.mk 120), (0 : Int))), ((fun (p : (Bool) × (Int)) => ((fun (x : Bool) => (En.e x : F)) p.1, (id : Int → Int) p.2)) (true, (0 : Int))), ((F.dct []), (0 : Int))] : List (F × Int)))) = .ok true () from same_refl (by rfl)]
      simp only [up_ok, bind_ok, Bool.not_true, Bool.false_eq_true, if_false]
      show Sat (O.bind (O.bind (O.bind (smL oddT s1) _) _) _) _
      rw [smL_ok (by simp [oddT]), bind_ok, map_tried, bind_ok, show mulL ([(([98, 97, 100] : List Nat), (0 : Int))] : List ((List Nat) × (Int))) (6 : Int) = _ from mulL_ok (k := 6) (by simp) (by decide), ofO_some, bind_ok, end_eq, ofO_some, bind_ok, if_pos rfl, tried_nil, up_ok, bind_ok, nil_eq, ofO_some]
      exact sat_ok rfl
  obtain ⟨b, s', e, rfl⟩ := main
  exact ⟨s', e⟩
end LB

theorem PySem.Challenge.cw_longbough_k59_texts_refused_holds : PySem.Challenge.rw_longbough_k59_texts_refused.Holds := by
  exact LBE.main fun ns _ => LB.r_law ns (LB.law_true _ (LB.spOk0 ns))
