import PyProof.Rows.All
import HandS.ForExc
import HandS.More
import HandS.Deep
import HandS.Conv
import HandS.Comp
import HandS.Iter
import HandS.Text
import HandS.Dict
import HandS.Zip
import PyProof.StrBlock2
import HandS.TupMul
import HandS.Lambda
import HandS.HeadHook4
import HandS.Wide
import HandS.TupAny
import HandS.Style
import PyProof.Rows.InDataRows
import KE.DataCmp
import KE.SortData
import HandS.SortInts
import HandS.IsInst
import HandS.TupLen
import HandS.RaiseMore
import HandS.WordsDict
import HandS.SetFor
import HandS.Strs
import PyProof.Rows.SetFrom
import HandS.Small
import HandS.Replace
import HandS.Defaults
import HandS.WordsExc
import KE.GoesEnum
import HandS.ExcIs
import HandS.HeadHook1
import PyProof.ExcBaseAll.ValueError
import KE.KDictDisplayH
import HandS.Rev
import KE.KDictWalk
import KE.KDictSum
import KE.DataMinMax
import HandS.TryOnly
import HandS.HotCalls
import HandS.HeadWalk
import KE.GoesZip
import KE.KDictZip
import HandS.SetKeys
import PyProof.DictRoadsH
import PyProof.Rows.TupTab
import HandS.TupSets
import HandS.ExcInit
import HandS.HeadHook3
import HandS.ClsMeth
import HandS.Head2
import KE.KDictList
import HandS.DictSubView
import PyProof.Rows.TupAdd
import PyProof.SumWalkG
import HandS.ExcOwn
import KE.KExcIs
import HandS.ExcField
import HandS.HeadEnd
import HandS.Exc
import HandS.ExcCtx
import PyProof.CompFree
import KE.GoesComp
import HandS.Head0
import HandS.Head1
import HandS.HeadHook2
import HandS.Words
import PySem.Challenge.RW_roadcall_k12_the_same_roads
set_option Elab.async false
set_option linter.all false
set_option maxRecDepth 100000
set_option maxHeartbeats 4000000
namespace Y
open PySem PySem.Spec L2
inductive DKey where
 | k (x : Key)
 | t (xs : List Key)
 deriving DecidableEq
inductive SV where
 | fz (d : PyData)
 | ro (d : PyData)
 | lst (xs : List SV)
 | dic (b : Bool) (kvs : List (DKey × SV))
 | fd (b : Bool) (kvs : List (DKey × PyData))
 | tb (x q : Str)
 | gone
 | nd (kvs : List (List (List Int) × PyData))
 | ob (c f : Str) (xs : List PyData)
 | nq (d : PyData)
 | ne (kvs : List (List (List Int) × List PyData))
inductive Rt where
 | s (i : Nat)
 | a (j : Nat)
 deriving DecidableEq
inductive Sl where
 | tr (t : SV)
 | ar (j : Nat)
 | ex (c : Str) (d : Option PyData)
 | ls (js : List Nat)
structure DS where
 sl : List (Option Sl)
 ar : List SV
inductive EV where
 | sv (t : SV)
 | pk (r : Rt) (p : List Nat)
inductive Out (α : Type) where
 | fail
 | ok (x : α) (S : DS) (T : List Rt)
 | exc (c : Str) (d : Option PyData) (S : DS)
inductive SOut where
 | fail
 | nx (S : DS)
 | rt (t : SV) (A : List SV)
 | bk (S : DS)
 | ct (S : DS)
 | exc (c : Str) (d : Option PyData) (S : DS)
inductive FOut where
 | fail
 | ret (t : SV) (A : List SV)
 | exc (c : Str) (d : Option PyData) (A : List SV)
def Out.bind {α β : Type} (o : Out α) (f : α → DS → Out β) : Out β :=
 match o with
 | .fail => .fail
 | .exc c d S => .exc c d S
 | .ok x S T =>
  match f x S with
  | .fail => .fail
  | .exc c d S' => .exc c d S'
  | .ok y S' T' => .ok y S' (T ++ T')
def DS.get (S : DS) : Rt → Option SV
 | .s i => match S.sl[i]? with
  | some (some (.tr t)) => some t
  | _ => none
 | .a j => S.ar[j]?
def DS.put (S : DS) (r : Rt) (t : SV) : DS :=
 match r with
 | .s i => { S with sl := S.sl.set i (some (.tr t)) }
 | .a j => { S with ar := S.ar.set j t }
def SV.sub : SV → List Nat → Option SV
 | t, [] => some t
 | .lst xs, k :: p => match xs[k]? with
  | some x => x.sub p
  | none => none
 | _, _ :: _ => none
def SV.setAt : SV → List Nat → SV → SV
 | _, [], u => u
 | .lst xs, k :: p, u => match xs[k]? with
  | some x => .lst (xs.set k (x.setAt p u))
  | none => .lst xs
 | t, _ :: _, _ => t
def TupF (F : Hp) (a : Addr) (xs : List V) : Prop := ∃ o : Obj, F a = some (.frz o (.tup xs)) ∧ o.dict = none
theorem TupF.mono {F F' : Hp} {a : Addr} {xs : List V} (h : TupF F a xs) (k : ∀ a o, F a = some o → F' a = some o) : TupF F' a xs := let ⟨o, h1, h2⟩ := h; ⟨o, k _ _ h1, h2⟩
theorem TupF.sq {K : PySem.W.Frag} {F H : Hp} {a : Addr} {xs : List V} (h : TupF F a xs) (k : ∀ a o, F a = some o → H a = some o) : SqT K H a xs := let ⟨o, h1, _⟩ := h; .inl (.inr ⟨o, k _ _ h1⟩)
mutual
inductive Fz (F : Hp) : V → PyData → Prop
 | non : Fz F .non .none
 | bl (b : Bool) : Fz F (.bl b) (.bool b)
 | int (i : Int) : Fz F (.int i) (.int i)
 | str (x : Str) : Fz F (.str x) (.str x)
 | lst {a : Addr} {xs : List V} {ds : List PyData} : F a = some (.lst xs) → FzAll F xs ds → Fz F (.ref a) (.list ds)
 | tup {a : Addr} {xs : List V} {ds : List PyData} : TupF F a xs → FzAll F xs ds → Fz F (.ref a) (.tuple ds)
inductive FzAll (F : Hp) : List V → List PyData → Prop
 | nil : FzAll F [] []
 | cons {v : V} {vs : List V} {d : PyData} {ds : List PyData} : Fz F v d → FzAll F vs ds → FzAll F (v :: vs) (d :: ds)
end
mutual
inductive FzN (F : Hp) : V → PyData → Prop
 | non : FzN F .non .none
 | bl (b : Bool) : FzN F (.bl b) (.bool b)
 | int (i : Int) : FzN F (.int i) (.int i)
 | str (x : Str) : FzN F (.str x) (.str x)
 | tup {a : Addr} {o : Obj} {xs : List V} {ds : List PyData} : F a = some (.frz o (.tup xs)) → o.dict = none → FzNAll F xs ds → FzN F (.ref a) (.tuple ds)
inductive FzNAll (F : Hp) : List V → List PyData → Prop
 | nil : FzNAll F [] []
 | cons {v : V} {vs : List V} {d : PyData} {ds : List PyData} : FzN F v d → FzNAll F vs ds → FzNAll F (v :: vs) (d :: ds)
end
def FdOk (F : Hp) (b : Bool) (kvs : List (DKey × PyData)) (v : V) : Prop := ∃ a o us, v = .ref a ∧ FzAll F us (kvs.map (·.2)) ∧
 ((b = false ∧ ∃ ws, F a = some (.frz o (.dK ws)) ∧ ws.map (fun p => DKey.k p.1) = kvs.map (·.1) ∧ us = ws.map (·.2)) ∨
 (b = true ∧ ∃ ws, F a = some (.frz o (.dT ws)) ∧ ws.map (fun p => DKey.t p.1) = kvs.map (·.1) ∧ us = ws.map (·.2)))
def tbP (K : PySem.W.Frag) (x : Str) : Addr := (He.cT K (x, none)).2
def TbOk (P : Addr) (q : Str) (F H : Hp) : Prop := F P = none ∧ ∃ ps : Array Value, H P = some (.tbl ps) ∧ TriplesOk ps.toList ∧ ∀ (pos : Pos) (cv : Value), codeAmong pos ps.toList = some cv → ∃ c, cv = .ref c ∧ F c = some (LamX.CodeO c q)
theorem tbOk_mono {P : Addr} {q : Str} {F F' H H' : Hp} (k : ∀ a o, F a = some o → F' a = some o) (e1 : H' P = H P) (e2 : F' P = none) (h : TbOk P q F H) : TbOk P q F' H' := by
 obtain ⟨_, ps, h1, h2, h3⟩ := h
 refine ⟨e2, ps, e1.trans h1, h2, fun pos cv hc => ?_⟩
 obtain ⟨c, c1, c2⟩ := h3 pos cv hc
 exact ⟨c, c1, k _ _ c2⟩
def netD (ks : List (List Int)) : PyData := .tuple (ks.map fun k => .tuple (k.map .int))
def hashN (ks : List (List Int)) : Int := reduceHash (Builtin.Tuple.tupleHashOf (ks.map fun k => reduceHash (Builtin.Tuple.tupleHashOf (k.map hashInt))))
def NdO (a : Addr) (ws : List (List (List Int) × Addr × V)) (h : Heap) : Prop := ws.length ≤ sizeLine ∧ (a == sysModules) = false ∧ (ws.map (·.1)).Nodup ∧ ∃ vs : List Value, Vals (ws.map (·.2.2)) vs ∧
 ∃ o es ep, h.get? a = some o ∧ o.ExactDict ∧ o.data = .dict es ep ∧ es.toList = (ws.zip vs).map fun p => ⟨hashN p.1.1, .ref p.1.2.1, p.2⟩
def NdR (F : Hp) (ws : List (List (List Int) × Addr × V)) (kvs : List (List (List Int) × PyData)) : Prop :=
 ws.map (·.1) = kvs.map (·.1) ∧ FzAll F (ws.map fun p => .ref p.2.1) (kvs.map fun p => netD p.1) ∧ FzAll F (ws.map (·.2.2)) (kvs.map (·.2))
def NeL (F H : Hp) : List Addr → List (List PyData) → Prop
 | [], [] => True
 | l :: ls, xs :: xss => (F l = none ∧ ∃ vs, H l = some (.lst vs) ∧ FzAll F vs xs) ∧ NeL F H ls xss
 | _, _ => False
mutual
def Own (K : PySem.W.Frag) (F H : Hp) : SV → V → List Addr → Prop
 | .fz d, v, fp => Fz F v d ∧ fp = []
 | .ro d, v, fp => Dp K F v d ∧ fp = []
 | .lst xs, v, fp => ∃ a vs fq, v = .ref a ∧ fp = a :: fq ∧ H a = some (.lst vs) ∧ F a = none ∧ OwnL K F H xs vs fq
 | .dic b kvs, v, fp => ∃ a us fq, v = .ref a ∧ fp = a :: fq ∧ F a = none ∧ OwnD K F H kvs us fq ∧
   ((b = false ∧ ∃ ws, H a = some (.dK ws) ∧ ws.map (fun p => DKey.k p.1) = kvs.map (·.1) ∧ us = ws.map (·.2)) ∨
   (b = true ∧ ∃ ws, H a = some (.dT ws) ∧ ws.map (fun p => DKey.t p.1) = kvs.map (·.1) ∧ us = ws.map (·.2)))
 | .fd b kvs, v, fp => fp = [] ∧ FdOk F b kvs v
 | .tb x q, v, fp => v = .ref (tbP K x) ∧ fp = [tbP K x] ∧ TbOk (tbP K x) q F H
 | .gone, _, fp => fp = []
 | .nd kvs, v, fp => ∃ a ws, v = .ref a ∧ fp = [a] ∧ F a = none ∧ H a = some (.ext (NdO a ws)) ∧ NdR F ws kvs
 | .ob C f xs, v, fp => ∃ a dx l vs, v = .ref a ∧ fp = [a, dx, l] ∧ (F a = none ∧ F dx = none ∧ F l = none) ∧ H a = some (.ins (He.ga K C) dx [(f, .ref l)]) ∧ H dx = some (.own a) ∧ H l = some (.lst vs) ∧ FzAll F vs xs
 | .nq d, v, fp => FzN F v d ∧ fp = []
 | .ne kvs, v, fp => ∃ a ws ls, v = .ref a ∧ fp = a :: ls ∧ F a = none ∧ H a = some (.ext (NdO a ws)) ∧ ws.map (·.1) = kvs.map (·.1) ∧ FzAll F (ws.map fun p => .ref p.2.1) (kvs.map fun p => netD p.1) ∧ ws.map (·.2.2) = ls.map V.ref ∧ NeL F H ls (kvs.map (·.2))
def OwnL (K : PySem.W.Frag) (F H : Hp) : List SV → List V → List Addr → Prop
 | [], vs, fp => vs = [] ∧ fp = []
 | x :: xs, vs, fp => ∃ v r f g, vs = v :: r ∧ fp = f ++ g ∧ Own K F H x v f ∧ OwnL K F H xs r g
def OwnD (K : PySem.W.Frag) (F H : Hp) : List (DKey × SV) → List V → List Addr → Prop
 | [], vs, fp => vs = [] ∧ fp = []
 | (_, x) :: xs, vs, fp => ∃ v r f g, vs = v :: r ∧ fp = f ++ g ∧ Own K F H x v f ∧ OwnD K F H xs r g
end
structure Cn where
 K : PySem.W.Frag
 mg : Str → Option Value
 EX : Hp → V → Str → Option PyData → Prop
def SlOk (C : Cn) (AV : List V) (F H : Hp) (v : V) : Sl → List Addr → Prop
 | .tr t, fp => Own C.K F H t v fp
 | .ar j, fp => AV[j]? = some v ∧ fp = []
 | .ex c d, fp => (∃ F₀, (∀ a o, F₀ a = some o → F a = some o) ∧ C.EX F₀ v c d) ∧ fp = []
 | .ls js, fp => (∃ a vs, v = .ref a ∧ F a = some (.lst vs) ∧ js.map (fun j => AV[j]?) = vs.map some) ∧ fp = []
theorem slLs_mono {C : Cn} {AV : List V} {F F' H H' : Hp} {v : V} {js : List Nat} {fp : List Addr} (k : ∀ a o, F a = some o → F' a = some o) (h : SlOk C AV F H v (.ls js) fp) : SlOk C AV F' H' v (.ls js) fp := by
 obtain ⟨⟨a, vs, h1, h2, h4⟩, h3⟩ := h
 exact ⟨⟨a, vs, h1, k _ _ h2, h4⟩, h3⟩
theorem slEx_mono {C : Cn} {AV AV' : List V} {F F' H H' : Hp} {v : V} {c : Str} {d : Option PyData} {fp : List Addr} (k : ∀ a o, F a = some o → F' a = some o) (h : SlOk C AV F H v (.ex c d) fp) : SlOk C AV' F' H' v (.ex c d) fp := by
 obtain ⟨⟨F₀, h1, h2⟩, h3⟩ := h
 exact ⟨⟨F₀, fun a o e => k a o (h1 a o e), h2⟩, h3⟩
structure StOk (C : Cn) (AV : List V) (F H : Hp) (σ : L2.St) (S : DS) (fp : Rt → List Addr) : Prop where
 fh : ∀ a o, F a = some o → H a = some o
 sl : ∀ i x, S.sl[i]? = some (some x) → ∃ v, σ[i]? = some (some v) ∧ SlOk C AV F H v x (fp (.s i))
 ar : ∀ j t, S.ar[j]? = some t → ∃ v, AV[j]? = some v ∧ Own C.K F H t v (fp (.a j))
 dj : ∀ r r' a, a ∈ fp r → a ∈ fp r' → r = r'
 nd : ∀ r, (fp r).Nodup
 mm : ∀ r a, a ∈ fp r → F a = none ∧ ∃ o, H a = some o
 mt : ∀ r a xs, a ∈ fp r → H a ≠ some (.tup xs)
 ln : S.sl.length = σ.length
 la : S.ar.length = AV.length
structure Evo (R : Addr → Prop) (F H F' H' : Hp) : Prop where
 fsub : ∀ a o, F a = some o → F' a = some o
 keep : ∀ a o, H a = some o → ¬ R a → H' a = some o
 fnew : ∀ a o, F' a = some o → F a = none → R a ∨ H a = none ∨ ∃ xs, H a = some (.tup xs)
 dom : ∀ a o, H a = some o → ∃ o', H' a = some o'
def Rg (T : List Rt) (fp : Rt → List Addr) (a : Addr) : Prop := ∃ r ∈ T, a ∈ fp r
structure Post (C : Cn) (AV : List V) (F H : Hp) (σ : L2.St) (S : DS) (fp : Rt → List Addr) (T : List Rt) (S' : DS) (F' H' : Hp) (fp' : Rt → List Addr) : Prop where
 st : StOk C AV F' H' σ S' fp'
 evo : Evo (Rg T fp) F H F' H'
 same : ∀ r, r ∉ T → fp' r = fp r ∧ S'.get r = S.get r
 new : ∀ r a, a ∈ fp' r → Rg T fp a ∨ H a = none ∨ (r ∉ T)
def Walk (H : Hp) : V → List Nat → V → Prop
 | v, [], u => u = v
 | v, k :: p, u => ∃ a vs w, v = .ref a ∧ H a = some (.lst vs) ∧ vs[k]? = some w ∧ Walk H w p u
def rootV (σ : L2.St) (AV : List V) : Rt → Option V
 | .s i => match σ[i]? with
  | some (some v) => some v
  | _ => none
 | .a j => AV[j]?
def EOk (C : Cn) (AV : List V) (F H : Hp) (σ : L2.St) (v : V) : EV → List Addr → Prop
 | .sv t, fe => Own C.K F H t v fe
 | .pk r p, fe => fe = [] ∧ ∃ v0, rootV σ AV r = some v0 ∧ Walk H v0 p v
def EV.tree (S : DS) : EV → Option SV
 | .sv t => some t
 | .pk r p => match S.get r with
  | some t => t.sub p
  | none => none
structure VP (C : Cn) (AV : List V) (F H : Hp) (σ : L2.St) (fp : Rt → List Addr) (T : List Rt) (S' : DS) (F' H' : Hp) (fp' : Rt → List Addr) (v : V) (e : EV) (fe : List Addr) : Prop where
 val : EOk C AV F' H' σ v e fe
 dj : ∀ r a, a ∈ fp' r → a ∉ fe
 nd : fe.Nodup
 new : ∀ a ∈ fe, Rg T fp a ∨ H a = none
 tr : (e.tree S').isSome = true
section
variable {K : PySem.W.Frag} {F F' H H' : Hp}
mutual
theorem dp_mono (k : ∀ a o, F a = some o → F' a = some o) : ∀ (d : PyData) (v : V), Dp K F v d → Dp K F' v d
 | .none, _, h => by cases h; exact .non
 | .bool b, _, h => by cases h; exact .bl b
 | .int i, _, h => by cases h; exact .int i
 | .str x, _, h => by cases h; exact .str x
 | .list ds, _, h => by
  cases h with
  | lst hs ha =>
   refine .lst ?_ (dpAll_mono k ds _ ha)
   rcases hs with (q | ⟨o, q⟩) | q
   ·exact .inl (.inl (k _ _ q))
   ·exact .inl (.inr ⟨o, k _ _ q⟩)
   ·exact .inr q
 | .tuple ds, _, h => by
  cases h with
  | tup hs ha =>
   refine .tup ?_ (dpAll_mono k ds _ ha)
   rcases hs with (q | ⟨o, q⟩) | q
   ·exact .inl (.inl (k _ _ q))
   ·exact .inl (.inr ⟨o, k _ _ q⟩)
   ·exact .inr q
 | .dict _, _, h => by cases h
theorem dpAll_mono (k : ∀ a o, F a = some o → F' a = some o) : ∀ (ds : List PyData) (vs : List V), DpAll K F vs ds → DpAll K F' vs ds
 | [], _, h => by cases h; exact .nil
 | d :: ds, _, h => by
  cases h with
  | cons h1 h2 => exact .cons (dp_mono k d _ h1) (dpAll_mono k ds _ h2)
end
mutual
theorem fz_mono (k : ∀ a o, F a = some o → F' a = some o) : ∀ (d : PyData) (v : V), Fz F v d → Fz F' v d
 | .none, _, h => by cases h; exact .non
 | .bool b, _, h => by cases h; exact .bl b
 | .int i, _, h => by cases h; exact .int i
 | .str x, _, h => by cases h; exact .str x
 | .list ds, _, h => by
  cases h with
  | lst hs ha => exact .lst (k _ _ hs) (fzAll_mono k ds _ ha)
 | .tuple ds, _, h => by
  cases h with
  | tup hs ha => exact .tup (hs.mono k) (fzAll_mono k ds _ ha)
 | .dict _, _, h => by cases h
theorem fzAll_mono (k : ∀ a o, F a = some o → F' a = some o) : ∀ (ds : List PyData) (vs : List V), FzAll F vs ds → FzAll F' vs ds
 | [], _, h => by cases h; exact .nil
 | d :: ds, _, h => by
  cases h with
  | cons h1 h2 => exact .cons (fz_mono k d _ h1) (fzAll_mono k ds _ h2)
end
mutual
theorem fz_dp : ∀ (d : PyData) (v : V), Fz F v d → Dp K F v d
 | .none, _, h => by cases h; exact .non
 | .bool b, _, h => by cases h; exact .bl b
 | .int i, _, h => by cases h; exact .int i
 | .str x, _, h => by cases h; exact .str x
 | .list ds, _, h => by
  cases h with
  | lst hs ha => exact .lst (.inl (.inl hs)) (fzAll_dp ds _ ha)
 | .tuple ds, _, h => by
  cases h with
  | tup hs ha => exact .tup (hs.sq fun _ _ e => e) (fzAll_dp ds _ ha)
 | .dict _, _, h => by cases h
theorem fzAll_dp : ∀ (ds : List PyData) (vs : List V), FzAll F vs ds → DpAll K F vs ds
 | [], _, h => by cases h; exact .nil
 | d :: ds, _, h => by
  cases h with
  | cons h1 h2 => exact .cons (fz_dp d _ h1) (fzAll_dp ds _ h2)
end
mutual
theorem fzN_mono (k : ∀ a o, F a = some o → F' a = some o) : ∀ (d : PyData) (v : V), FzN F v d → FzN F' v d
 | .none, _, h => by cases h; exact .non
 | .bool b, _, h => by cases h; exact .bl b
 | .int i, _, h => by cases h; exact .int i
 | .str x, _, h => by cases h; exact .str x
 | .list ds, _, h => by cases h
 | .tuple ds, _, h => by
  cases h with
  | tup hs hd ha => exact .tup (k _ _ hs) hd (fzNAll_mono k ds _ ha)
 | .dict _, _, h => by cases h
theorem fzNAll_mono (k : ∀ a o, F a = some o → F' a = some o) : ∀ (ds : List PyData) (vs : List V), FzNAll F vs ds → FzNAll F' vs ds
 | [], _, h => by cases h; exact .nil
 | d :: ds, _, h => by
  cases h with
  | cons h1 h2 => exact .cons (fzN_mono k d _ h1) (fzNAll_mono k ds _ h2)
end
mutual
theorem fzN_dp : ∀ (d : PyData) (v : V), FzN F v d → Dp K F v d
 | .none, _, h => by cases h; exact .non
 | .bool b, _, h => by cases h; exact .bl b
 | .int i, _, h => by cases h; exact .int i
 | .str x, _, h => by cases h; exact .str x
 | .list ds, _, h => by cases h
 | .tuple ds, _, h => by
  cases h with
  | tup hs hd ha => exact .tup (.inl (.inr ⟨_, hs⟩)) (fzNAll_dp ds _ ha)
 | .dict _, _, h => by cases h
theorem fzNAll_dp : ∀ (ds : List PyData) (vs : List V), FzNAll F vs ds → DpAll K F vs ds
 | [], _, h => by cases h; exact .nil
 | d :: ds, _, h => by
  cases h with
  | cons h1 h2 => exact .cons (fzN_dp d _ h1) (fzNAll_dp ds _ h2)
end
theorem neL_keep (k : ∀ a o, F a = some o → F' a = some o) : ∀ (ls : List Addr) (xss : List (List PyData)), NeL F H ls xss → (∀ a ∈ ls, H' a = H a ∧ F' a = none) → NeL F' H' ls xss
 | [], [], _, _ => trivial
 | l :: ls, xs :: xss, h, q => by
  obtain ⟨⟨_, vs, h2, h3⟩, h4⟩ := h
  have r := q l (by simp)
  exact ⟨⟨r.2, vs, r.1.trans h2, fzAll_mono k _ _ h3⟩, neL_keep k ls xss h4 fun a ha => q a (by simp [ha])⟩
 | [], _ :: _, h, _ => h.elim
 | _ :: _, [], h, _ => h.elim
theorem neL_fp : ∀ (ls : List Addr) (xss : List (List PyData)), NeL F H ls xss → ∀ a ∈ ls, F a = none ∧ ∃ vs, H a = some (.lst vs)
 | [], _, _, a, ha => by cases ha
 | l :: ls, xs :: xss, h, a, ha => by
  obtain ⟨⟨h1, vs, h2, h3⟩, h4⟩ := h
  rcases List.mem_cons.mp ha with e | ha
  ·rw [e]; exact ⟨h1, vs, h2⟩
  ·exact neL_fp ls xss h4 a ha
 | _ :: _, [], h, _, _ => h.elim
theorem fdOk_mono {b : Bool} {kvs : List (DKey × PyData)} {v : V} (k : ∀ a o, F a = some o → F' a = some o) (h : FdOk F b kvs v) : FdOk F' b kvs v := by
 obtain ⟨a, o, us, e, f, q⟩ := h
 exact ⟨a, o, us, e, fzAll_mono k _ _ f, q.imp (fun ⟨h1, ws, h2, h3⟩ => ⟨h1, ws, k _ _ h2, h3⟩) fun ⟨h1, ws, h2, h3⟩ => ⟨h1, ws, k _ _ h2, h3⟩⟩
theorem ndR_mono {ws : List (List (List Int) × Addr × V)} {kvs : List (List (List Int) × PyData)} (k : ∀ a o, F a = some o → F' a = some o) (h : NdR F ws kvs) : NdR F' ws kvs := ⟨h.1, fzAll_mono k _ _ h.2.1, fzAll_mono k _ _ h.2.2⟩
mutual
theorem own_keep (k : ∀ a o, F a = some o → F' a = some o) : ∀ (t : SV) (v : V) (fp : List Addr), Own K F H t v fp → (∀ a ∈ fp, H' a = H a ∧ F' a = none) → Own K F' H' t v fp
 | .fz d, v, fp, h, _ => by
  unfold Own at h ⊢
  exact ⟨fz_mono k d v h.1, h.2⟩
 | .ro d, v, fp, h, _ => by
  unfold Own at h ⊢
  exact ⟨dp_mono k d v h.1, h.2⟩
 | .lst xs, v, fp, h, q => by
  unfold Own at h ⊢
  obtain ⟨a, vs, fq, e1, e2, e3, e4, e5⟩ := h
  subst e2
  exact ⟨a, vs, fq, e1, rfl, (q a (by simp)).1.trans e3, (q a (by simp)).2, ownL_keep k xs vs fq e5 fun b hb => q b (by simp [hb])⟩
 | .dic b kvs, v, fp, h, q => by
  unfold Own at h ⊢
  obtain ⟨a, us, fq, e1, e2, e3, e4, e5⟩ := h
  subst e2
  refine ⟨a, us, fq, e1, rfl, (q a (by simp)).2, ownD_keep k kvs us fq e4 fun b hb => q b (by simp [hb]), ?_⟩
  rw [(q a (by simp)).1]
  exact e5
 | .fd b kvs, v, fp, h, _ => by
  unfold Own at h ⊢
  exact ⟨h.1, fdOk_mono k h.2⟩
 | .tb x q, v, fp, h, r => by
  unfold Own at h ⊢
  obtain ⟨h1, h2, h3⟩ := h
  have r1 := r (tbP K x) (by rw [h2]; exact List.mem_cons_self)
  exact ⟨h1, h2, tbOk_mono k r1.1 r1.2 h3⟩
 | .gone, v, fp, h, _ => by
  unfold Own at h ⊢
  exact h
 | .nd kvs, v, fp, h, r => by
  unfold Own at h ⊢
  obtain ⟨a, ws, h1, h2, h3, h4, h5⟩ := h
  have r1 := r a (by rw [h2]; exact List.mem_cons_self)
  exact ⟨a, ws, h1, h2, r1.2, r1.1.trans h4, ndR_mono k h5⟩
 | .ob C f xs, v, fp, h, r => by
  unfold Own at h ⊢
  obtain ⟨a, dx, l, vs, h1, h2, _, h4, h5, h6, h7⟩ := h
  have ra := r a (by rw [h2]; simp)
  have rd := r dx (by rw [h2]; simp)
  have rl := r l (by rw [h2]; simp)
  exact ⟨a, dx, l, vs, h1, h2, ⟨ra.2, rd.2, rl.2⟩, ra.1.trans h4, rd.1.trans h5, rl.1.trans h6, fzAll_mono k xs _ h7⟩
 | .nq d, v, fp, h, _ => by
  unfold Own at h ⊢
  exact ⟨fzN_mono k d v h.1, h.2⟩
 | .ne kvs, v, fp, h, r => by
  unfold Own at h ⊢
  obtain ⟨a, ws, ls, h1, h2, h3, h4, h5, h6, h7, h8⟩ := h
  have ra := r a (by rw [h2]; exact List.mem_cons_self)
  exact ⟨a, ws, ls, h1, h2, ra.2, ra.1.trans h4, h5, fzAll_mono k _ _ h6, h7, neL_keep k _ _ h8 fun b hb => r b (by rw [h2]; exact List.mem_cons_of_mem _ hb)⟩
theorem ownL_keep (k : ∀ a o, F a = some o → F' a = some o) : ∀ (ts : List SV) (vs : List V) (fp : List Addr), OwnL K F H ts vs fp → (∀ a ∈ fp, H' a = H a ∧ F' a = none) → OwnL K F' H' ts vs fp
 | [], vs, fp, h, _ => by
  unfold OwnL at h ⊢
  exact h
 | x :: xs, vs, fp, h, q => by
  unfold OwnL at h ⊢
  obtain ⟨v, r, f, g, e1, e2, e3, e4⟩ := h
  subst e2
  exact ⟨v, r, f, g, e1, rfl, own_keep k x v f e3 fun a ha => q a (by simp [ha]), ownL_keep k xs r g e4 fun a ha => q a (by simp [ha])⟩
theorem ownD_keep (k : ∀ a o, F a = some o → F' a = some o) : ∀ (ts : List (DKey × SV)) (vs : List V) (fp : List Addr), OwnD K F H ts vs fp → (∀ a ∈ fp, H' a = H a ∧ F' a = none) → OwnD K F' H' ts vs fp
 | [], vs, fp, h, _ => by
  unfold OwnD at h ⊢
  exact h
 | (_, x) :: xs, vs, fp, h, q => by
  unfold OwnD at h ⊢
  obtain ⟨v, r, f, g, e1, e2, e3, e4⟩ := h
  subst e2
  exact ⟨v, r, f, g, e1, rfl, own_keep k x v f e3 fun a ha => q a (by simp [ha]), ownD_keep k xs r g e4 fun a ha => q a (by simp [ha])⟩
end
mutual
theorem own_fp : ∀ (t : SV) (v : V) (fp : List Addr), Own K F H t v fp → ∀ a ∈ fp, F a = none ∧ ∃ o, H a = some o
 | .fz d, v, fp, h => by
  unfold Own at h
  rw [h.2]
  intro a ha
  cases ha
 | .ro d, v, fp, h => by
  unfold Own at h
  rw [h.2]
  intro a ha
  cases ha
 | .lst xs, v, fp, h => by
  unfold Own at h
  obtain ⟨a, vs, fq, e1, e2, e3, e4, e5⟩ := h
  subst e2
  intro b hb
  rcases List.mem_cons.mp hb with rfl | hb
  ·exact ⟨e4, _, e3⟩
  ·exact ownL_fp xs vs fq e5 b hb
 | .dic b kvs, v, fp, h => by
  unfold Own at h
  obtain ⟨a, us, fq, e1, e2, e3, e4, e5⟩ := h
  subst e2
  intro b hb
  rcases List.mem_cons.mp hb with rfl | hb
  ·rcases e5 with ⟨_, ws, q, _⟩ | ⟨_, ws, q, _⟩ <;> exact ⟨e3, _, q⟩
  ·exact ownD_fp kvs us fq e4 b hb
 | .fd b kvs, v, fp, h => by
  unfold Own at h
  rw [h.1]
  intro a ha
  cases ha
 | .tb x q, v, fp, h => by
  unfold Own at h
  obtain ⟨_, h2, h3, ps, h4, _⟩ := h
  rw [h2]
  intro a ha
  rw [List.mem_singleton.mp ha]
  exact ⟨h3, _, h4⟩
 | .gone, v, fp, h => by
  unfold Own at h
  rw [h]
  intro a ha
  cases ha
 | .nd kvs, v, fp, h => by
  unfold Own at h
  obtain ⟨a, ws, h1, h2, h3, h4, _⟩ := h
  rw [h2]
  intro b hb
  rw [List.mem_singleton.mp hb]
  exact ⟨h3, _, h4⟩
 | .ob C f xs, v, fp, h => by
  unfold Own at h
  obtain ⟨a, dx, l, vs, h1, h2, ⟨f1, f2, f3⟩, h4, h5, h6, _⟩ := h
  rw [h2]
  intro b hb
  rcases List.mem_cons.mp hb with rfl | hb
  ·exact ⟨f1, _, h4⟩
  ·rcases List.mem_cons.mp hb with rfl | hb
   ·exact ⟨f2, _, h5⟩
   ·rw [List.mem_singleton.mp hb]
    exact ⟨f3, _, h6⟩
 | .nq d, v, fp, h => by
  unfold Own at h
  rw [h.2]
  intro a ha
  cases ha
 | .ne kvs, v, fp, h => by
  unfold Own at h
  obtain ⟨a, ws, ls, h1, h2, h3, h4, h5, h6, h7, h8⟩ := h
  rw [h2]
  intro b hb
  rcases List.mem_cons.mp hb with rfl | hb
  ·exact ⟨h3, _, h4⟩
  ·obtain ⟨z1, vs, z2⟩ := neL_fp _ _ h8 b hb
   exact ⟨z1, _, z2⟩
theorem ownL_fp : ∀ (ts : List SV) (vs : List V) (fp : List Addr), OwnL K F H ts vs fp → ∀ a ∈ fp, F a = none ∧ ∃ o, H a = some o
 | [], vs, fp, h => by
  unfold OwnL at h
  rw [h.2]
  intro a ha
  cases ha
 | x :: xs, vs, fp, h => by
  unfold OwnL at h
  obtain ⟨v, r, f, g, e1, e2, e3, e4⟩ := h
  subst e2
  intro a ha
  rcases List.mem_append.mp ha with ha | ha
  ·exact own_fp x v f e3 a ha
  ·exact ownL_fp xs r g e4 a ha
theorem ownD_fp : ∀ (ts : List (DKey × SV)) (vs : List V) (fp : List Addr), OwnD K F H ts vs fp → ∀ a ∈ fp, F a = none ∧ ∃ o, H a = some o
 | [], vs, fp, h => by
  unfold OwnD at h
  rw [h.2]
  intro a ha
  cases ha
 | (_, x) :: xs, vs, fp, h => by
  unfold OwnD at h
  obtain ⟨v, r, f, g, e1, e2, e3, e4⟩ := h
  subst e2
  intro a ha
  rcases List.mem_append.mp ha with ha | ha
  ·exact own_fp x v f e3 a ha
  ·exact ownD_fp xs r g e4 a ha
end
end
section
variable {K : PySem.W.Frag} {F F' H H' : Hp}
mutual
theorem own_nt : ∀ (t : SV) (v : V) (fp : List Addr), Own K F H t v fp → ∀ a ∈ fp, ∀ xs, H a ≠ some (.tup xs)
 | .fz d, v, fp, h => by
  unfold Own at h
  rw [h.2]
  intro a ha
  cases ha
 | .ro d, v, fp, h => by
  unfold Own at h
  rw [h.2]
  intro a ha
  cases ha
 | .fd b kvs, v, fp, h => by
  unfold Own at h
  rw [h.1]
  intro a ha
  cases ha
 | .lst xs, v, fp, h => by
  unfold Own at h
  obtain ⟨a, vs, fq, e1, e2, e3, e4, e5⟩ := h
  subst e2
  intro b hb
  rcases List.mem_cons.mp hb with rfl | hb
  ·intro xs e; rw [e3] at e; cases e
  ·exact ownL_nt xs vs fq e5 b hb
 | .dic b kvs, v, fp, h => by
  unfold Own at h
  obtain ⟨a, us, fq, e1, e2, e3, e4, e5⟩ := h
  subst e2
  intro b hb
  rcases List.mem_cons.mp hb with rfl | hb
  ·rcases e5 with ⟨_, ws, q, _⟩ | ⟨_, ws, q, _⟩ <;> (intro xs e; rw [q] at e; cases e)
  ·exact ownD_nt kvs us fq e4 b hb
 | .tb x q, v, fp, h => by
  unfold Own at h
  obtain ⟨_, h2, h3, ps, h4, _⟩ := h
  rw [h2]
  intro a ha xs e
  rw [List.mem_singleton.mp ha, h4] at e
  cases e
 | .gone, v, fp, h => by
  unfold Own at h
  rw [h]
  intro a ha
  cases ha
 | .nd kvs, v, fp, h => by
  unfold Own at h
  obtain ⟨a, ws, h1, h2, h3, h4, _⟩ := h
  rw [h2]
  intro b hb xs e
  rw [List.mem_singleton.mp hb, h4] at e
  cases e
 | .ob C f xs, v, fp, h => by
  unfold Own at h
  obtain ⟨a, dx, l, vs, h1, h2, _, h4, h5, h6, _⟩ := h
  rw [h2]
  intro b hb xs e
  rcases List.mem_cons.mp hb with rfl | hb
  ·rw [h4] at e; cases e
  ·rcases List.mem_cons.mp hb with rfl | hb
   ·rw [h5] at e; cases e
   ·rw [List.mem_singleton.mp hb, h6] at e; cases e
 | .nq d, v, fp, h => by
  unfold Own at h
  rw [h.2]
  intro a ha
  cases ha
 | .ne kvs, v, fp, h => by
  unfold Own at h
  obtain ⟨a, ws, ls, h1, h2, h3, h4, h5, h6, h7, h8⟩ := h
  rw [h2]
  intro b hb xs e
  rcases List.mem_cons.mp hb with rfl | hb
  ·rw [h4] at e; cases e
  ·obtain ⟨z1, vs, z2⟩ := neL_fp _ _ h8 b hb
   rw [z2] at e; cases e
theorem ownL_nt : ∀ (ts : List SV) (vs : List V) (fp : List Addr), OwnL K F H ts vs fp → ∀ a ∈ fp, ∀ xs, H a ≠ some (.tup xs)
 | [], vs, fp, h => by
  unfold OwnL at h
  rw [h.2]
  intro a ha
  cases ha
 | x :: xs, vs, fp, h => by
  unfold OwnL at h
  obtain ⟨v, r, f, g, e1, e2, e3, e4⟩ := h
  subst e2
  intro a ha
  rcases List.mem_append.mp ha with ha | ha
  ·exact own_nt x v f e3 a ha
  ·exact ownL_nt xs r g e4 a ha
theorem ownD_nt : ∀ (ts : List (DKey × SV)) (vs : List V) (fp : List Addr), OwnD K F H ts vs fp → ∀ a ∈ fp, ∀ xs, H a ≠ some (.tup xs)
 | [], vs, fp, h => by
  unfold OwnD at h
  rw [h.2]
  intro a ha
  cases ha
 | (_, x) :: xs, vs, fp, h => by
  unfold OwnD at h
  obtain ⟨v, r, f, g, e1, e2, e3, e4⟩ := h
  subst e2
  intro a ha
  rcases List.mem_append.mp ha with ha | ha
  ·exact own_nt x v f e3 a ha
  ·exact ownD_nt xs r g e4 a ha
end
end
mutual
def SV.frz : SV → Option PyData
 | .fz d => some d
 | .ro _ => none
 | .lst xs => match frzL xs with
  | some ds => some (.list ds)
  | none => none
 | .dic _ _ => none
 | .fd _ _ => none
 | .tb _ _ => none
 | .gone => none
 | .nd _ => none
 | .ob _ _ _ => none
 | .nq _ => none
 | .ne _ => none
def frzL : List SV → Option (List PyData)
 | [] => some []
 | x :: xs => match x.frz, frzL xs with
  | some d, some ds => some (d :: ds)
  | _, _ => none
end
section
variable {K : PySem.W.Frag} {F F' H H' : Hp}
mutual
theorem frz_ok (k : ∀ a o, F a = some o → F' a = some o) : ∀ (t : SV) (v : V) (fp : List Addr) (d : PyData), Own K F H t v fp → t.frz = some d → (∀ a ∈ fp, ∀ o, H a = some o → F' a = some o) → Fz F' v d
 | .fz d, v, fp, d', h, e, q => by
  unfold Own at h
  unfold SV.frz at e
  cases e
  exact fz_mono k _ _ h.1
 | .ro d, v, fp, d', h, e, q => by
  unfold SV.frz at e
  cases e
 | .lst xs, v, fp, d', h, e, q => by
  unfold Own at h
  unfold SV.frz at e
  obtain ⟨a, vs, fq, e1, e2, e3, e4, e5⟩ := h
  subst e2
  subst e1
  cases e6 : frzL xs with
  | none => rw [e6] at e; cases e
  | some ds =>
   rw [e6] at e
   cases e
   exact .lst (q a (by simp) _ e3) (frzL_ok k xs vs fq ds e5 e6 fun b hb => q b (by simp [hb]))
 | .dic b kvs, v, fp, d', h, e, q => by
  unfold SV.frz at e
  cases e
 | .fd b kvs, v, fp, d', h, e, q => by
  unfold SV.frz at e
  cases e
 | .tb x q', v, fp, d', h, e, q => by
  unfold SV.frz at e
  cases e
 | .gone, v, fp, d', h, e, q => by
  unfold SV.frz at e
  cases e
 | .nd _, v, fp, d', h, e, q => by
  unfold SV.frz at e
  cases e
 | .ob _ _ _, v, fp, d', h, e, q => by
  unfold SV.frz at e
  cases e
 | .nq _, v, fp, d', h, e, q => by
  unfold SV.frz at e
  cases e
 | .ne _, v, fp, d', h, e, q => by
  unfold SV.frz at e
  cases e
theorem frzL_ok (k : ∀ a o, F a = some o → F' a = some o) : ∀ (ts : List SV) (vs : List V) (fp : List Addr) (ds : List PyData), OwnL K F H ts vs fp → frzL ts = some ds → (∀ a ∈ fp, ∀ o, H a = some o → F' a = some o) → FzAll F' vs ds
 | [], vs, fp, ds, h, e, q => by
  unfold OwnL at h
  unfold frzL at e
  cases e
  rw [h.1]
  exact .nil
 | x :: xs, vs, fp, ds, h, e, q => by
  unfold OwnL at h
  unfold frzL at e
  obtain ⟨v, r, f, g, e1, e2, e3, e4⟩ := h
  subst e1
  subst e2
  cases e5 : x.frz with
  | none => rw [e5] at e; cases e
  | some d =>
   cases e6 : frzL xs with
   | none => rw [e5, e6] at e; cases e
   | some ds' =>
    rw [e5, e6] at e
    cases e
    exact .cons (frz_ok k x v f d e3 e5 fun a ha => q a (by simp [ha])) (frzL_ok k xs r g ds' e4 e6 fun a ha => q a (by simp [ha]))
end
def joinF (F H : Hp) (fp : List Addr) : Hp := fun b => if b ∈ fp then H b else F b
theorem joinF_in {fp : List Addr} {a : Addr} (h : a ∈ fp) : joinF F H fp a = H a := by unfold joinF; rw [if_pos h]
theorem joinF_out {fp : List Addr} {a : Addr} (h : a ∉ fp) : joinF F H fp a = F a := by unfold joinF; rw [if_neg h]
theorem joinF_sub {fp : List Addr} (fh : ∀ a o, F a = some o → H a = some o) : ∀ a o, F a = some o → joinF F H fp a = some o := fun a o e => by
 by_cases h : a ∈ fp
 ·rw [joinF_in h]; exact fh a o e
 ·rw [joinF_out h]; exact e
theorem joinF_held {fp : List Addr} (fh : ∀ a o, F a = some o → H a = some o) : ∀ a o, joinF F H fp a = some o → H a = some o := fun a o e => by
 by_cases h : a ∈ fp
 ·rw [joinF_in h] at e; exact e
 ·rw [joinF_out h] at e; exact fh a o e
def SV.view : SV → Option PyData
 | .ro d => some d
 | .nq d => some d
 | t => t.frz
theorem own_view (fh : ∀ a o, F a = some o → H a = some o) {t : SV} {v : V} {fp : List Addr} {d : PyData} (h : Own K F H t v fp) (e : t.view = some d) : Dp K H v d := by
 have go : ∀ t : SV, Own K F H t v fp → t.frz = some d → Dp K H v d := fun t h e => fz_dp d v (frz_ok fh t v fp d h e fun _ _ _ q => q)
 cases t with
 | ro d' =>
  unfold Own at h
  cases e
  exact dp_mono fh _ _ h.1
 | fz d' => exact go _ h e
 | lst xs => exact go _ h e
 | dic b xs => exact go _ h e
 | fd b xs => exact go _ h e
 | tb _ _ => exact go _ h e
 | gone => exact go _ h e
 | nd _ => exact go _ h e
 | ob _ _ _ => exact go _ h e
 | nq d' =>
  unfold Own at h
  cases e
  exact fzN_dp _ _ (fzN_mono fh _ _ h.1)
 | ne _ => exact go _ h e
theorem ownL_len : ∀ {ts : List SV} {vs : List V} {fp : List Addr}, OwnL K F H ts vs fp → ts.length = vs.length
 | [], _, _, h => by unfold OwnL at h; rw [h.1]; rfl
 | x :: xs, _, _, h => by
  unfold OwnL at h
  obtain ⟨v, r, f, g, e1, e2, e3, e4⟩ := h
  subst e1
  simp [ownL_len e4]
theorem ownL_at : ∀ {ts : List SV} {vs : List V} {fp : List Addr} {k : Nat} {x : SV}, OwnL K F H ts vs fp → ts[k]? = some x →
  ∃ v f1 fx f2, vs[k]? = some v ∧ fp = f1 ++ (fx ++ f2) ∧ Own K F H x v fx ∧
   ∀ (F' H' : Hp) (x' : SV) (v' : V) (fx' : List Addr), (∀ a o, F a = some o → F' a = some o) → (∀ a ∈ f1 ++ f2, H' a = H a ∧ F' a = none) → Own K F' H' x' v' fx' →
    OwnL K F' H' (ts.set k x') (vs.set k v') (f1 ++ (fx' ++ f2))
 | [], _, _, k, x, h, e => by simp at e
 | y :: ys, _, _, 0, x, h, e => by
  unfold OwnL at h
  obtain ⟨v, r, f, g, e1, e2, e3, e4⟩ := h
  subst e1
  subst e2
  simp at e
  subst e
  refine ⟨v, [], f, g, rfl, rfl, e3, fun F' H' x' v' fx' k q o => ?_⟩
  show OwnL K F' H' (x' :: ys) (v' :: r) _
  unfold OwnL
  exact ⟨v', r, fx', g, rfl, rfl, o, ownL_keep k _ _ _ e4 fun a ha => q a (by simp [ha])⟩
 | y :: ys, _, _, k + 1, x, h, e => by
  unfold OwnL at h
  obtain ⟨v, r, f, g, e1, e2, e3, e4⟩ := h
  subst e1
  subst e2
  have e' : ys[k]? = some x := by simpa using e
  obtain ⟨w, f1, fx, f2, a1, a2, a3, a4⟩ := ownL_at e4 e'
  subst a2
  refine ⟨w, f ++ f1, fx, f2, by simpa using a1, by simp, a3, fun F' H' x' v' fx' k' q o => ?_⟩
  show OwnL K F' H' (y :: ys.set k x') (v :: r.set k v') _
  unfold OwnL
  refine ⟨v, _, f, f1 ++ (fx' ++ f2), rfl, by simp, own_keep k' _ _ _ e3 fun a ha => q a (by simp [ha]), a4 F' H' x' v' fx' k' (fun a ha => q a ?_) o⟩
  rcases List.mem_append.mp ha with z | z <;> simp [z]
theorem set_same {α : Type} : ∀ {l : List α} {k : Nat} {x : α}, l[k]? = some x → l.set k x = l
 | [], _, _, h => by simp at h
 | _ :: _, 0, _, h => by simp at h; simp [h]
 | a :: l, k + 1, x, h => by
  show a :: l.set k x = a :: l
  rw [set_same (l := l) (by simpa using h)]
theorem nodup_mid {f1 fx f2 fx' : List Addr} (nd : (f1 ++ (fx ++ f2)).Nodup) (nd' : fx'.Nodup) (q : ∀ a ∈ fx', a ∈ fx ∨ a ∉ f1 ++ (fx ++ f2)) : (f1 ++ (fx' ++ f2)).Nodup := by
 rw [List.nodup_append] at nd ⊢
 obtain ⟨n1, n2, n3⟩ := nd
 rw [List.nodup_append] at n2 ⊢
 obtain ⟨n4, n5, n6⟩ := n2
 have z : ∀ a ∈ fx', a ∉ f1 ∧ a ∉ f2 := fun a ha => by
  rcases q a ha with h | h
  ·exact ⟨fun h' => n3 a h' a (by simp [h]) rfl, fun h' => n6 a h a h' rfl⟩
  ·exact ⟨fun h' => h (by simp [h']), fun h' => h (by simp [h'])⟩
 refine ⟨n1, ⟨nd', n5, fun a ha b hb e => ?_⟩, fun a ha b hb e => ?_⟩
 ·subst e; exact (z a ha).2 hb
 ·subst e
  rcases List.mem_append.mp hb with hb | hb
  ·exact (z a hb).1 ha
  ·exact n3 a ha a (by simp [hb]) rfl
theorem own_sub : ∀ (p : List Nat) {t : SV} {v : V} {fp : List Addr} {u : SV}, Own K F H t v fp → fp.Nodup → t.sub p = some u →
  ∃ w fu, Walk H v p w ∧ Own K F H u w fu ∧ fu.Nodup ∧ (∀ a ∈ fu, a ∈ fp) ∧
   ∀ (F' H' : Hp) (u' : SV) (fu' : List Addr), (∀ a o, F a = some o → F' a = some o) → (∀ a ∈ fp, a ∉ fu → H' a = H a ∧ F' a = none) → Own K F' H' u' w fu' → fu'.Nodup → (∀ a ∈ fu', a ∈ fu ∨ a ∉ fp) →
    ∃ fp', Own K F' H' (t.setAt p u') v fp' ∧ fp'.Nodup ∧ (∀ a ∈ fp', (a ∈ fp ∧ a ∉ fu) ∨ a ∈ fu')
 | [], t, v, fp, u, h, nd, e => by
  have e' : t = u := by
   unfold SV.sub at e
   cases t <;> simpa using e
  subst e'
  refine ⟨v, fp, rfl, h, nd, fun _ z => z, fun F' H' u' fu' _ _ o n _ => ⟨fu', ?_, n, fun a ha => .inr ha⟩⟩
  have : t.setAt [] u' = u' := by unfold SV.setAt; cases t <;> rfl
  rw [this]
  exact o
 | k :: p, t, v, fp, u, h, nd, e => by
  cases t with
  | fz d => unfold SV.sub at e; cases e
  | ro d => unfold SV.sub at e; cases e
  | dic b kvs => unfold SV.sub at e; cases e
  | fd b kvs => unfold SV.sub at e; cases e
  | tb _ _ => unfold SV.sub at e; cases e
  | gone => unfold SV.sub at e; cases e
  | nd _ => unfold SV.sub at e; cases e
  | ob _ _ _ => unfold SV.sub at e; cases e
  | nq _ => unfold SV.sub at e; cases e
  | ne _ => unfold SV.sub at e; cases e
  | lst xs =>
   unfold SV.sub at e
   cases e1 : xs[k]? with
   | none => rw [e1] at e; cases e
   | some x =>
    rw [e1] at e
    have e' : x.sub p = some u := e
    unfold Own at h
    obtain ⟨a, vs, fq, h1, h2, h3, h4, h5⟩ := h
    subst h1
    subst h2
    obtain ⟨w, f1, fx, f2, b1, b2, b3, b4⟩ := ownL_at h5 e1
    subst b2
    have nd2 := (List.nodup_cons.mp nd).2
    have na := (List.nodup_cons.mp nd).1
    have ndx : fx.Nodup := (List.nodup_append.mp (List.nodup_append.mp nd2).2.1).1
    obtain ⟨w', fu, c1, c2, c3, c4, c5⟩ := own_sub p b3 ndx e'
    refine ⟨w', fu, ⟨a, vs, w, rfl, h3, b1, c1⟩, c2, c3, fun z hz => by simp [c4 z hz], fun F' H' u' fu' k1 k2 o n q => ?_⟩
    have dj : ∀ z ∈ f1 ++ f2, z ∉ fx := fun z hz hx => by
     rw [List.nodup_append] at nd2
     obtain ⟨_, n2, n3⟩ := nd2
     rw [List.nodup_append] at n2
     rcases List.mem_append.mp hz with hz | hz
     ·exact n3 z hz z (by simp [hx]) rfl
     ·exact n2.2.2 z hx z hz rfl
    obtain ⟨fx', d1, d2, d3⟩ := c5 F' H' u' fu' k1 (fun z hz hn => k2 z (by simp [hz]) hn) o n (fun z hz => by
     rcases q z hz with y | y
     ·exact .inl y
     ·exact .inr fun y' => y (by simp [y']))
    have kk : ∀ z ∈ f1 ++ f2, H' z = H z ∧ F' z = none := fun z hz => k2 z (by
     rcases List.mem_append.mp hz with y | y <;> simp [y]) fun hu => dj z hz (c4 z hu)
    have L := b4 F' H' (x.setAt p u') w fx' k1 kk d1
    rw [set_same b1] at L
    have ka := k2 a (by simp) (fun hu => na (by simp [c4 a hu]))
    have d4 : ∀ z ∈ fx', z ∈ fx ∨ z ∉ f1 ++ (fx ++ f2) := fun z hz => by
     rcases d3 z hz with ⟨y, _⟩ | y
     ·exact .inl y
     ·rcases q z y with y | y
      ·exact .inl (c4 z y)
      ·exact .inr fun y' => y (by rcases List.mem_append.mp y' with y' | y' <;> simp [y'])
    refine ⟨a :: (f1 ++ (fx' ++ f2)), ?_, ?_, ?_⟩
    ·unfold SV.setAt
     rw [e1]
     show Own K F' H' (.lst (xs.set k (x.setAt p u'))) _ _
     unfold Own
     exact ⟨a, vs, _, rfl, rfl, ka.1.trans h3, ka.2, L⟩
    ·refine List.nodup_cons.mpr ⟨fun z => ?_, nodup_mid nd2 d2 d4⟩
     rcases List.mem_append.mp z with z | z
     ·exact na (by simp [z])
     ·rcases List.mem_append.mp z with z | z
      ·rcases d3 a z with ⟨y, _⟩ | y
       ·exact na (by simp [y])
       ·rcases q a y with y | y
        ·exact na (by simp [c4 a y])
        ·exact y (by simp)
      ·exact na (by simp [z])
    ·intro z hz
     rcases List.mem_cons.mp hz with rfl | hz
     ·exact .inl ⟨by simp, fun hu => na (by simp [c4 _ hu])⟩
     ·rcases List.mem_append.mp hz with y | y
      ·exact .inl ⟨by simp [y], fun hu => dj z (by simp [y]) (c4 z hu)⟩
      ·rcases List.mem_append.mp y with y | y
       ·rcases d3 z y with ⟨y1, y2⟩ | y1
        ·exact .inl ⟨by simp [y1], y2⟩
        ·exact .inr y1
       ·exact .inl ⟨by simp [y], fun hu => dj z (by simp [y]) (c4 z hu)⟩
end
end Y
set_option maxRecDepth 100000
set_option maxHeartbeats 4000000
namespace Y
open PySem PySem.Spec L2
section
variable {C : Cn} {AV : List V} {F F1 F2 H H1 H2 : Hp} {σ : L2.St} {S S1 S2 : DS} {fp fp1 fp2 : Rt → List Addr} {T T1 T2 : List Rt}
theorem Evo.refl {R : Addr → Prop} : Evo R F H F H := ⟨fun _ _ e => e, fun _ _ e _ => e, fun a o e e' => (by rw [e] at e'; cases e'), fun _ o e => ⟨o, e⟩⟩
theorem Evo.mono {R R' : Addr → Prop} (h : Evo R F H F1 H1) (k : ∀ a, R a → R' a) : Evo R' F H F1 H1 :=
 ⟨h.fsub, fun a o e n => h.keep a o e fun r => n (k a r), fun a o e e' => (h.fnew a o e e').imp (k a) id, h.dom⟩
theorem Evo.trans {R R1 : Addr → Prop} (a : Evo R F H F1 H1) (b : Evo R1 F1 H1 F2 H2) (k : ∀ x, R1 x → R x ∨ H x = none) : Evo R F H F2 H2 where
 fsub := fun x o e => b.fsub x o (a.fsub x o e)
 keep := fun x o e n => b.keep x o (a.keep x o e n) fun r => by
  rcases k x r with h | h
  ·exact n h
  ·rw [e] at h; cases h
 fnew := fun x o e e' => by
  cases q : F1 x with
  | some o1 => exact a.fnew x o1 q e'
  | none =>
   rcases b.fnew x o e q with h | h | h
   ·exact (k x h).imp id .inl
   ·right; left
    cases z : H x with
    | none => rfl
    | some o2 => obtain ⟨o3, z3⟩ := a.dom x o2 z; rw [h] at z3; cases z3
   ·by_cases hr : R x
    ·exact .inl hr
    ·right
     cases z : H x with
     | none => exact .inl rfl
     | some o2 =>
      obtain ⟨xs, h⟩ := h
      have := a.keep x o2 z hr
      rw [h] at this
      cases this
      exact .inr ⟨xs, rfl⟩
 dom := fun x o e => by
  obtain ⟨o1, e1⟩ := a.dom x o e
  exact b.dom x o1 e1
theorem Post.refl (h : StOk C AV F H σ S fp) : Post C AV F H σ S fp [] S F H fp :=
 ⟨h, .refl, fun _ _ => ⟨rfl, rfl⟩, fun _ _ _ => .inr (.inr (by simp))⟩
theorem Rg.app {a : Addr} : Rg (T1 ++ T2) fp a ↔ Rg T1 fp a ∨ Rg T2 fp a := by
 unfold Rg
 constructor
 ·rintro ⟨r, h, e⟩
  rcases List.mem_append.mp h with h | h
  ·exact .inl ⟨r, h, e⟩
  ·exact .inr ⟨r, h, e⟩
 ·rintro (⟨r, h, e⟩ | ⟨r, h, e⟩)
  ·exact ⟨r, by simp [h], e⟩
  ·exact ⟨r, by simp [h], e⟩
theorem Post.rg (a : Post C AV F H σ S fp T1 S1 F1 H1 fp1) {x : Addr} (h : Rg T2 fp1 x) : Rg (T1 ++ T2) fp x ∨ H x = none := by
 obtain ⟨r, hr, e⟩ := h
 by_cases hr1 : r ∈ T1
 ·rcases a.new r x e with q | q | q
  ·exact .inl (Rg.app.mpr (.inl q))
  ·exact .inr q
  ·exact absurd hr1 q
 ·exact .inl (Rg.app.mpr (.inr ⟨r, hr, by rw [← (a.same r hr1).1]; exact e⟩))
theorem Evo.none_back {R : Addr → Prop} (a : Evo R F H F1 H1) {x : Addr} (h : H1 x = none) : H x = none := by
 cases z : H x with
 | none => rfl
 | some o2 => obtain ⟨o3, z3⟩ := a.dom x o2 z; rw [h] at z3; cases z3
theorem Post.trans (a : Post C AV F H σ S fp T1 S1 F1 H1 fp1) (b : Post C AV F1 H1 σ S1 fp1 T2 S2 F2 H2 fp2) : Post C AV F H σ S fp (T1 ++ T2) S2 F2 H2 fp2 where
 st := b.st
 evo := (a.evo.mono fun x h => Rg.app.mpr (.inl h)).trans b.evo fun x h => a.rg h
 same := fun r hr => by
  have h1 : r ∉ T1 := fun z => hr (by simp [z])
  have h2 : r ∉ T2 := fun z => hr (by simp [z])
  exact ⟨(b.same r h2).1.trans (a.same r h1).1, (b.same r h2).2.trans (a.same r h1).2⟩
 new := fun r x e => by
  rcases b.new r x e with q | q | q
  ·rcases a.rg q with q | q
   ·exact .inl q
   ·exact .inr (.inl q)
  ·exact .inr (.inl (a.evo.none_back q))
  ·have e1 : x ∈ fp1 r := by rw [← (b.same r q).1]; exact e
   rcases a.new r x e1 with z | z | z
   ·exact .inl (Rg.app.mpr (.inl z))
   ·exact .inr (.inl z)
   ·exact .inr (.inr (by simp [z, q]))
theorem walk_keep : ∀ {p : List Nat} {t u : SV} {v w : V} {f : List Addr}, Own C.K F H t v f → Walk H v p w → t.sub p = some u → (∀ a ∈ f, H1 a = H a) → Walk H1 v p w
 | [], _, _, _, _, _, _, h, _, _ => h
 | k :: p, t, u, v, w, f, o, h, e, q => by
  obtain ⟨a, vs, w1, rfl, h1, h2, h3⟩ := h
  cases t with
  | fz d => unfold SV.sub at e; cases e
  | ro d => unfold SV.sub at e; cases e
  | dic b kvs => unfold SV.sub at e; cases e
  | fd b kvs => unfold SV.sub at e; cases e
  | tb _ _ => unfold SV.sub at e; cases e
  | gone => unfold SV.sub at e; cases e
  | nd _ => unfold SV.sub at e; cases e
  | ob _ _ _ => unfold SV.sub at e; cases e
  | nq _ => unfold SV.sub at e; cases e
  | ne _ => unfold SV.sub at e; cases e
  | lst xs =>
   unfold Own at o
   obtain ⟨a', vs', fq, e1, e2, e3, e4, e5⟩ := o
   cases e1
   subst e2
   rw [h1] at e3
   cases e3
   unfold SV.sub at e
   cases e6 : xs[k]? with
   | none => rw [e6] at e; cases e
   | some x =>
    rw [e6] at e
    obtain ⟨w2, f1, fx, f2, b1, b2, b3, _⟩ := ownL_at e5 e6
    rw [h2] at b1
    cases b1
    subst b2
    exact ⟨a, vs, w1, rfl, (q a (by simp)).trans h1, h2, walk_keep b3 h3 e fun z hz => q z (by simp [hz])⟩
theorem walk_fun : ∀ {p : List Nat} {v u w : V}, Walk H v p u → Walk H v p w → u = w
 | [], _, _, _, h, h' => by
  have a : _ = _ := h
  have b : _ = _ := h'
  rw [a, b]
 | k :: p, v, u, w, ⟨a, vs, z, e, h1, h2, h3⟩, ⟨a', vs', z', e', h1', h2', h3'⟩ => by
  subst e
  cases e'
  rw [h1] at h1'
  cases h1'
  rw [h2] at h2'
  cases h2'
  exact walk_fun h3 h3'
theorem StOk.root (h : StOk C AV F H σ S fp) {r : Rt} {t : SV} (e : S.get r = some t) : ∃ v, rootV σ AV r = some v ∧ Own C.K F H t v (fp r) := by
 cases r with
 | s i =>
  dsimp only [DS.get] at e
  cases e1 : S.sl[i]? with
  | none => rw [e1] at e; cases e
  | some x =>
   rw [e1] at e
   cases x with
   | none => cases e
   | some x =>
    cases x with
    | tr t' =>
     cases e
     obtain ⟨v, e2, o⟩ := h.sl i _ e1
     exact ⟨v, by dsimp only [rootV]; rw [e2], o⟩
    | ar j => cases e
    | ex c d => cases e
    | ls js => cases e
 | a j =>
  obtain ⟨v, e2, o⟩ := h.ar j t e
  exact ⟨v, e2, o⟩
def EV.stable (T : List Rt) : EV → Bool
 | .sv _ => true
 | .pk r p => p.isEmpty || !T.contains r
theorem EOk.tree (h : StOk C AV F H σ S fp) {v : V} {e : EV} {fe : List Addr} (o : EOk C AV F H σ v e fe) {t : SV} (q : e.tree S = some t) : ∃ f, Own C.K F H t v f := by
 cases e with
 | sv t' =>
  dsimp only [EV.tree] at q
  cases q
  exact ⟨fe, o⟩
 | pk r p =>
  obtain ⟨_, v0, e1, w⟩ := o
  dsimp only [EV.tree] at q
  cases e2 : S.get r with
  | none => rw [e2] at q; cases q
  | some t0 =>
   rw [e2] at q
   obtain ⟨v', e3, o3⟩ := h.root e2
   rw [e1] at e3
   cases e3
   obtain ⟨w', fu, c1, c2, _⟩ := own_sub p o3 (h.nd r) q
   rw [walk_fun w c1]
   exact ⟨fu, c2⟩
theorem EOk.later (a : StOk C AV F H σ S fp) (b : Post C AV F H σ S fp T S1 F1 H1 fp1) {v : V} {e : EV} {fe : List Addr} (o : EOk C AV F H σ v e fe) (dj : ∀ r x, x ∈ fp r → x ∉ fe) (st : e.stable T = true) (hs : (e.tree S).isSome = true) : EOk C AV F1 H1 σ v e fe := by
 cases e with
 | sv t =>
  have o' : Own C.K F H t v fe := o
  have m := own_fp t v fe o'
  refine own_keep b.evo.fsub t v fe o' fun x hx => ?_
  obtain ⟨m1, ob, m2⟩ := m x hx
  have nr : ¬ Rg T fp x := fun ⟨r, _, e⟩ => dj r x e hx
  refine ⟨(b.evo.keep x ob m2 nr).trans m2.symm, ?_⟩
  cases q : F1 x with
  | none => rfl
  | some o1 =>
   rcases b.evo.fnew x o1 q m1 with z | z | ⟨xs, z⟩
   ·exact absurd z nr
   ·rw [m2] at z; cases z
   ·exact absurd z (own_nt t v fe o' x hx xs)
 | pk r p =>
  obtain ⟨z, v0, e1, w⟩ := o
  refine ⟨z, v0, e1, ?_⟩
  cases p with
  | nil => exact w
  | cons k p =>
   have hr : r ∉ T := by
    unfold EV.stable at st
    simpa using st
   dsimp only [EV.tree] at hs
   cases e2 : S.get r with
   | none => rw [e2] at hs; cases hs
   | some t0 =>
    rw [e2] at hs
    obtain ⟨u, hu⟩ := Option.isSome_iff_exists.mp hs
    obtain ⟨v', e3, o3⟩ := a.root e2
    rw [e1] at e3
    cases e3
    refine walk_keep o3 w hu fun x hx => ?_
    obtain ⟨m1, ob, m2⟩ := a.mm r x hx
    exact (b.evo.keep x ob m2 fun ⟨r', hr', e'⟩ => hr (by rw [a.dj r r' x hx e']; exact hr')).trans m2.symm
structure NewV (K : PySem.W.Frag) (F H F' H' : Hp) (v : V) (z : SV) (fe : List Addr) : Prop where
 hk : ∀ a o, H a = some o → H' a = some o
 fk : ∀ a o, F a = some o → F' a = some o
 fn : ∀ a o, F' a = some o → F a = none → H a = none ∨ ∃ xs, H a = some (.tup xs)
 fh : ∀ a o, F' a = some o → H' a = some o
 own : Own K F' H' z v fe
 nd : fe.Nodup
 new : ∀ a ∈ fe, H a = none
theorem NewV.post (h : StOk C AV F H σ S fp) {v : V} {z : SV} {fe : List Addr} (n : NewV C.K F H F1 H1 v z fe) : Post C AV F H σ S fp [] S F1 H1 fp := by
 have keep : ∀ r a, a ∈ fp r → H1 a = H a ∧ F1 a = none := fun r a ha => by
  obtain ⟨m1, o, m2⟩ := h.mm r a ha
  refine ⟨(n.hk a o m2).trans m2.symm, ?_⟩
  cases q : F1 a with
  | none => rfl
  | some o1 =>
   rcases n.fn a o1 q m1 with z | ⟨xs, z⟩
   ·rw [m2] at z; cases z
   ·exact absurd z (h.mt r a xs ha)
 refine ⟨⟨n.fh, fun i x e => ?_, fun j t e => ?_, h.dj, h.nd, fun r a ha => ?_, fun r a xs ha z => h.mt r a xs ha ((keep r a ha).1 ▸ z), h.ln, h.la⟩, ⟨n.fk, fun a o e _ => n.hk a o e, fun a o e e' => .inr (n.fn a o e e'), fun a o e => ⟨o, n.hk a o e⟩⟩, fun _ _ => ⟨rfl, rfl⟩, fun _ _ _ => .inr (.inr (by simp))⟩
 ·obtain ⟨v, e1, o⟩ := h.sl i x e
  refine ⟨v, e1, ?_⟩
  cases x with
  | tr t => exact own_keep n.fk t v _ o (keep _)
  | ar j => exact o
  | ex c d => exact slEx_mono n.fk o
  | ls js => exact slLs_mono n.fk o
 ·obtain ⟨v, e1, o⟩ := h.ar j t e
  exact ⟨v, e1, own_keep n.fk t v _ o (keep _)⟩
 ·obtain ⟨m1, o, m2⟩ := h.mm r a ha
  exact ⟨(keep r a ha).2, o, (keep r a ha).1.trans m2⟩
theorem NewV.vp (h : StOk C AV F H σ S fp) {v : V} {z : SV} {fe : List Addr} (n : NewV C.K F H F1 H1 v z fe) : VP C AV F H σ fp [] S F1 H1 fp v (.sv z) fe :=
 ⟨n.own, fun r a ha hf => (by obtain ⟨_, o, m⟩ := h.mm r a ha; have := n.new a hf; rw [m] at this; cases this), n.nd, fun a ha => .inr (n.new a ha), rfl⟩
end
end Y
set_option maxRecDepth 100000
set_option maxHeartbeats 4000000
namespace Y
open PySem PySem.Spec L2
def Al (fp : Rt → List Addr) (a : Addr) : Prop := ∃ r, a ∈ fp r
structure EvA (F H F' H' : Hp) (fp fp' : Rt → List Addr) : Prop where
 evo : Evo (Al fp) F H F' H'
 new : ∀ a, Al fp' a → Al fp a ∨ H a = none
def ExcOk (C : Cn) (F H : Hp) (c : Str) (d : Option PyData) (cls : Value) (dd : Option Addr) : Prop :=
 C.mg c = some cls ∧ match d with
  | none => dd = none
  | some x => ∃ a v, dd = some a ∧ F a = some (.xd [(("at" : Str), v)]) ∧ Fz F v x
def ExcW (C : Cn) (W : WX) (AV : List V) (F H : Hp) (σ : L2.St) (fp : Rt → List Addr) (c : Str) (d : Option PyData) (S' : DS) : Prop :=
 ∀ F' H' fp' cls dd, StOk C AV F' H' σ S' fp' → EvA F H F' H' fp fp' → ExcOk C F' H' c d cls dd → W cls dd σ H'
def Out.bindT {α β : Type} (o : Out α) (f : α → DS → List Rt → Out β) : Out β :=
 match o with
 | .fail => .fail
 | .exc c d S => .exc c d S
 | .ok x S T =>
  match f x S T with
  | .fail => .fail
  | .exc c d S' => .exc c d S'
  | .ok y S' T' => .ok y S' (T ++ T')
def Wp {α : Type} (C : Cn) (W : WX) (AV : List V) (F H : Hp) (σ : L2.St) (fp : Rt → List Addr) (o : Out α) (P : α → DS → List Rt → Prop) : Prop :=
 match o with
 | .fail => False
 | .exc c d S' => ExcW C W AV F H σ fp c d S'
 | .ok x S' T => P x S' T
section
variable {C : Cn} {W : WX} {AV : List V} {F F1 F2 H H1 H2 : Hp} {σ : L2.St} {S S1 S2 : DS} {fp fp1 fp2 : Rt → List Addr} {T T1 T2 : List Rt} {α β : Type}
theorem Rg.al {a : Addr} (h : Rg T fp a) : Al fp a := let ⟨r, _, e⟩ := h; ⟨r, e⟩
theorem Post.evA (p : Post C AV F H σ S fp T S1 F1 H1 fp1) : EvA F H F1 H1 fp fp1 :=
 ⟨p.evo.mono fun _ h => h.al, fun a ⟨r, e⟩ => by
  rcases p.new r a e with q | q | q
  ·exact .inl q.al
  ·exact .inr q
  ·exact .inl ⟨r, by rw [← (p.same r q).1]; exact e⟩⟩
theorem EvA.refl : EvA F H F H fp fp := ⟨.refl, fun _ h => .inl h⟩
theorem EvA.trans (a : EvA F H F1 H1 fp fp1) (b : EvA F1 H1 F2 H2 fp1 fp2) : EvA F H F2 H2 fp fp2 :=
 ⟨a.evo.trans b.evo a.new, fun x h => by
  rcases b.new x h with q | q
  ·exact a.new x q
  ·exact .inr (a.evo.none_back q)⟩
theorem ExcW.later (e : EvA F H F1 H1 fp fp1) {c : Str} {d : Option PyData} (h : ExcW C W AV F H σ fp c d S2) : ExcW C W AV F1 H1 σ fp1 c d S2 :=
 fun F' H' fp' cls dd st ev ok => h F' H' fp' cls dd st (e.trans ev) ok
theorem wp_bindT {o : Out α} {f : α → DS → List Rt → Out β} {P : β → DS → List Rt → Prop} (h : Wp C W AV F H σ fp (o.bindT f) P) :
  Wp C W AV F H σ fp o fun x S1 T1 => ∀ F1 H1 fp1, EvA F H F1 H1 fp fp1 → Wp C W AV F1 H1 σ fp1 (f x S1 T1) fun y S2 T2 => P y S2 (T1 ++ T2) := by
 cases o with
 | fail => exact h
 | exc c d S => exact h
 | ok x S1 T1 =>
  intro F1 H1 fp1 ev
  unfold Out.bindT at h
  cases q : f x S1 T1 with
  | fail => dsimp only at h; rw [q] at h; exact h
  | exc c d S' => dsimp only at h; rw [q] at h; exact ExcW.later ev h
  | ok y S' T' => dsimp only at h; rw [q] at h; exact h
end
def LE (C : Cn) (W : WX) (f : DS → Out EV) : TE := fun σ H Q => ∃ AV F S fp, StOk C AV F H σ S fp ∧
 Wp C W AV F H σ fp (f S) fun e S' T => ∀ F' H' fp' v fe, Post C AV F H σ S fp T S' F' H' fp' → VP C AV F H σ fp T S' F' H' fp' v e fe → Q v H'
def LT (C : Cn) (W : WX) (f : DS → Out Bool) : TT := fun σ H Q => ∃ AV F S fp, StOk C AV F H σ S fp ∧
 Wp C W AV F H σ fp (f S) fun b S' T => ∀ F' H' fp', Post C AV F H σ S fp T S' F' H' fp' → Q b H'
abbrev cnOf (X : Cx) (EX : Hp → V → Str → Option PyData → Prop) : Cn := ⟨X.K, X.mg, EX⟩
abbrev DE (X : Cx) (EX : Hp → V → Str → Option PyData → Prop) (W : WX) (e : Expr) (f : DS → Out EV) : Prop := PE X e (LE (cnOf X EX) W f)
abbrev DT (X : Cx) (EX : Hp → V → Str → Option PyData → Prop) (W : WX) (e : Expr) (f : DS → Out Bool) : Prop := PT X e (LT (cnOf X EX) W f)
theorem pe_of {X : Cx} {e : Expr} {t t' : TE} (h : PE X e t) (k : ∀ σ H Q, t' σ H Q → t σ H Q) : PE X e t' := ⟨fun pins s σ H Q I q => h.run pins s σ H Q I (k σ H Q q)⟩
theorem pt_of {X : Cx} {e : Expr} {t t' : TT} (h : PT X e t) (k : ∀ σ H Q, t' σ H Q → t σ H Q) : PT X e t' := ⟨fun pins s σ H Q I q => h.run pins s σ H Q I (k σ H Q q)⟩
theorem pw_of {X : Cx} {e : Expr} {t t' : TT} (h : PW X e t) (k : ∀ σ H Q, t' σ H Q → t σ H Q) : PW X e t' := ⟨fun wh pins s σ H Q I q => h.run wh pins s σ H Q I (k σ H Q q)⟩
theorem wp_mono {α : Type} {C : Cn} {W : WX} {AV : List V} {F H : Hp} {σ : L2.St} {fp : Rt → List Addr} {o : Out α} {P P' : α → DS → List Rt → Prop} (h : Wp C W AV F H σ fp o P) (k : ∀ x S T, P x S T → P' x S T) : Wp C W AV F H σ fp o P' := by
 cases o with
 | fail => exact h
 | exc c d S => exact h
 | ok x S T => exact k x S T h
def eC (d : PyData) : DS → Out EV := fun S => .ok (.sv (.fz d)) S []
def eVar (i : Nat) : DS → Out EV := fun S =>
 match S.sl[i]? with
 | some (some (.tr (.fz d))) => .ok (.sv (.fz d)) S []
 | some (some (.tr (.ro d))) => .ok (.sv (.ro d)) S []
 | some (some (.tr (.fd b d))) => .ok (.sv (.fd b d)) S []
 | some (some (.tr _)) => .ok (.pk (.s i) []) S []
 | some (some (.ar j)) => match S.ar[j]? with
  | some (.fz d) => .ok (.sv (.fz d)) S []
  | some (.ro d) => .ok (.sv (.ro d)) S []
  | some (.fd b d) => .ok (.sv (.fd b d)) S []
  | some _ => .ok (.pk (.a j) []) S []
  | none => .fail
 | _ => .fail
section
variable {C : Cn} {AV : List V} {F F1 F2 H H1 H2 : Hp} {σ : L2.St} {S S1 S2 : DS} {fp fp1 fp2 : Rt → List Addr} {T T1 T2 : List Rt} {v : V} {d : PyData}
theorem vp_fz (h : Fz F1 v d) : VP C AV F H σ fp T S1 F1 H1 fp1 v (.sv (.fz d)) [] :=
 ⟨by show Own C.K F1 H1 (.fz d) v []; unfold Own; exact ⟨h, rfl⟩, fun _ _ _ h => (by cases h), .nil, fun _ h => (by cases h), rfl⟩
theorem vp_ro (h : Dp C.K F1 v d) : VP C AV F H σ fp T S1 F1 H1 fp1 v (.sv (.ro d)) [] :=
 ⟨by show Own C.K F1 H1 (.ro d) v []; unfold Own; exact ⟨h, rfl⟩, fun _ _ _ h => (by cases h), .nil, fun _ h => (by cases h), rfl⟩
theorem vp_fd {b : Bool} {d : List (DKey × PyData)} (h : FdOk F1 b d v) : VP C AV F H σ fp T S1 F1 H1 fp1 v (.sv (.fd b d)) [] :=
 ⟨by show Own C.K F1 H1 (.fd b d) v []; unfold Own; exact ⟨rfl, h⟩, fun _ _ _ h => (by cases h), .nil, fun _ h => (by cases h), rfl⟩
theorem tree_root {r : Rt} : EV.tree S (.pk r []) = S.get r := by
 dsimp only [EV.tree]
 cases S.get r with
 | none => rfl
 | some t => show t.sub [] = some t; unfold SV.sub; cases t <;> rfl
theorem vp_root {r : Rt} (hr : rootV σ AV r = some v) (ht : (S1.get r).isSome = true) : VP C AV F H σ fp T S1 F1 H1 fp1 v (.pk r []) [] :=
 ⟨⟨rfl, v, hr, rfl⟩, fun _ _ _ h => (by cases h), .nil, fun _ h => (by cases h), by rw [tree_root]; exact ht⟩
end
section
variable {X : Cx} {EX : Hp → V → Str → Option PyData → Prop} {W : WX} {e a b c : Expr} {pos : Pos} {fa fb fc : DS → Out EV}
theorem de_c {v : V} {d : PyData} (h : PE X e (tC v)) (hd : ∀ F, Fz F v d) : DE X EX W e (eC d) := pe_of h fun σ H Q ⟨AV, F, S, fp, st, q⟩ => q F H fp v [] (.refl st) (vp_fz (hd F))
theorem de_int {i : Int} {j : Nat} : DE X EX W (.Constant (.int i) j pos) (eC (.int i)) := de_c pe_int fun _ => .int i
theorem de_bl {i : Bool} {j : Nat} : DE X EX W (.Constant (.bool i) j pos) (eC (.bool i)) := de_c pe_bl fun _ => .bl i
theorem de_var {i : Nat} {x : Str} (hN : X.N[i]? = some x) (hv : Vis X.env.scope x) (hd : (x == ("__debug__" : Str)) = false := by decide) (hcd : (x == ("__classdict__" : Str)) = false := by decide) : DE X EX W (.Name x pos) (eVar i) := by
 refine pe_of (pe_var hN hv hd hcd) fun σ H Q ⟨AV, F, S, fp, st, q⟩ => ?_
 unfold eVar at q
 cases e1 : S.sl[i]? with
 | none => rw [e1] at q; exact q.elim
 | some x =>
  cases x with
  | none => rw [e1] at q; exact q.elim
  | some x =>
   obtain ⟨v, e2, o⟩ := st.sl i x e1
   refine ⟨v, e2, ?_⟩
   rw [e1] at q
   cases x with
   | ex c d => exact q.elim
   | ls js => exact q.elim
   | tr t =>
    have o' : Own X.K F H t v (fp (.s i)) := o
    have hr : rootV σ AV (.s i) = some v := by dsimp only [rootV]; rw [e2]
    have hg : (S.get (.s i)).isSome = true := by dsimp only [DS.get]; rw [e1]; rfl
    cases t with
    | fz d =>
     unfold Own at o'
     exact q F H fp v [] (.refl st) (vp_fz o'.1)
    | ro d =>
     unfold Own at o'
     exact q F H fp v [] (.refl st) (vp_ro o'.1)
    | fd b d =>
     unfold Own at o'
     exact q F H fp v [] (.refl st) (vp_fd o'.2)
    | lst xs => exact q F H fp v [] (.refl st) (vp_root hr hg)
    | dic b xs => exact q F H fp v [] (.refl st) (vp_root hr hg)
    | tb _ _ => exact q F H fp v [] (.refl st) (vp_root hr hg)
    | gone => exact q F H fp v [] (.refl st) (vp_root hr hg)
    | nd _ => exact q F H fp v [] (.refl st) (vp_root hr hg)
    | ob _ _ _ => exact q F H fp v [] (.refl st) (vp_root hr hg)
    | nq _ => exact q F H fp v [] (.refl st) (vp_root hr hg)
    | ne _ => exact q F H fp v [] (.refl st) (vp_root hr hg)
   | ar j =>
    obtain ⟨av, _⟩ := (show AV[j]? = some v ∧ _ from o)
    dsimp only at q
    cases e3 : S.ar[j]? with
    | none => rw [e3] at q; exact q.elim
    | some t =>
     rw [e3] at q
     obtain ⟨v', e4, o'⟩ := st.ar j t e3
     rw [av] at e4
     cases e4
     have hr : rootV σ AV (.a j) = some v := av
     have hg : (S.get (.a j)).isSome = true := by dsimp only [DS.get]; rw [e3]; rfl
     cases t with
     | fz d =>
      unfold Own at o'
      exact q F H fp v [] (.refl st) (vp_fz o'.1)
     | ro d =>
      unfold Own at o'
      exact q F H fp v [] (.refl st) (vp_ro o'.1)
     | fd b d =>
      unfold Own at o'
      exact q F H fp v [] (.refl st) (vp_fd o'.2)
     | lst xs => exact q F H fp v [] (.refl st) (vp_root hr hg)
     | dic b xs => exact q F H fp v [] (.refl st) (vp_root hr hg)
     | tb _ _ => exact q F H fp v [] (.refl st) (vp_root hr hg)
     | gone => exact q F H fp v [] (.refl st) (vp_root hr hg)
     | nd _ => exact q F H fp v [] (.refl st) (vp_root hr hg)
     | ob _ _ _ => exact q F H fp v [] (.refl st) (vp_root hr hg)
     | nq _ => exact q F H fp v [] (.refl st) (vp_root hr hg)
     | ne _ => exact q F H fp v [] (.refl st) (vp_root hr hg)
def rG (K : PySem.W.Frag) (g : SV → SV → Option SV) : R2 := fun x y H Q => ∃ F t u z fx fy, (∀ a o, F a = some o → H a = some o) ∧ Own K F H t x fx ∧ Own K F H u y fy ∧ g t u = some z ∧ ∀ F' H' v fe, NewV K F H F' H' v z fe → Q v H'
def eOp2 (g : SV → SV → Option SV) (fa fb : DS → Out EV) : DS → Out EV := fun S =>
 (fa S).bindT fun ea S1 _ => (fb S1).bindT fun eb S2 T2 =>
  match ea.stable T2, ea.tree S2, eb.tree S2 with
  | true, some t, some u => match g t u with
   | some z => .ok (.sv z) S2 []
   | none => .fail
  | _, _, _ => .fail
theorem tOp_LE {C : Cn} {g : SV → SV → Option SV} : ∀ σ H Q, LE C W (eOp2 g fa fb) σ H Q → tOp (rG C.K g) (LE C W fa) (LE C W fb) σ H Q := by
 intro σ H Q ⟨AV, F, S, fp, st, q⟩
 unfold eOp2 at q
 refine ⟨AV, F, S, fp, st, wp_mono (wp_bindT q) fun ea S1 T1 q1 F1 H1 fp1 v fe p1 v1 => ?_⟩
 have q1' := q1 F1 H1 fp1 p1.evA
 refine ⟨AV, F1, S1, fp1, p1.st, wp_mono (wp_bindT q1') fun eb S2 T2 q2 F2 H2 fp2 u fu p2 v2 => ?_⟩
 have q2' := q2 F2 H2 fp2 p2.evA
 cases e1 : ea.stable T2 with
 | false => rw [e1] at q2'; exact q2'.elim
 | true =>
  rw [e1] at q2'
  cases e2 : ea.tree S2 with
  | none => rw [e2] at q2'; exact q2'.elim
  | some t =>
   rw [e2] at q2'
   cases e3 : eb.tree S2 with
   | none => rw [e3] at q2'; exact q2'.elim
   | some t' =>
    rw [e3] at q2'
    dsimp only at q2'
    cases e4 : g t t' with
    | none => rw [e4] at q2'; exact q2'.elim
    | some z =>
     rw [e4] at q2'
     have w1 := EOk.later p1.st p2 v1.val v1.dj e1 v1.tr
     obtain ⟨fx, o1⟩ := EOk.tree p2.st w1 e2
     obtain ⟨fy, o2⟩ := EOk.tree p2.st v2.val e3
     refine ⟨F2, t, t', z, fx, fy, p2.st.fh, o1, o2, e4, fun F3 H3 x fz n => ?_⟩
     have p3 := n.post p2.st
     have v3 := n.vp p2.st
     have p23 := p2.trans p3
     refine q2' F3 H3 fp2 x fz (p1.trans (p2.trans p3)) ⟨v3.val, v3.dj, v3.nd, fun a ha => ?_, v3.tr⟩
     exact .inr (p1.evo.none_back (p2.evo.none_back (n.new a ha)))
theorem de_op {op : Operator} {g : SV → SV → Option SV} (ho : OpR X (binaryOp op) (rG X.K g)) (ha : DE X EX W a fa) (hb : DE X EX W b fb) : DE X EX W (.BinOp a op b pos) (eOp2 g fa fb) :=
 pe_of (pe_op ho ha hb) (tOp_LE (C := cnOf X EX))
theorem de_cmp {op : CmpOp} {g : SV → SV → Option SV} (ho : OpR X (compareOp op) (rG X.K g)) (ha : DE X EX W a fa) (hb : DE X EX W b fb) (hm : behindInMarks op b = false) : DE X EX W (.Compare a [op] [b] pos) (eOp2 g fa fb) :=
 pe_of (pe_cmpR ho ha hb hm) (tOp_LE (C := cnOf X EX))
end
end Y
set_option maxRecDepth 100000
set_option maxHeartbeats 4000000
namespace Y
open PySem PySem.Spec L2
def allFz : List SV → Option (List PyData)
 | [] => some []
 | .fz d :: r => match allFz r with
  | some ds => some (d :: ds)
  | none => none
 | _ :: _ => none
def SV.lis : SV → Option (List PyData)
 | .fz (.list ds) => some ds
 | .lst xs => allFz xs
 | _ => none
def SV.tps : SV → Option (List PyData)
 | .fz (.tuple ds) => some ds
 | _ => none
def fzs (ds : List PyData) : List SV := ds.map SV.fz
theorem allFz_eq : ∀ {xs : List SV} {ds : List PyData}, allFz xs = some ds → xs = fzs ds
 | [], ds, h => by cases h; rfl
 | .fz d :: r, ds, h => by
  unfold allFz at h
  cases e : allFz r with
  | none => rw [e] at h; cases h
  | some es => rw [e] at h; cases h; rw [allFz_eq e]; rfl
 | .ro _ :: _, _, h => by unfold allFz at h; cases h
 | .lst _ :: _, _, h => by unfold allFz at h; cases h
 | .dic _ _ :: _, _, h => by unfold allFz at h; cases h
section
variable {K : PySem.W.Frag} {F F' H H' : Hp} {v x y : V} {fp fx fy : List Addr} {t u z : SV}
theorem own_fz {d : PyData} (h : Own K F H (.fz d) v fp) : Fz F v d := by unfold Own at h; exact h.1
theorem own_of_fz {d : PyData} (h : Fz F v d) : Own K F H (.fz d) v [] := by unfold Own; exact ⟨h, rfl⟩
theorem fz_int {i : Int} (h : Own K F H (.fz (.int i)) v fp) : v = .int i := by have := own_fz h; cases this; rfl
theorem fz_str {i : Str} (h : Own K F H (.fz (.str i)) v fp) : v = .str i := by have := own_fz h; cases this; rfl
theorem fz_bl {i : Bool} (h : Own K F H (.fz (.bool i)) v fp) : v = .bl i := by have := own_fz h; cases this; rfl
theorem fz_non (h : Own K F H (.fz .none) v fp) : v = .non := by have := own_fz h; cases this; rfl
theorem ownL_fzs : ∀ {ds : List PyData} {vs : List V}, FzAll F vs ds → OwnL K F H (fzs ds) vs []
 | [], _, h => by cases h; unfold fzs; unfold OwnL; exact ⟨rfl, rfl⟩
 | d :: ds, _, h => by
  cases h with
  | cons h1 h2 =>
   show OwnL K F H (.fz d :: fzs ds) _ _
   unfold OwnL
   exact ⟨_, _, [], [], rfl, rfl, own_of_fz h1, ownL_fzs h2⟩
theorem fzs_ownL : ∀ {ds : List PyData} {vs : List V} {fp : List Addr}, OwnL K F H (fzs ds) vs fp → FzAll F vs ds ∧ fp = []
 | [], _, _, h => by unfold fzs at h; simp only [List.map_nil] at h; unfold OwnL at h; rw [h.1]; exact ⟨.nil, h.2⟩
 | d :: ds, vs, fp, h => by
  have h' : OwnL K F H (.fz d :: fzs ds) vs fp := h
  unfold OwnL at h'
  obtain ⟨v, r, f, g, e1, e2, e3, e4⟩ := h'
  obtain ⟨a, b⟩ := fzs_ownL e4
  unfold Own at e3
  subst e1
  rw [e2, e3.2, b]
  exact ⟨.cons e3.1 a, rfl⟩
theorem own_lis (fh : ∀ a o, F a = some o → H a = some o) {ds : List PyData} (h : Own K F H t v fp) (e : t.lis = some ds) : ∃ a vs, v = .ref a ∧ H a = some (.lst vs) ∧ FzAll F vs ds := by
 cases t with
 | fz d =>
  cases d with
  | list es =>
   cases e
   have := own_fz h
   cases this with
   | lst q r => exact ⟨_, _, rfl, fh _ _ q, r⟩
  | none => cases e
  | bool _ => cases e
  | int _ => cases e
  | str _ => cases e
  | tuple _ => cases e
  | dict _ => cases e
 | ro d => cases e
 | lst xs =>
  have e' := allFz_eq (show allFz xs = some ds from e)
  subst e'
  unfold Own at h
  obtain ⟨a, vs, fq, e1, e2, e3, e4, e5⟩ := h
  exact ⟨a, vs, e1, e3, (fzs_ownL e5).1⟩
 | dic b kvs => cases e
 | fd b kvs => cases e
 | tb _ _ => cases e
 | gone => cases e
 | nd _ => cases e
 | ob _ _ _ => cases e
 | nq _ => cases e
 | ne _ => cases e
theorem own_tps {ds : List PyData} (h : Own K F H t v fp) (e : t.tps = some ds) : ∃ a vs, v = .ref a ∧ TupF F a vs ∧ FzAll F vs ds := by
 cases t with
 | fz d =>
  cases d with
  | tuple es =>
   cases e
   have := own_fz h
   cases this with
   | tup q r => exact ⟨_, _, rfl, q, r⟩
  | none => cases e
  | bool _ => cases e
  | int _ => cases e
  | str _ => cases e
  | list _ => cases e
  | dict _ => cases e
 | ro d => cases e
 | lst xs => cases e
 | dic b kvs => cases e
 | fd b kvs => cases e
 | tb _ _ => cases e
 | gone => cases e
 | nd _ => cases e
 | ob _ _ _ => cases e
 | nq _ => cases e
 | ne _ => cases e
theorem fzAll_len : ∀ {ds : List PyData} {vs : List V}, FzAll F vs ds → vs.length = ds.length
 | [], _, h => by cases h; rfl
 | d :: ds, _, h => by cases h with | cons h1 h2 => simp [fzAll_len h2]
theorem fzAll_app : ∀ {ds es : List PyData} {vs ws : List V}, FzAll F vs ds → FzAll F ws es → FzAll F (vs ++ ws) (ds ++ es)
 | [], _, _, _, h, k => by cases h; exact k
 | d :: ds, _, _, _, h, k => by cases h with | cons h1 h2 => exact .cons h1 (fzAll_app h2 k)
theorem fzAll_at : ∀ {ds : List PyData} {vs : List V} {i : Nat} {d : PyData}, FzAll F vs ds → ds[i]? = some d → ∃ v, vs[i]? = some v ∧ Fz F v d
 | [], _, _, _, _, e => by simp at e
 | d :: ds, _, 0, d', h, e => by cases h with | cons h1 h2 => simp at e; subst e; exact ⟨_, rfl, h1⟩
 | d :: ds, _, i + 1, d', h, e => by
  cases h with
  | cons h1 h2 =>
   obtain ⟨w, a, b⟩ := fzAll_at (i := i) h2 (by simpa using e)
   exact ⟨w, by simpa using a, b⟩
theorem fzAll_take : ∀ {ds : List PyData} {vs : List V} (n : Nat), FzAll F vs ds → FzAll F (vs.take n) (ds.take n)
 | _, _, 0, _ => .nil
 | [], _, _ + 1, h => by cases h; exact .nil
 | d :: ds, _, n + 1, h => by cases h with | cons h1 h2 => exact .cons h1 (fzAll_take n h2)
theorem fzAll_drop : ∀ {ds : List PyData} {vs : List V} (n : Nat), FzAll F vs ds → FzAll F (vs.drop n) (ds.drop n)
 | _, _, 0, h => h
 | [], _, _ + 1, h => by cases h; exact .nil
 | d :: ds, _, n + 1, h => by cases h with | cons h1 h2 => exact fzAll_drop n h2
theorem nv_fz (fh : ∀ a o, F a = some o → H a = some o) {d : PyData} (h : Fz F v d) : NewV K F H F H v (.fz d) [] :=
 ⟨fun _ _ e => e, fun _ _ e => e, fun a o e e' => (by rw [e] at e'; cases e'), fh, own_of_fz h, .nil, fun _ h => by cases h⟩
theorem upd_keep {a : Addr} {o ob : HO} {p : Addr} (hp : H p = none) (e : H a = some o) : upd H p ob a = some o := by
 rw [upd_ne (ne_of_none e hp)]
 exact e
theorem nv_lst (fh : ∀ a o, F a = some o → H a = some o) {p : Addr} (hp : H p = none) {vs : List V} {ds : List PyData} (h : FzAll F vs ds) : NewV K F H F (upd H p (.lst vs)) (.ref p) (.lst (fzs ds)) [p] := by
 have fp : F p = none := by
  cases e : F p with
  | none => rfl
  | some o => rw [fh p o e] at hp; cases hp
 refine ⟨fun a o e => upd_keep hp e, fun _ _ e => e, fun a o e e' => (by rw [e] at e'; cases e'), fun a o e => upd_keep hp (fh a o e), ?_, by simp, fun a ha => ?_⟩
 ·unfold Own
  exact ⟨p, vs, [], rfl, rfl, upd_same, fp, ownL_fzs h⟩
 ·simp at ha; subst ha; exact hp
theorem nv_tup (fh : ∀ a o, F a = some o → H a = some o) {p : Addr} (hp : H p = none) {o : Obj} (ho : o.dict = none) {vs : List V} {ds : List PyData} (h : FzAll F vs ds) : NewV K F H (upd F p (.frz o (.tup vs))) (upd H p (.frz o (.tup vs))) (.ref p) (.fz (.tuple ds)) [] := by
 have fp : F p = none := by
  cases e : F p with
  | none => rfl
  | some o => rw [fh p o e] at hp; cases hp
 have fk : ∀ a u, F a = some u → upd F p (.frz o (.tup vs)) a = some u := fun a u e => upd_keep fp e
 refine ⟨fun a u e => upd_keep hp e, fk, fun a u e e' => ?_, fun a u e => ?_, own_of_fz (.tup ⟨o, upd_same, ho⟩ (fzAll_mono fk ds vs h)), .nil, fun _ h => by cases h⟩
 ·by_cases z : a = p
  ·rw [z]; exact .inl hp
  ·rw [upd_ne z] at e; rw [e] at e'; cases e'
 ·by_cases z : a = p
  ·subst z; rw [upd_same] at e ⊢; exact e
  ·rw [upd_ne z] at e ⊢; exact fh a u e
end
section
variable {X : Cx}
def NewT (H : Hp) (Q : VK) (xs : List V) : Prop := ∀ (p : Addr) (o : Obj), H p = none → o.dict = none → Q (.ref p) (upd H p (.frz o (.tup xs)))
theorem laidN {pins : List (Addr × Obj)} {σ : L2.St} {H : Hp} {s : Shared} {Q : VK} {xs : List V} {us : List Value} (I : Inv X pins σ H s) (r : Vals xs us) (hz : xs.length ≤ sizeLine) (q : NewT H Q xs) :
  EP X pins σ Q (.ref s.heap.objs.size) { s with heap := s.heap.push { cls := .type "tuple", data := .seq us.toArray } } :=
 ⟨.ref s.heap.objs.size, _, I.laid (t' := s.toks) (o := .frz { cls := .type "tuple", data := .seq us.toArray } (.tup xs)) (fun b ob q => Heap.get?_push_of_some _ q) (Nat.le_refl _)
   ⟨Heap.get?_push_size _ rfl, hz, us, r, ⟨_, Heap.get?_push_size _ rfl, rfl, _, rfl⟩⟩, rfl, q _ _ (I.hok.fresh (Nat.le_refl _)) rfl⟩
def rCatN (K : PySem.W.Frag) : R2 := fun x y H Q => ∃ a b xs ys, x = .ref a ∧ y = .ref b ∧ SqT K H a xs ∧ SqT K H b ys ∧ xs.length + ys.length ≤ sizeLine ∧
 (xs = [] → Q (.ref b) H) ∧ (xs ≠ [] → ys = [] → Q (.ref a) H) ∧ (xs ≠ [] → ys ≠ [] → NewT H Q (xs ++ ys))
theorem op_catN : OpR X (binaryOp .Add) (rCatN X.K) := by
 intro pins s σ H x y v u Q I rx ry h
 obtain ⟨a, b, xs, ys, rfl, rfl, ha, hb, hz, q0, q1, q2⟩ := h
 cases rx
 cases ry
 obtain ⟨its, r1, p1, _⟩ := I.tuple ha
 obtain ⟨its2, r2, p2, _⟩ := I.tuple hb
 by_cases hx : xs = []
 ·subst hx
  cases r1
  exact cat_tup0 p1 p2 ⟨.ref b, H, I, rfl, q0 rfl⟩
 ·refine HT.cat_tup p1 p2 (fun z => hx (r1.nil_iff.mp z)) (fun z => ⟨.ref a, H, I, rfl, q1 hx (r2.nil_iff.mp z)⟩) (fun z => ?_) (by rw [← r1.length, ← r2.length]; exact hz)
  exact laidN I (r1.append r2) (by rw [List.length_append]; exact hz) (q2 hx fun w => z (r2.nil_iff.mpr w))
def rSlN (K : PySem.W.Frag) : V → Option Int → Option Int → Hp → VK → Prop := fun x lo hi H Q => ∃ a xs, x = .ref a ∧ SqT K H a xs ∧
 (HT.sIx xs.length 0 lo = 0 ∧ HT.sIx xs.length xs.length hi = xs.length → Q (.ref a) H) ∧ (¬ (HT.sIx xs.length 0 lo = 0 ∧ HT.sIx xs.length xs.length hi = xs.length) → NewT H Q (cutV xs lo hi))
theorem sl_tupN : SlR X (rSlN X.K) := by
 intro pins s σ H x v vl vu lo hi sl Q I rx hs pl pu h
 obtain ⟨a, xs, rfl, hx, q1, q2⟩ := h
 cases rx
 obtain ⟨its, r, ht, hz⟩ := I.tuple hx
 have hlen : its.toArray.size = xs.length := by rw [List.size_toArray]; exact r.length.symm
 refine ⟨"tuple", _, PyProof.Rows.slot_tuple_getitem.lookup, ht.typeIs, ?_⟩
 by_cases hw : HT.sIx xs.length 0 lo = 0 ∧ HT.sIx xs.length xs.length hi = xs.length
 ·exact getItem_tuple_whole ht hs pl pu (by rw [hlen]; exact hw) ⟨.ref a, H, I, rfl, q1 hw⟩
 ·refine HT.getItem_tuple_cut ht hs pl pu (by rw [hlen]; exact hw) ?_ (by rw [hlen]; exact hz)
  rw [hlen]
  exact laidN I ((r.drop (HT.sIx xs.length 0 lo)).take (HT.sIx xs.length xs.length hi - HT.sIx xs.length 0 lo)) (Nat.le_trans (cutV_length xs lo hi) hz) (q2 hw)
theorem call_tupleN : CallR X (.type "tuple") (fun xs H Q => ∃ p ys, xs = [.ref p] ∧ ((SqL X.K H p ys ∧ NewT H Q ys) ∨ (SqT X.K H p ys ∧ Q (.ref p) H))) := by
 intro pins s σ H xs us Q I r h
 obtain ⟨p, ys, rfl, h⟩ := h
 obtain ⟨u, rfl, rx⟩ := vals1 r
 cases rx
 rcases h with ⟨hq, q⟩ | ⟨hq, q⟩
 ·obtain ⟨its, r', pl, hz⟩ := I.list hq
  have hlen := r'.length
  refine call_tuple_list pl.isList (fun h' kp => ?_) (by simp only [List.size_toArray] <;> omega)
  exact laidN (I.kept (t' := s.toks) kp) r' hz q
 ·obtain ⟨its, r', pl, hz⟩ := I.tuple hq
  exact call_tuple_same pl ⟨.ref p, H, I, rfl, q⟩
variable {es : List Expr} {pos : Pos} {t : TA}
def tTupN (t : TA) : TE := fun σ H Q => t σ H fun xs H1 => xs.length ≤ sizeLine ∧ NewT H1 Q xs
theorem pe_tupN {x1} (h : PA X es t) : PE X (.Tuple es x1 pos) (tTupN t) := by
 refine ⟨fun pins s σ H Q I hq => ?_⟩
 refine wpAny_Tuple_spliced (thn (h.run pos pins s σ H _ I hq) fun us s1 ⟨xs, H1, I1, r, z, q⟩ => ⟨by rw [← r.length]; exact z, ?_⟩)
 exact laidN I1 r z q
end
section
variable {X : Cx}
def gAdd (t u : SV) : Option SV :=
 match t, u with
 | .fz (.int i), .fz (.int j) => some (.fz (.int (i + j)))
 | .fz (.str x), .fz (.str y) => if x.length + y.length ≤ sizeLine then some (.fz (.str (x ++ y))) else none
 | t, u => match t.lis, u.lis with
  | some ds, some es => if ds.length + es.length ≤ sizeLine then some (.lst (fzs (ds ++ es))) else none
  | _, _ => match t.tps, u.tps with
   | some ds, some es => if ds.length + es.length ≤ sizeLine then some (.fz (.tuple (ds ++ es))) else none
   | _, _ => none
theorem gAdd_inv {t u z : SV} (h : gAdd t u = some z) : (∃ i j, t = .fz (.int i) ∧ u = .fz (.int j) ∧ z = .fz (.int (i + j))) ∨
  (∃ x y, t = .fz (.str x) ∧ u = .fz (.str y) ∧ x.length + y.length ≤ sizeLine ∧ z = .fz (.str (x ++ y))) ∨
  (∃ ds es, t.lis = some ds ∧ u.lis = some es ∧ ds.length + es.length ≤ sizeLine ∧ z = .lst (fzs (ds ++ es))) ∨
  (∃ ds es, t.tps = some ds ∧ u.tps = some es ∧ ds.length + es.length ≤ sizeLine ∧ z = .fz (.tuple (ds ++ es))) := by
 have rest : (match t.lis, u.lis with
  | some ds, some es => if ds.length + es.length ≤ sizeLine then some (SV.lst (fzs (ds ++ es))) else none
  | _, _ => match t.tps, u.tps with
   | some ds, some es => if ds.length + es.length ≤ sizeLine then some (SV.fz (.tuple (ds ++ es))) else none
   | _, _ => none) = some z → (∃ ds es, t.lis = some ds ∧ u.lis = some es ∧ ds.length + es.length ≤ sizeLine ∧ z = .lst (fzs (ds ++ es))) ∨
  (∃ ds es, t.tps = some ds ∧ u.tps = some es ∧ ds.length + es.length ≤ sizeLine ∧ z = .fz (.tuple (ds ++ es))) := fun h => by
  have second : (match t.tps, u.tps with
   | some ds, some es => if ds.length + es.length ≤ sizeLine then some (SV.fz (.tuple (ds ++ es))) else none
   | _, _ => none) = some z → (∃ ds es, t.tps = some ds ∧ u.tps = some es ∧ ds.length + es.length ≤ sizeLine ∧ z = .fz (.tuple (ds ++ es))) := fun h => by
   cases e1 : t.tps with
   | none => rw [e1] at h; cases h
   | some ds =>
    cases e2 : u.tps with
    | none => rw [e1, e2] at h; cases h
    | some es =>
     rw [e1, e2] at h
     dsimp only at h
     split at h
     ·rename_i hz
      cases h
      exact ⟨ds, es, rfl, rfl, hz, rfl⟩
     ·cases h
  cases e1 : t.lis with
  | none => rw [e1] at h; exact .inr (second h)
  | some ds =>
   cases e2 : u.lis with
   | none => rw [e1, e2] at h; exact .inr (second h)
   | some es =>
    rw [e1, e2] at h
    dsimp only at h
    split at h
    ·rename_i hz
     cases h
     exact .inl ⟨ds, es, rfl, rfl, hz, rfl⟩
    ·cases h
 unfold gAdd at h
 split at h
 ·cases h; exact .inl ⟨_, _, rfl, rfl, rfl⟩
 ·split at h
  ·rename_i hz
   cases h
   exact .inr (.inl ⟨_, _, rfl, rfl, hz, rfl⟩)
  ·cases h
 ·exact .inr (.inr (rest h))
theorem og_add : OpR X (binaryOp .Add) (rG X.K gAdd) := by
 intro pins s σ H x y v u Q I rx ry ⟨F, t, t', z, fx, fy, fh, ox, oy, e, q⟩
 rcases gAdd_inv e with ⟨i, j, rfl, rfl, rfl⟩ | ⟨i, j, rfl, rfl, hz, rfl⟩ | ⟨ds, es, e1, e2, hz, rfl⟩ | ⟨ds, es, e1, e2, hz, rfl⟩
 ·exact op_add pins s σ H x y v u Q I rx ry ⟨i, j, fz_int ox, fz_int oy, q F H _ [] (nv_fz fh (.int _))⟩
 ·exact op_add_str pins s σ H x y v u Q I rx ry ⟨i, j, fz_str ox, fz_str oy, hz, q F H _ [] (nv_fz fh (.str _))⟩
 ·obtain ⟨a, vs, r1, r2, r3⟩ := own_lis fh ox e1
  obtain ⟨b, ws, r4, r5, r6⟩ := own_lis fh oy e2
  exact op_cat pins s σ H x y v u Q I rx ry ⟨a, b, vs, ws, r1, r4, r2, r5, by rw [fzAll_len r3, fzAll_len r6]; exact hz, fun p hp => q F _ _ [p] (nv_lst fh hp (fzAll_app r3 r6))⟩
 ·obtain ⟨a, vs, r1, r2, r3⟩ := own_tps ox e1
  obtain ⟨b, ws, r4, r5, r6⟩ := own_tps oy e2
  refine op_catN pins s σ H x y v u Q I rx ry ⟨a, b, vs, ws, r1, r4, r2.sq fh, r5.sq fh, by rw [fzAll_len r3, fzAll_len r6]; exact hz, fun n => ?_, fun _ n => ?_, fun _ _ p o hp ho => q _ _ _ _ (nv_tup fh hp ho (fzAll_app r3 r6))⟩
  ·subst n
   cases r3
   exact q F H _ [] (nv_fz fh (.tup r5 r6))
  ·subst n
   cases r6
   rw [List.append_nil] at q
   exact q F H _ [] (nv_fz fh (.tup r2 r3))
def gInt (C : Int → Int → Bool) (f : Int → Int → Int) (t u : SV) : Option SV :=
 match t, u with
 | .fz (.int i), .fz (.int j) => if C i j = true then some (.fz (.int (f i j))) else none
 | _, _ => none
theorem og_int {op : Value → Value → Sem Value} {C : Int → Int → Bool} {Cp : Int → Int → Prop} {f : Int → Int → Int} (ho : OpR X op (rI Cp fun i j => .int (f i j))) (hC : ∀ i j, C i j = true → Cp i j) : OpR X op (rG X.K (gInt C f)) := by
 intro pins s σ H x y v u Q I rx ry ⟨F, t, t', z, fx, fy, fh, ox, oy, e, q⟩
 unfold gInt at e
 split at e
 ·split at e
  ·rename_i i j hc
   cases e
   exact ho pins s σ H x y v u Q I rx ry ⟨i, j, fz_int ox, fz_int oy, hC i j hc, q F H _ [] (nv_fz fh (.int _))⟩
  ·cases e
 ·cases e
theorem rI_of0 {op : Value → Value → Sem Value} {g : Int → Int → V} (h : OpR X op (rI0 g)) : OpR X op (rI (fun _ _ => True) g) :=
 fun pins s σ H x y v u Q I rx ry ⟨i, j, a, b, _, q⟩ => h pins s σ H x y v u Q I rx ry ⟨i, j, a, b, q⟩
def cT : Int → Int → Bool := fun _ _ => true
def gSub := gInt cT fun i j => i - j
theorem og_sub : OpR X (binaryOp .Sub) (rG X.K gSub) := og_int (rI_of0 op_sub) fun _ _ _ => trivial
def cDiv (_ j : Int) : Bool := decide (0 < j) && decide (j.natAbs.log2 < 9000)
def gFDiv := gInt cDiv fun i j => i / j
theorem og_fdiv : OpR X (binaryOp .FloorDiv) (rG X.K gFDiv) := og_int op_fdivW fun i j h => by
 unfold cDiv at h
 rw [Bool.and_eq_true] at h
 exact ⟨of_decide_eq_true h.1, of_decide_eq_true h.2⟩
def cMod (_ j : Int) : Bool := decide (0 < j)
def gMod := gInt cMod fun i j => i % j
theorem og_mod : OpR X (binaryOp .Mod) (rG X.K gMod) := og_int op_mod fun i j h => of_decide_eq_true h
def cPow (i j : Int) : Bool := decide (0 ≤ j) && decide (j ≤ 1000000) && decide (i.natAbs < 2 ^ 64)
theorem cPow_ok {i j : Int} (h : cPow i j = true) : CPow i j := by
 unfold cPow at h
 rw [Bool.and_eq_true, Bool.and_eq_true] at h
 exact ⟨of_decide_eq_true h.1.1, of_decide_eq_true h.1.2, of_decide_eq_true h.2⟩
def gPow := gInt cPow fun i j => i ^ j.toNat
theorem og_pow : OpR X (binaryOp .Pow) (rG X.K gPow) := og_int op_pow fun _ _ h => cPow_ok h
def cMul (i j : Int) : Bool := decide (i.natAbs.log2 + j.natAbs.log2 < 1000000)
def gMul (t u : SV) : Option SV :=
 match t, u with
 | .fz (.int i), .fz (.int j) => if cMul i j = true then some (.fz (.int (i * j))) else none
 | .fz (.str x), .fz (.int k) => if 0 ≤ k ∧ k < 2 ^ 63 ∧ x.length * k.toNat ≤ sizeLine then some (.fz (.str (Txt.mul x k))) else none
 | .fz (.tuple _), .fz (.int _) => none
 | t, .fz (.int k) => match t.lis with
  | some ds => if 0 ≤ k ∧ k < 2 ^ 63 ∧ ds.length * k.toNat ≤ sizeLine then some (.lst (fzs (List.replicate k.toNat ds).flatten)) else none
  | none => none
 | _, _ => none
theorem fzAll_rep {F : Hp} {ds : List PyData} {vs : List V} (h : FzAll F vs ds) : ∀ n : Nat, FzAll F (List.replicate n vs).flatten (List.replicate n ds).flatten
 | 0 => .nil
 | n + 1 => by
  rw [List.replicate_succ, List.replicate_succ, List.flatten_cons, List.flatten_cons]
  exact fzAll_app h (fzAll_rep h n)
theorem op_mul_str : OpR X (binaryOp .Mult) (fun x y H Q => ∃ i k, x = .str i ∧ y = .int k ∧ (0 ≤ k ∧ k < 2 ^ 63 ∧ i.length * k.toNat ≤ sizeLine) ∧ Q (.str (Txt.mul i k)) H) := by
 intro pins s σ H x y v u Q I rx ry h
 obtain ⟨i, j, rfl, rfl, hz, q⟩ := h
 obtain ⟨t, rfl⟩ := rx
 obtain ⟨t', rfl⟩ := ry
 obtain ⟨h1, h2, h3⟩ := hz
 rw [sizeLine_eq] at h3
 have p63 : (2 : Int) ^ 63 = 9223372036854775808 := by decide
 refine SB.mul ⟨?_, fun a b => ?_, fun a b => ?_⟩ (fun t' tk => ⟨.str (Txt.mul i j), H, I.tok _, ⟨_, rfl⟩, q⟩)
 ·rw [p63] at h2 ⊢
  simp
  omega
 ·have h4 : (i.length : Int) ≤ (2 ^ 63 - 1) / j := by
   refine Int.le_ediv_of_mul_le (by omega) ?_
   have e : ((i.length * j.toNat : Nat) : Int) = i.length * j := by rw [Int.natCast_mul, Int.toNat_of_nonneg h1]
   have h5 : ((i.length * j.toNat : Nat) : Int) ≤ 16777216 := by omega
   rw [← e, p63]
   omega
  omega
 ·unfold Builtin.Str.tooLong
  rw [sizeLine_eq]
  exact decide_eq_false (by omega)
theorem tuple_mul1 (l : Addr) (items : Array Value) (n : Nat) (dd : Option Addr) (sl : Array (Option Value)) (u : Tok) :
  Meets (Builtin.«tuple.__mul__» ⟨[.ref l, .int 1 u], []⟩) (fun _ R s => s.heap.get? l = some { cls := .type "tuple", dict := dd, data := .seq items n, slots := sl } ∧
   R (.ok (.ret (Value.ref l))) s) :=
 .of_wp fun prog w A R s h => by
  obtain ⟨hp, g, d, tk, os⟩ := s
  obtain ⟨hl, h⟩ := h
  have f1 := AutoSeq1.idx_int
  have c0 : (decide ((1 : Int) < -(2 ^ 63)) || decide ((1 : Int) ≥ 2 ^ 63)) = false := by decide
  have c1 : (items.isEmpty || (1 : Int) == 1) = true := by rw [show ((1 : Int) == 1) = true from rfl, Bool.or_true]
  wp_walk using wpAny_loadPart' hl
  repeat (first
   | (refine wpAny_ite_false (decide_eq_false (by rw [c0]; exact Bool.false_ne_true)) ?_; wp_walk using wpAny_loadPart' hl)
   | (refine wpAny_ite_true (decide_eq_true c1) ?_; wp_walk using wpAny_loadPart' hl))
  exact ⟨_, rfl, h⟩
theorem op_repT1 : OpR X (binaryOp .Mult) (fun x y H Q => ∃ l xs, x = .ref l ∧ y = .int 1 ∧ SqT X.K H l xs ∧ Q (.ref l) H) := by
 intro pins s σ H x y v u Q I rx ry h
 obtain ⟨l, xs, rfl, rfl, hT, q⟩ := h
 cases rx
 obtain ⟨t, rfl⟩ := ry
 obtain ⟨its, r, ⟨⟨cls, dd, data, sl⟩, ho, hc, n, hd⟩, hs⟩ := I.tuple hT
 simp only at hc hd
 subst hc hd
 exact wpAny_binaryOp_repeat_ref (T := "tuple") (U := "int") (by decide) ⟨_, ho, rfl⟩ (fun s' => typeIs_int s' 1 t) noFill_tuple_mul F.fills_int_mul F.slot_int_rmul repeat_tuple F.slot_int_index.lookup
  (call_meets F.slot_int_rmul (typeIs_int s 1 t) F.entry_int_rmul (F.args_int_rmul_2 _ _) (int_rmul_tuple 1 t l its.toArray n dd sl)
   ⟨ho, rfl, ⟨_, ho, rfl⟩, call_meets F.slot_tuple_mul ⟨_, ho, rfl⟩ F.entry_tuple_mul (F.args_tuple_mul_2 _ _) (tuple_mul1 l its.toArray n dd sl t) ⟨ho, .ref l, H, I, rfl, q⟩⟩)
theorem og_mul : OpR X (binaryOp .Mult) (rG X.K gMul) := by
 intro pins s σ H x y v u Q I rx ry ⟨F, t, t', z, fx, fy, fh, ox, oy, e, q⟩
 unfold gMul at e
 split at e
 ·split at e
  ·rename_i i j hc
   cases e
   exact op_mulW pins s σ H x y v u Q I rx ry ⟨i, j, fz_int ox, fz_int oy, (show i.natAbs.log2 + j.natAbs.log2 < 1000000 from of_decide_eq_true hc), q F H _ [] (nv_fz fh (.int _))⟩
  ·cases e
 ·split at e
  ·rename_i i k hc
   cases e
   exact op_mul_str pins s σ H x y v u Q I rx ry ⟨i, k, fz_str ox, fz_int oy, hc, q F H _ [] (nv_fz fh (.str _))⟩
  ·cases e
 ·cases e
 ·rename_i k _ _ _
  cases e1 : t.lis with
  | none => rw [e1] at e; cases e
  | some ds =>
   rw [e1] at e
   dsimp only at e
   split at e
   ·rename_i hk
    cases e
    obtain ⟨a, vs, r1, r2, r3⟩ := own_lis fh ox e1
    exact op_rep pins s σ H x y v u Q I rx ry ⟨a, k, vs, r1, fz_int oy, r2, by omega, hk.2.1, by rw [fzAll_len r3]; exact hk.2.2, fun p hp => q _ _ _ _ (nv_lst fh hp (fzAll_rep r3 _))⟩
   ·cases e
 ·cases e
def gEq (t u : SV) : Option SV :=
 match t.view, u.view with
 | some d, some e => if SeqAt.shaped d = true ∧ SeqAt.shaped e = true then some (.fz (.bool (PyData.eqv d e))) else none
 | _, _ => none
def gNe (t u : SV) : Option SV :=
 match t.view, u.view with
 | some d, some e => if SeqAt.shaped d = true ∧ SeqAt.shaped e = true then some (.fz (.bool (!PyData.eqv d e))) else none
 | _, _ => none
theorem og_eq (hu : X.A.units + 64 < cLine) : OpR X (compareOp .Eq) (rG X.K gEq) := by
 intro pins s σ H x y v u Q I rx ry ⟨F, t, t', z, fx, fy, fh, ox, oy, e, q⟩
 unfold gEq at e
 cases e1 : t.view with
 | none => rw [e1] at e; cases e
 | some d =>
  cases e2 : t'.view with
  | none => rw [e1, e2] at e; cases e
  | some d' =>
   rw [e1, e2] at e
   dsimp only at e
   split at e
   ·rename_i hs
    cases e
    exact op_eqD hu pins s σ H x y v u Q I rx ry ⟨d, d', own_view fh ox e1, own_view fh oy e2, hs.1, hs.2, q F H _ [] (nv_fz fh (.bl _))⟩
   ·cases e
theorem og_ne (hu : X.A.units + 64 < cLine) : OpR X (compareOp .NotEq) (rG X.K gNe) := by
 intro pins s σ H x y v u Q I rx ry ⟨F, t, t', z, fx, fy, fh, ox, oy, e, q⟩
 unfold gNe at e
 cases e1 : t.view with
 | none => rw [e1] at e; cases e
 | some d =>
  cases e2 : t'.view with
  | none => rw [e1, e2] at e; cases e
  | some d' =>
   rw [e1, e2] at e
   dsimp only at e
   split at e
   ·rename_i hs
    cases e
    exact op_neD hu pins s σ H x y v u Q I rx ry ⟨d, d', own_view fh ox e1, own_view fh oy e2, hs.1, hs.2, q F H _ [] (nv_fz fh (.bl _))⟩
   ·cases e
def gOrd (fi : Int → Int → Bool) (fs : Str → Str → Bool) (fd : PyData → PyData → Bool) (t u : SV) : Option SV :=
 match t, u with
 | .fz (.int i), .fz (.int j) => some (.fz (.bool (fi i j)))
 | .fz (.str i), .fz (.str j) => some (.fz (.bool (fs i j)))
 | .fz (.tuple d), .fz (.tuple e) => if PySem.W.alike (.tuple d) (.tuple e) = true ∧ PyData.depth (.tuple d) ≤ 64 then some (.fz (.bool (fd (.tuple d) (.tuple e)))) else none
 | _, _ => none
theorem og_ord {op : CmpOp} {fi : Int → Int → Bool} {fs : Str → Str → Bool} {fd : PyData → PyData → Bool}
  (h1 : OpR X (compareOp op) (rI0 fun i j => .bl (fi i j))) (h2 : OpR X (compareOp op) (fun x y H Q => ∃ i j, x = .str i ∧ y = .str j ∧ Q (.bl (fs i j)) H))
  (h3 : ∀ (s : Shared) (a b : Value) (da db : PyData) (as bs : List Addr) (Q : Value → Shared → Prop), Reads s.heap a da as → Reads s.heap b db bs → PySem.W.alike da db = true → da ≠ .none → X.A.units + min da.depth db.depth < cLine → Q (.bool (fd da db)) s → wpAny (model X.prog X.w) X.A (compareOp op a b) Q X.xe s)
  (hu : X.A.units + 64 < cLine) : OpR X (compareOp op) (rG X.K (gOrd fi fs fd)) := by
 intro pins s σ H x y v u Q I rx ry ⟨F, t, t', z, fx, fy, fh, ox, oy, e, q⟩
 unfold gOrd at e
 split at e
 ·cases e
  exact h1 pins s σ H x y v u Q I rx ry ⟨_, _, fz_int ox, fz_int oy, q F H _ [] (nv_fz fh (.bl _))⟩
 ·cases e
  exact h2 pins s σ H x y v u Q I rx ry ⟨_, _, fz_str ox, fz_str oy, q F H _ [] (nv_fz fh (.bl _))⟩
 ·split at e
  ·rename_i d e' hk
   cases e
   obtain ⟨as, r1⟩ := Dp.reads I _ x v (own_view fh ox rfl) rx
   obtain ⟨bs, r2⟩ := Dp.reads I _ y u (own_view fh oy rfl) ry
   exact h3 s v u _ _ as bs _ r1 r2 hk.1 (fun z => by cases z) (by omega) ⟨.bl _, H, I, rfl, q F H _ [] (nv_fz fh (.bl _))⟩
  ·cases e
 ·cases e
def gLt := gOrd (fun i j => decide (i < j)) (fun i j => decide (i.cps.toList < j.cps.toList)) PySem.W.dataLt
def gGt := gOrd (fun i j => decide (j < i)) (fun i j => decide (j.cps.toList < i.cps.toList)) (fun a b => PySem.W.dataLt b a)
def gLe := gOrd (fun i j => decide (i ≤ j)) (fun i j => !decide (j.cps.toList < i.cps.toList)) (fun a b => !PySem.W.dataLt b a)
theorem og_lt (hu : X.A.units + 64 < cLine) : OpR X (compareOp .Lt) (rG X.K gLt) := og_ord op_lt op_lt_str (fun s a b da db as bs Q r1 r2 h1 h2 h3 hq => PySem.W.lt_data r1 r2 h1 h2 h3 hq) hu
theorem og_gt (hu : X.A.units + 64 < cLine) : OpR X (compareOp .Gt) (rG X.K gGt) := og_ord op_gt op_gt_str (fun s a b da db as bs Q r1 r2 h1 h2 h3 hq => PySem.W.gt_data r1 r2 h1 h2 h3 hq) hu
theorem og_le (hu : X.A.units + 64 < cLine) : OpR X (compareOp .LtE) (rG X.K gLe) := og_ord op_le op_le_str (fun s a b da db as bs Q r1 r2 h1 h2 h3 hq => PySem.W.le_data r1 r2 h1 h2 h3 hq) hu
def gIsN (t u : SV) : Option SV :=
 match t, u with
 | .fz d, .fz .none => some (.fz (.bool (match d with | .none => true | _ => false)))
 | .lst _, .fz .none => some (.fz (.bool false))
 | .dic _ _, .fz .none => some (.fz (.bool false))
 | _, _ => none
def gNotN (t u : SV) : Option SV :=
 match gIsN t u with
 | some (.fz (.bool b)) => some (.fz (.bool (!b)))
 | _ => none
theorem gIsN_ok {K : PySem.W.Frag} {F H : Hp} {t u z : SV} {x y : V} {fx fy : List Addr} (ox : Own K F H t x fx) (oy : Own K F H u y fy) (e : gIsN t u = some z) : y = .non ∧ z = .fz (.bool (decide (x = .non))) := by
 unfold gIsN at e
 split at e
 ·cases e
  refine ⟨fz_non oy, ?_⟩
  have h := own_fz ox
  cases h <;> rfl
 ·cases e
  refine ⟨fz_non oy, ?_⟩
  unfold Own at ox
  obtain ⟨a, _, _, e1, _⟩ := ox
  rw [e1] <;> rfl
 ·cases e
  refine ⟨fz_non oy, ?_⟩
  unfold Own at ox
  obtain ⟨a, _, _, e1, _⟩ := ox
  rw [e1] <;> rfl
 ·cases e
theorem og_notN : OpR X (compareOp .IsNot) (rG X.K gNotN) := by
 intro pins s σ H x y v u Q I rx ry ⟨F, t, t', z, fx, fy, fh, ox, oy, e, q⟩
 unfold gNotN at e
 cases e1 : gIsN t t' with
 | none => rw [e1] at e; cases e
 | some w =>
  obtain ⟨e2, rfl⟩ := gIsN_ok ox oy e1
  rw [e1] at e
  cases e
  exact op_notN pins s σ H x y v u Q I rx ry ⟨e2, q F H _ [] (nv_fz fh (.bl _))⟩
def keyAt : PyData → Option Key
 | .int i => some (.inl i)
 | .str x => some (.inr x)
 | _ => none
def keysOf : List PyData → Option (List Key)
 | [] => some []
 | d :: ds => match keyAt d, keysOf ds with
  | some k, some ks => some (k :: ks)
  | _, _ => none
def toKey (b : Bool) : SV → Option DKey
 | .fz d => match b, d with
  | false, d => match keyAt d with
   | some k => some (.k k)
   | none => none
  | true, .tuple _ => none
  | _, _ => none
 | _ => none
def dlook : List (DKey × SV) → DKey → Option SV
 | [], _ => none
 | (k, x) :: r, j => if k = j then some x else dlook r j
def dput : List (DKey × SV) → DKey → SV → List (DKey × SV)
 | [], j, y => [(j, y)]
 | (k, x) :: r, j, y => if k = j then (k, y) :: r else (k, x) :: dput r j y
theorem keyAt_ok {F : Hp} {d : PyData} {k : Key} {v : V} (h : Fz F v d) (e : keyAt d = some k) : v = kV k := by
 cases d with
 | int i => cases e; cases h; rfl
 | str i => cases e; cases h; rfl
 | none => cases e
 | bool _ => cases e
 | list _ => cases e
 | tuple _ => cases e
 | dict _ => cases e
theorem keysOf_ok {F : Hp} : ∀ {ds : List PyData} {ks : List Key} {vs : List V}, FzAll F vs ds → keysOf ds = some ks → vs = ks.map kV
 | [], ks, vs, h, e => by cases h; cases e; rfl
 | d :: ds, ks, vs, h, e => by
  cases h with
  | cons h1 h2 =>
   unfold keysOf at e
   cases e1 : keyAt d with
   | none => rw [e1] at e; cases e
   | some k =>
    cases e2 : keysOf ds with
    | none => rw [e1, e2] at e; cases e
    | some ks' =>
     rw [e1, e2] at e
     cases e
     rw [keyAt_ok h1 e1, keysOf_ok h2 e2, List.map_cons]
theorem ownD_look {κ : Type} [DecidableEq κ] {K : PySem.W.Frag} {F H : Hp} (c : κ → DKey) (inj : ∀ a b, c a = c b → a = b) : ∀ {kvs : List (DKey × SV)} {us : List V} {fq : List Addr} {ws : List (κ × V)}, OwnD K F H kvs us fq → ws.map (fun p => c p.1) = kvs.map (·.1) → us = ws.map (·.2) → ∀ k : κ,
  (dlook kvs (c k) = none ∧ valV ws k = none) ∨ ∃ x v f, dlook kvs (c k) = some x ∧ valV ws k = some v ∧ Own K F H x v f ∧ ∀ a ∈ f, a ∈ fq
 | [], us, fq, ws, h, e, e', k => by
  cases ws with
  | nil => exact .inl ⟨rfl, rfl⟩
  | cons p r => simp at e
 | (k0, x) :: kvs, us, fq, ws, h, e, e', k => by
  cases ws with
  | nil => simp at e
  | cons p r =>
   rw [List.map_cons, List.map_cons] at e
   injection e with e1 e2
   unfold OwnD at h
   obtain ⟨v, rr, f, g, h1, h2, h3, h4⟩ := h
   rw [e', List.map_cons] at h1
   injection h1 with h5 h6
   by_cases hk : p.1 = k
   ·right
    refine ⟨x, v, f, ?_, ?_, h3, fun a ha => by rw [h2]; simp [ha]⟩
    ·unfold dlook
     rw [if_pos (show k0 = c k from by rw [← hk]; exact e1.symm)]
    ·rw [valV_pos hk, h5]
   ·have ne : ¬ k0 = c k := fun z => hk (inj _ _ (by rw [← z]; exact e1))
    have d1 : dlook ((k0, x) :: kvs) (c k) = dlook kvs (c k) := by
     show (if k0 = c k then some x else dlook kvs (c k)) = _
     rw [if_neg ne]
    rcases ownD_look c inj h4 e2 h6.symm k with ⟨a, b⟩ | ⟨x', v', f', a, b, c', d'⟩
    ·exact .inl ⟨d1.trans a, (valV_neg hk).trans b⟩
    ·exact .inr ⟨x', v', f', d1.trans a, (valV_neg hk).trans b, c', fun z hz => by rw [h2]; simp [d' z hz]⟩
theorem injK : ∀ a b : Key, DKey.k a = DKey.k b → a = b := fun _ _ h => DKey.k.inj h
theorem injT : ∀ a b : List Key, DKey.t a = DKey.t b → a = b := fun _ _ h => DKey.t.inj h
def fzD (kvs : List (DKey × PyData)) : List (DKey × SV) := kvs.map fun p => (p.1, .fz p.2)
theorem fzD_keys (kvs : List (DKey × PyData)) : (fzD kvs).map (·.1) = kvs.map (·.1) := by unfold fzD; rw [List.map_map]; rfl
theorem fzD_own {K : PySem.W.Frag} {F H : Hp} : ∀ {kvs : List (DKey × PyData)} {us : List V}, FzAll F us (kvs.map (·.2)) → OwnD K F H (fzD kvs) us []
 | [], us, h => by cases h; show OwnD K F H [] [] []; unfold OwnD; exact ⟨rfl, rfl⟩
 | (k, d) :: kvs, us, h => by
  cases h with
  | cons h1 h2 =>
   show OwnD K F H ((k, .fz d) :: fzD kvs) _ []
   unfold OwnD
   exact ⟨_, _, [], [], rfl, rfl, (by unfold Own; exact ⟨h1, rfl⟩), fzD_own h2⟩
def RdD (H : Hp) (a : Addr) (b : Bool) (kvs : List (DKey × SV)) (us : List V) : Prop :=
 (b = false ∧ ∃ ws, Rd H a (.dK ws) ∧ ws.map (fun p => DKey.k p.1) = kvs.map (·.1) ∧ us = ws.map (·.2)) ∨
 (b = true ∧ ∃ ws, Rd H a (.dT ws) ∧ ws.map (fun p => DKey.t p.1) = kvs.map (·.1) ∧ us = ws.map (·.2))
theorem rdD_get {K : PySem.W.Frag} {F H : Hp} (fh : ∀ a o, F a = some o → H a = some o) {b : Bool} {kvs : List (DKey × SV)} {us : List V} {fq : List Addr} {a : Addr} {t : SV} {y : V} {fk : List Addr} {k : DKey} (e4 : OwnD K F H kvs us fq) (e5 : RdD H a b kvs us) (hk : Own K F H t y fk) (e : toKey b t = some k) :
  (dlook kvs k = none ∧ DGet H a y none) ∨ ∃ x w f, dlook kvs k = some x ∧ DGet H a y (some w) ∧ Own K F H x w f ∧ ∀ z ∈ f, z ∈ fq := by
 cases t with
 | ro d => cases e
 | lst _ => cases e
 | dic _ _ => cases e
 | fd _ _ => cases e
 | tb _ _ => cases e
 | gone => cases e
 | nd _ => cases e
 | ob _ _ _ => cases e
 | nq _ => cases e
 | ne _ => cases e
 | fz d =>
  have hd := own_fz hk
  rcases e5 with ⟨rfl, ws, q1, q2, q3⟩ | ⟨rfl, ws, q1, q2, q3⟩
  ·have e' : (match keyAt d with | some k => some (DKey.k k) | none => none) = some k := e
   cases ek : keyAt d with
   | none => rw [ek] at e'; cases e'
   | some k' =>
    rw [ek] at e'
    cases e'
    have ey := keyAt_ok hd ek
    subst ey
    rcases ownD_look DKey.k injK e4 q2 q3 k' with ⟨n1, n2⟩ | ⟨x, w, f, n1, n2, n3, n4⟩
    ·exact .inl ⟨n1, .inl ⟨ws, k', q1, rfl, n2.symm⟩⟩
    ·exact .inr ⟨x, w, f, n1, .inl ⟨ws, k', q1, rfl, n2.symm⟩, n3, n4⟩
  ·cases d with
   | tuple ds => cases e
   | none => cases e
   | bool _ => cases e
   | int _ => cases e
   | str _ => cases e
   | list _ => cases e
   | dict _ => cases e
def SV.dct : SV → Option (Bool × List (DKey × SV))
 | .dic b kvs => some (b, kvs)
 | .fd b kvs => some (b, fzD kvs)
 | _ => none
theorem own_dct {K : PySem.W.Frag} {F H : Hp} (fh : ∀ a o, F a = some o → H a = some o) {u : SV} {v : V} {fp : List Addr} {b : Bool} {kvs : List (DKey × SV)} (h : Own K F H u v fp) (e : u.dct = some (b, kvs)) : ∃ a us fq, v = .ref a ∧ OwnD K F H kvs us fq ∧ RdD H a b kvs us ∧ ∀ z ∈ fq, z ∈ fp := by
 cases u with
 | fz d => cases e
 | ro d => cases e
 | lst _ => cases e
 | tb _ _ => cases e
 | gone => cases e
 | nd _ => cases e
 | ob _ _ _ => cases e
 | nq _ => cases e
 | ne _ => cases e
 | dic b' kvs' =>
  cases e
  unfold Own at h
  obtain ⟨a, us, fq, e1, e2, e3, e4, e5⟩ := h
  exact ⟨a, us, fq, e1, e4, e5.imp (fun ⟨h1, ws, h2, h3⟩ => ⟨h1, ws, .inl h2, h3⟩) (fun ⟨h1, ws, h2, h3⟩ => ⟨h1, ws, .inl h2, h3⟩), fun z hz => by rw [e2]; exact List.mem_cons_of_mem _ hz⟩
 | fd b' kvs' =>
  cases e
  unfold Own at h
  obtain ⟨_, a, o, us, e1, e2, e3⟩ := h
  exact ⟨a, us, [], e1, fzD_own e2, e3.imp (fun ⟨h1, ws, h2, h3⟩ => ⟨h1, ws, .inr ⟨o, fh _ _ h2⟩, by rw [fzD_keys]; exact h3⟩) (fun ⟨h1, ws, h2, h3⟩ => ⟨h1, ws, .inr ⟨o, fh _ _ h2⟩, by rw [fzD_keys]; exact h3⟩), fun z hz => by cases hz⟩
theorem own_dget' {K : PySem.W.Frag} {F H : Hp} (fh : ∀ a o, F a = some o → H a = some o) {u : SV} {b : Bool} {kvs : List (DKey × SV)} {t : SV} {v y : V} {fp fk : List Addr} {k : DKey} (h : Own K F H u v fp) (hu : u.dct = some (b, kvs)) (hk : Own K F H t y fk) (e : toKey b t = some k) :
  ∃ a, v = .ref a ∧ ((dlook kvs k = none ∧ DGet H a y none) ∨ ∃ x w f, dlook kvs k = some x ∧ DGet H a y (some w) ∧ Own K F H x w f ∧ ∀ z ∈ f, z ∈ fp) := by
 obtain ⟨a, us, fq, e1, e2, e3, e4⟩ := own_dct fh h hu
 refine ⟨a, e1, ?_⟩
 rcases rdD_get fh e2 e3 hk e with q | ⟨x, w, f, n1, n2, n3, n4⟩
 ·exact .inl q
 ·exact .inr ⟨x, w, f, n1, n2, n3, fun z hz => e4 z (n4 z hz)⟩
theorem own_dget {K : PySem.W.Frag} {F H : Hp} (fh : ∀ a o, F a = some o → H a = some o) {b : Bool} {kvs : List (DKey × SV)} {t : SV} {v y : V} {fp fk : List Addr} {k : DKey} (h : Own K F H (.dic b kvs) v fp) (hk : Own K F H t y fk) (e : toKey b t = some k) :
  ∃ a, v = .ref a ∧ ((dlook kvs k = none ∧ DGet H a y none) ∨ ∃ x w f, dlook kvs k = some x ∧ DGet H a y (some w) ∧ Own K F H x w f ∧ ∀ z ∈ f, z ∈ fp) := own_dget' fh h rfl hk e
def inStr (x y : Str) : Bool :=
 match x.cps.toList with
 | [c] => decide (c ∈ y.cps.toList)
 | _ => !(Builtin.Str.occurrences y x 0 y.length 1).isEmpty
def inSeq (d : PyData) (es : List PyData) : Bool := es.any fun z => PyData.eqv z d
def gInB (t u : SV) : Option Bool :=
 match t, u with
 | .fz (.str x), .fz (.str y) => some (inStr x y)
 | t, .dic b kvs => match toKey b t with
  | some k => some (dlook kvs k).isSome
  | none => none
 | t, .fd b kvs => match toKey b t with
  | some k => some (dlook (fzD kvs) k).isSome
  | none => none
 | t, u => match t.view, u.view with
  | some d, some (.list es) => if SeqAt.shaped d = true ∧ SeqAt.shaped (.list es) = true then some (inSeq d es) else none
  | some d, some (.tuple es) => if SeqAt.shaped d = true ∧ SeqAt.shaped (.tuple es) = true then some (inSeq d es) else none
  | _, _ => none
def gNotIn (t u : SV) : Option SV :=
 match gInB t u with
 | some b => some (.fz (.bool (!b)))
 | none => none
theorem gInB_inv {t u : SV} {b : Bool} (h : gInB t u = some b) : (∃ x y, t = .fz (.str x) ∧ u = .fz (.str y) ∧ b = inStr x y) ∨
  (∃ k kvs j, u.dct = some (k, kvs) ∧ toKey k t = some j ∧ b = (dlook kvs j).isSome) ∨
  ∃ d es, t.view = some d ∧ (u.view = some (.list es) ∧ SeqAt.shaped (.list es) = true ∨ u.view = some (.tuple es) ∧ SeqAt.shaped (.tuple es) = true) ∧ SeqAt.shaped d = true ∧ b = inSeq d es := by
 unfold gInB at h
 split at h
 ·cases h; exact .inl ⟨_, _, rfl, rfl, rfl⟩
 ·split at h
  ·rename_i e
   cases h
   exact .inr (.inl ⟨_, _, _, rfl, e, rfl⟩)
  ·cases h
 ·split at h
  ·rename_i e
   cases h
   exact .inr (.inl ⟨_, _, _, rfl, e, rfl⟩)
  ·cases h
 ·split at h
  ·rename_i e1 e2
   split at h
   ·rename_i hs
    cases h
    exact .inr (.inr ⟨_, _, e1, .inl ⟨e2, hs.2⟩, hs.1, rfl⟩)
   ·cases h
  ·rename_i e1 e2
   split at h
   ·rename_i hs
    cases h
    exact .inr (.inr ⟨_, _, e1, .inr ⟨e2, hs.2⟩, hs.1, rfl⟩)
   ·cases h
  ·cases h
theorem og_notIn (hu : X.A.units + 65 < cLine) : OpR X (compareOp .NotIn) (rG X.K gNotIn) := by
 intro pins s σ H x y v u Q I rx ry ⟨F, t, t', z, fx, fy, fh, ox, oy, e, q⟩
 unfold gNotIn at e
 cases eb : gInB t t' with
 | none => rw [eb] at e; cases e
 | some b =>
  rw [eb] at e
  cases e
  have fin : Q (.bl (!b)) H := q F H _ [] (nv_fz fh (.bl _))
  rcases gInB_inv eb with ⟨a, c, rfl, rfl, rfl⟩ | ⟨k, kvs, j, ed, e1, rfl⟩ | ⟨d, es, e1, e2, hs, rfl⟩
  ·unfold inStr at fin
   split at fin
   ·rename_i c' ec
    refine op_notIn_sign pins s σ H x y v u Q I rx ry ⟨c', c, ?_, fz_str oy, fin⟩
    rw [fz_str ox]
    congr 1
    exact TL.ext_tl (by show a.cps.toList = _; rw [ec])
   ·exact op_notin_str pins s σ H x y v u Q I rx ry ⟨a, c, fz_str ox, fz_str oy, fin⟩
  ·obtain ⟨a, rfl, g⟩ := own_dget' fh oy ed ox e1
   cases ry
   rcases g with ⟨g1, g2⟩ | ⟨x', w', f', g1, g2, _⟩
   ·rw [g1] at fin
    exact d_notIn (by omega) I g2 rx fun s' I' => ⟨.bl _, H, I', rfl, fin⟩
   ·rw [g1] at fin
    exact d_notIn (by omega) I g2 rx fun s' I' => ⟨.bl _, H, I', rfl, fin⟩
  ·obtain ⟨as, r1⟩ := Dp.reads I _ x v (own_view fh ox e1) rx
   rcases e2 with ⟨e2, hs2⟩ | ⟨e2, hs2⟩
   ·obtain ⟨bs, r2⟩ := Dp.reads I _ y u (own_view fh oy e2) ry
    exact SeqAt.notIn_list_reads r2 r1 (SeqAt.canLay_of_shaped hs2) (SeqAt.canLay_of_shaped hs) (PyProof.Rows.room_in_shaped hs hu) ⟨.bl _, H, I, rfl, fin⟩
   ·obtain ⟨bs, r2⟩ := Dp.reads I _ y u (own_view fh oy e2) ry
    exact SeqAt.notIn_tuple_reads r2 r1 (SeqAt.canLay_of_shaped hs2) (SeqAt.canLay_of_shaped hs) (PyProof.Rows.room_in_shaped hs hu) ⟨.bl _, H, I, rfl, fin⟩
end
end Y
set_option maxRecDepth 100000
set_option maxHeartbeats 4000000
namespace Y
open PySem PySem.Spec L2
section
variable {X : Cx} {EX : Hp → V → Str → Option PyData → Prop} {W : WX} {e a b c : Expr} {pos : Pos} {fa fb fc : DS → Out EV} {C : Cn}
theorem wp_evA {α : Type} {AV : List V} {F F1 H H1 : Hp} {σ : L2.St} {fp fp1 : Rt → List Addr} {o : Out α} {P : α → DS → List Rt → Prop} (e : EvA F H F1 H1 fp fp1) (h : Wp C W AV F H σ fp o P) : Wp C W AV F1 H1 σ fp1 o P := by
 cases o with
 | fail => exact h
 | exc c d S => exact ExcW.later e h
 | ok x S T => exact h
def tOf : SV → Option Bool
 | .fz (.bool b) => some b
 | _ => none
def bnd {α : Type} (o : Out EV) (k : Bool → DS → Out α) : Out α :=
 o.bindT fun e S _ => match e.tree S with
  | some t => match tOf t with
   | some b => k b S
   | none => .fail
  | none => .fail
def tv (fa : DS → Out EV) : DS → Out Bool := fun S => bnd (fa S) fun b S1 => .ok b S1 []
theorem tOf_ok {K : PySem.W.Frag} {F H : Hp} {t : SV} {v : V} {fp : List Addr} {b : Bool} (h : Own K F H t v fp) (e : tOf t = some b) : v = .bl b := by
 unfold tOf at e
 split at e
 ·cases e; exact fz_bl h
 ·cases e
theorem wp_bnd {α : Type} {AV : List V} {F H : Hp} {σ : L2.St} {S : DS} {fp : Rt → List Addr} {o : Out EV} {k : Bool → DS → Out α} {P : α → DS → List Rt → Prop} (h : Wp C W AV F H σ fp (bnd o k) P) :
  Wp C W AV F H σ fp o fun ea S1 T1 => ∀ F1 H1 fp1 v fe, Post C AV F H σ S fp T1 S1 F1 H1 fp1 → VP C AV F H σ fp T1 S1 F1 H1 fp1 v ea fe → ∃ b, v = .bl b ∧ Wp C W AV F1 H1 σ fp1 (k b S1) fun y S2 T2 => P y S2 (T1 ++ T2) := by
 unfold bnd at h
 refine wp_mono (wp_bindT h) fun ea S1 T1 q1 F1 H1 fp1 v fe p1 v1 => ?_
 have q1' := q1 F1 H1 fp1 p1.evA
 cases e3 : ea.tree S1 with
 | none => rw [e3] at q1'; exact q1'.elim
 | some t =>
  rw [e3] at q1'
  dsimp only at q1'
  cases e4 : tOf t with
  | none => rw [e4] at q1'; exact q1'.elim
  | some b =>
   rw [e4] at q1'
   obtain ⟨fx, o1⟩ := EOk.tree p1.st v1.val e3
   exact ⟨b, tOf_ok o1 e4, q1'⟩
theorem tB_LT : ∀ σ H Q, LT C W (tv fa) σ H Q → LE C W fa σ H fun x H1 => ∃ c, x = .bl c ∧ Q c H1 := by
 intro σ H Q ⟨AV, F, S, fp, st, q⟩
 refine ⟨AV, F, S, fp, st, wp_mono (wp_bnd (S := S) q) fun ea S1 T1 q1 F1 H1 fp1 v fe p1 v1 => ?_⟩
 obtain ⟨b, e, q2⟩ := q1 F1 H1 fp1 v fe p1 v1
 refine ⟨b, e, q2 F1 H1 fp1 ?_⟩
 simpa using p1
theorem dt_val (h : DE X EX W e fa) (he : ∀ whole, isTrue e X.env whole = (do let v ← whole; standAt e.pos; holding [v] (truthy v)) := by intro _; rfl) : DT X EX W e (tv fa) :=
 pt_of (pt_val h he) (tB_LT (C := cnOf X EX))
theorem dt_cmp {op : CmpOp} {g : SV → SV → Option SV} (ho : OpR X (compareOp op) (rG X.K g)) (ha : DE X EX W a fa) (hb : DE X EX W b fb) (hm : behindInMarks op b = false) : DT X EX W (.Compare a [op] [b] pos) (tv (eOp2 g fa fb)) :=
 pt_of (pt_cmpR ho ha hb hm) fun σ H Q q => by
  obtain ⟨AV, F, S, fp, st, r⟩ := tB_LT (C := cnOf X EX) σ H Q q
  exact tOp_LE (C := cnOf X EX) σ H _ ⟨AV, F, S, fp, st, r⟩
variable {t u : DS → Out Bool}
def lOr (t u : DS → Out Bool) : DS → Out Bool := fun S => (t S).bindT fun b S1 _ => if b = true then .ok true S1 [] else u S1
def lNot (t : DS → Out Bool) : DS → Out Bool := fun S => (t S).bindT fun b S1 _ => .ok (!b) S1 []
theorem wp_then {α : Type} {AV : List V} {F H : Hp} {σ : L2.St} {S : DS} {fp : Rt → List Addr} {f : DS → Out Bool} {k : Bool → DS → Out α} {P : α → DS → List Rt → Prop} (st : StOk C AV F H σ S fp) (h : Wp C W AV F H σ fp ((f S).bindT fun b S1 _ => k b S1) P) {Q : Bool → Hp → Prop}
  (hk : ∀ b S1 T1 F1 H1 fp1, Post C AV F H σ S fp T1 S1 F1 H1 fp1 → Wp C W AV F1 H1 σ fp1 (k b S1) (fun y S2 T2 => P y S2 (T1 ++ T2)) → Q b H1) : LT C W f σ H Q :=
 ⟨AV, F, S, fp, st, wp_mono (wp_bindT h) fun b S1 T1 q1 F1 H1 fp1 p1 => hk b S1 T1 F1 H1 fp1 p1 (q1 F1 H1 fp1 p1.evA)⟩
theorem lt_of {AV : List V} {F H : Hp} {σ : L2.St} {S : DS} {fp : Rt → List Addr} {f : DS → Out Bool} {Q : Bool → Hp → Prop} {F0 H0 : Hp} {S0 : DS} {fp0 : Rt → List Addr} {T : List Rt} (p : Post C AV F0 H0 σ S0 fp0 T S F H fp)
  (h : Wp C W AV F H σ fp (f S) fun y S2 T2 => ∀ F' H' fp', Post C AV F0 H0 σ S0 fp0 (T ++ T2) S2 F' H' fp' → Q y H') : LT C W f σ H Q :=
 ⟨AV, F, S, fp, p.st, wp_mono h fun b S1 T1 q F' H' fp' p' => q F' H' fp' (p.trans p')⟩
theorem lt_done {AV : List V} {F H : Hp} {σ : L2.St} {S : DS} {fp : Rt → List Addr} {b : Bool} {Q : Bool → Hp → Prop} {F0 H0 : Hp} {S0 : DS} {fp0 : Rt → List Addr} {T : List Rt} (p : Post C AV F0 H0 σ S0 fp0 T S F H fp)
  (h : Wp C W AV F H σ fp (.ok b S []) fun y S2 T2 => ∀ F' H' fp', Post C AV F0 H0 σ S0 fp0 (T ++ T2) S2 F' H' fp' → Q y H') : Q b H :=
 h F H fp (by simpa using p)
theorem tOr_LT : ∀ σ H Q, LT C W (lOr t u) σ H Q → tOr (LT C W t) (LT C W u) σ H Q := by
 intro σ H Q ⟨AV, F, S, fp, st, q⟩
 refine wp_then st q fun b S1 T1 F1 H1 fp1 p1 q1 => ?_
 cases b with
 | true => exact lt_done p1 q1
 | false => exact lt_of p1 q1
theorem tNot_LT : ∀ σ H Q, LT C W (lNot t) σ H Q → tNot (LT C W t) σ H Q := by
 intro σ H Q ⟨AV, F, S, fp, st, q⟩
 exact wp_then st q fun b S1 T1 F1 H1 fp1 p1 q1 => lt_done p1 q1
abbrev DW (X : Cx) (EX : Hp → V → Str → Option PyData → Prop) (W : WX) (e : Expr) (f : DS → Out Bool) : Prop := PW X e (LT (cnOf X EX) W f)
variable {rest : List Expr}
theorem dw_or1 (ha : DT X EX W a t) : DW X EX W (.BoolOp .Or [a] pos) t := pw_or1 ha
theorem dw_or (ha : DT X EX W a t) (hb : DW X EX W (.BoolOp .Or (b :: rest) pos) u) : DW X EX W (.BoolOp .Or (a :: b :: rest) pos) (lOr t u) := pw_of (pw_or ha hb) (tOr_LT (C := cnOf X EX))
theorem dt_w (h : DW X EX W e t) : DT X EX W e t := PW.pt h
theorem dt_not (ha : DT X EX W a t) : DT X EX W (.UnaryOp .Not a pos) (lNot t) := pt_of (pt_not ha) (tNot_LT (C := cnOf X EX))
def eAnd (fa fb : DS → Out EV) : DS → Out EV := fun S => bnd (fa S) fun b S1 => if b = true then fb S1 else .ok (.sv (.fz (.bool false))) S1 []
def eNot (fa : DS → Out EV) : DS → Out EV := fun S => bnd (fa S) fun b S1 => .ok (.sv (.fz (.bool (!b)))) S1 []
theorem le_of {AV : List V} {F H : Hp} {σ : L2.St} {S : DS} {fp : Rt → List Addr} {f : DS → Out EV} {Q : VK} {F0 H0 : Hp} {S0 : DS} {fp0 : Rt → List Addr} {T : List Rt} (p : Post C AV F0 H0 σ S0 fp0 T S F H fp)
  (h : Wp C W AV F H σ fp (f S) fun y S2 T2 => ∀ F' H' fp' v fe, Post C AV F0 H0 σ S0 fp0 (T ++ T2) S2 F' H' fp' → VP C AV F0 H0 σ fp0 (T ++ T2) S2 F' H' fp' v y fe → Q v H') : LE C W f σ H Q :=
 ⟨AV, F, S, fp, p.st, wp_mono h fun b S1 T1 q F' H' fp' v fe p' v' => q F' H' fp' v fe (p.trans p') ⟨v'.val, v'.dj, v'.nd, fun a ha => by
  rcases v'.new a ha with z | z
  ·exact p.rg z
  ·exact .inr (p.evo.none_back z), v'.tr⟩⟩
theorem le_done {AV : List V} {F H : Hp} {σ : L2.St} {S : DS} {fp : Rt → List Addr} {d : PyData} {x : V} {Q : VK} {F0 H0 : Hp} {S0 : DS} {fp0 : Rt → List Addr} {T : List Rt} (p : Post C AV F0 H0 σ S0 fp0 T S F H fp) (hd : Fz F x d)
  (h : Wp C W AV F H σ fp (.ok (.sv (.fz d)) S []) fun y S2 T2 => ∀ F' H' fp' v fe, Post C AV F0 H0 σ S0 fp0 (T ++ T2) S2 F' H' fp' → VP C AV F0 H0 σ fp0 (T ++ T2) S2 F' H' fp' v y fe → Q v H') : Q x H :=
 h F H fp x [] (by simpa using p) (vp_fz hd)
theorem de_one {op : BoolOp} (ha : DE X EX W a fa) : DE X EX W (.BoolOp op [a] pos) fa := pe_one ha
theorem de_and (ha : DE X EX W a fa) (hb : DE X EX W (.BoolOp .And (b :: rest) pos) fb) : DE X EX W (.BoolOp .And (a :: b :: rest) pos) (eAnd fa fb) := by
 refine pe_of (pe_and ha hb) fun σ H Q ⟨AV, F, S, fp, st, q⟩ => ?_
 refine ⟨AV, F, S, fp, st, wp_mono (wp_bnd (S := S) q) fun ea S1 T1 q1 F1 H1 fp1 v fe p1 v1 => ?_⟩
 obtain ⟨b, e, q2⟩ := q1 F1 H1 fp1 v fe p1 v1
 refine ⟨b, e, ?_⟩
 cases b with
 | true => exact le_of p1 q2
 | false => exact le_done p1 (.bl false) q2
theorem de_not (ha : DE X EX W a fa) : DE X EX W (.UnaryOp .Not a pos) (eNot fa) := by
 refine pe_of (pe_not ha) fun σ H Q ⟨AV, F, S, fp, st, q⟩ => ?_
 refine ⟨AV, F, S, fp, st, wp_mono (wp_bnd (S := S) q) fun ea S1 T1 q1 F1 H1 fp1 v fe p1 v1 => ?_⟩
 obtain ⟨b, e, q2⟩ := q1 F1 H1 fp1 v fe p1 v1
 exact ⟨b, e, le_done p1 (.bl _) q2⟩
def eChain (g g' : SV → SV → Option SV) (fa fb fc : DS → Out EV) : DS → Out EV := fun S =>
 (fa S).bindT fun ea S1 _ => (fb S1).bindT fun eb S2 T2 =>
  match ea.stable T2, ea.tree S2, eb.tree S2 with
  | true, some t, some u => match g t u with
   | some (.fz (.bool true)) => (fc S2).bindT fun ec S3 T3 =>
    match eb.stable T3, eb.tree S3, ec.tree S3 with
    | true, some u', some w => match g' u' w with
     | some z => .ok (.sv z) S3 []
     | none => .fail
    | _, _, _ => .fail
   | some (.fz (.bool false)) => .ok (.sv (.fz (.bool false))) S2 []
   | _ => .fail
  | _, _, _ => .fail
theorem tChain_LE {g g' : SV → SV → Option SV} : ∀ σ H Q, LE C W (eChain g g' fa fb fc) σ H Q → tChain (rG C.K g) (rG C.K g') (LE C W fa) (LE C W fb) (LE C W fc) σ H Q := by
 intro σ H Q ⟨AV, F, S, fp, st, q⟩
 unfold eChain at q
 refine ⟨AV, F, S, fp, st, wp_mono (wp_bindT q) fun ea S1 T1 q1 F1 H1 fp1 v fe p1 v1 => ?_⟩
 have q1' := q1 F1 H1 fp1 p1.evA
 refine ⟨AV, F1, S1, fp1, p1.st, wp_mono (wp_bindT q1') fun eb S2 T2 q2 F2 H2 fp2 u fu p2 v2 => ?_⟩
 have q2' := q2 F2 H2 fp2 p2.evA
 cases e1 : ea.stable T2 with
 | false => rw [e1] at q2'; exact q2'.elim
 | true =>
  rw [e1] at q2'
  cases e2 : ea.tree S2 with
  | none => rw [e2] at q2'; exact q2'.elim
  | some t =>
   rw [e2] at q2'
   cases e3 : eb.tree S2 with
   | none => rw [e3] at q2'; exact q2'.elim
   | some t' =>
    rw [e3] at q2'
    dsimp only at q2'
    cases e4 : g t t' with
    | none => rw [e4] at q2'; exact q2'.elim
    | some z =>
     rw [e4] at q2'
     have w1 := EOk.later p1.st p2 v1.val v1.dj e1 v1.tr
     obtain ⟨fx, o1⟩ := EOk.tree p2.st w1 e2
     obtain ⟨fy, o2⟩ := EOk.tree p2.st v2.val e3
     refine ⟨F2, t, t', z, fx, fy, p2.st.fh, o1, o2, e4, fun F3 H3 x fz n => ?_⟩
     have p3 := n.post p2.st
     have pp := p1.trans (p2.trans p3)
     split at q2'
     ·rename_i hz
      cases hz
      refine ⟨true, fz_bl n.own, ?_⟩
      rw [if_pos rfl]
      have q3' := wp_evA p3.evA q2'
      refine ⟨AV, F3, S2, fp2, p3.st, wp_mono (wp_bindT q3') fun ec S3 T3 q4 F4 H4 fp4 w fw p4 v4 => ?_⟩
      have q4' := q4 F4 H4 fp4 p4.evA
      cases g1 : eb.stable T3 with
      | false => rw [g1] at q4'; exact q4'.elim
      | true =>
       rw [g1] at q4'
       cases g2 : eb.tree S3 with
       | none => rw [g2] at q4'; exact q4'.elim
       | some u' =>
        rw [g2] at q4'
        cases g3 : ec.tree S3 with
        | none => rw [g3] at q4'; exact q4'.elim
        | some w' =>
         rw [g3] at q4'
         dsimp only at q4'
         cases g4 : g' u' w' with
         | none => rw [g4] at q4'; exact q4'.elim
         | some z' =>
          rw [g4] at q4'
          have k1 := EOk.later p2.st p3 v2.val v2.dj (by unfold EV.stable; cases eb <;> simp) v2.tr
          have k2 := EOk.later p3.st p4 k1 v2.dj g1 v2.tr
          obtain ⟨fx', o1'⟩ := EOk.tree p4.st k2 g2
          obtain ⟨fy', o2'⟩ := EOk.tree p4.st v4.val g3
          refine ⟨F4, u', w', z', fx', fy', p4.st.fh, o1', o2', g4, fun F5 H5 x5 f5 n5 => ?_⟩
          have p5 := n5.post p4.st
          have v5 := n5.vp p4.st
          have p25 : Post C AV F1 H1 σ S1 fp1 (T2 ++ (T3 ++ [])) S3 F5 H5 fp4 := p2.trans (by simpa using p3.trans (p4.trans p5))
          refine q4' F5 H5 fp4 x5 f5 (p1.trans p25) ⟨v5.val, v5.dj, v5.nd, fun a ha => ?_, v5.tr⟩
          exact .inr (pp.evo.none_back (p4.evo.none_back (n5.new a ha)))
     ·rename_i hz
      cases hz
      refine ⟨false, fz_bl n.own, ?_⟩
      rw [if_neg Bool.false_ne_true]
      have h := q2' F3 H3 fp2 (.bl false) [] (by simpa using pp) (vp_fz (.bl false))
      exact h
     ·exact q2'.elim
theorem de_chain {op op' : CmpOp} {g g' : SV → SV → Option SV} (ho : OpR X (compareOp op) (rG X.K g)) (ho' : OpR X (compareOp op') (rG X.K g')) (ha : DE X EX W a fa) (hb : DE X EX W b fb) (hc : DE X EX W c fc)
  (hm : lastMarks [op, op'] [b, c] = false := by with_unfolding_all rfl) : DE X EX W (.Compare a [op, op'] [b, c] pos) (eChain g g' fa fb fc) := pe_of (pe_chain ho ho' ha hb hc hm) (tChain_LE (C := cnOf X EX))
theorem dt_chain {op op' : CmpOp} {g g' : SV → SV → Option SV} (ho : OpR X (compareOp op) (rG X.K g)) (ho' : OpR X (compareOp op') (rG X.K g')) (ha : DE X EX W a fa) (hb : DE X EX W b fb) (hc : DE X EX W c fc)
  (hm : lastMarks [op, op'] [b, c] = false := by with_unfolding_all rfl) : DT X EX W (.Compare a [op, op'] [b, c] pos) (tv (eChain g g' fa fb fc)) :=
 pt_of (pt_chain ho ho' ha hb hc hm) fun σ H Q q => by
  obtain ⟨AV, F, S, fp, st, r⟩ := tB_LT (C := cnOf X EX) σ H Q q
  exact tChain_LE (C := cnOf X EX) σ H _ ⟨AV, F, S, fp, st, r⟩
end
end Y
set_option maxRecDepth 100000
set_option maxHeartbeats 4000000
namespace Y
open PySem PySem.Spec L2
structure VPs (C : Cn) (AV : List V) (F H : Hp) (σ : L2.St) (fp : Rt → List Addr) (T : List Rt) (S' : DS) (F' H' : Hp) (fp' : Rt → List Addr) (vs : List V) (es : List EV) (fe : Nat → List Addr) : Prop where
 ln : vs.length = es.length
 val : ∀ (k : Nat) (e : EV), es[k]? = some e → ∃ v, vs[k]? = some v ∧ EOk C AV F' H' σ v e (fe k) ∧ (e.tree S').isSome = true
 off : ∀ k, es[k]? = none → fe k = []
 dj : ∀ r a k, a ∈ fp' r → a ∉ fe k
 dd : ∀ j k a, a ∈ fe j → a ∈ fe k → j = k
 nd : ∀ k, (fe k).Nodup
 new : ∀ k, ∀ a ∈ fe k, Rg T fp a ∨ H a = none
def LA (C : Cn) (W : WX) (f : DS → Out (List EV)) : TA := fun σ H Q => ∃ AV F S fp, StOk C AV F H σ S fp ∧
 Wp C W AV F H σ fp (f S) fun es S' T => ∀ F' H' fp' vs fe, Post C AV F H σ S fp T S' F' H' fp' → VPs C AV F H σ fp T S' F' H' fp' vs es fe → Q vs H'
abbrev DA (X : Cx) (EX : Hp → V → Str → Option PyData → Prop) (W : WX) (es : List Expr) (f : DS → Out (List EV)) : Prop := PA X es (LA (cnOf X EX) W f)
theorem pa_of {X : Cx} {es : List Expr} {t t' : TA} (h : PA X es t) (k : ∀ σ H Q, t' σ H Q → t σ H Q) : PA X es t' := ⟨fun pos pins s σ H Q I q => h.run pos pins s σ H Q I (k σ H Q q)⟩
def aNil : DS → Out (List EV) := fun S => .ok [] S []
def EV.alive (S : DS) (e : EV) : Bool := (e.tree S).isSome
def aCons (fa : DS → Out EV) (fr : DS → Out (List EV)) : DS → Out (List EV) := fun S =>
 (fa S).bindT fun ea S1 _ => (fr S1).bindT fun es S2 T2 => if ea.stable T2 = true ∧ ea.alive S2 = true then .ok (ea :: es) S2 [] else .fail
def consF (f : List Addr) (g : Nat → List Addr) : Nat → List Addr
 | 0 => f
 | k + 1 => g k
section
variable {X : Cx} {EX : Hp → V → Str → Option PyData → Prop} {W : WX} {e a b c : Expr} {es : List Expr} {pos : Pos} {fa fb fc : DS → Out EV} {fr : DS → Out (List EV)} {C : Cn}
theorem da_nil : DA X EX W [] aNil := by
 refine pa_of pa_nil fun σ H Q ⟨AV, F, S, fp, st, q⟩ => ?_
 exact q F H fp [] (fun _ => []) (.refl st) ⟨rfl, fun k e h => by simp at h, fun _ _ => rfl, fun _ _ _ _ h => (by cases h), fun _ _ _ h => (by cases h), fun _ => .nil, fun _ _ h => (by cases h)⟩
theorem VP.later {AV : List V} {F H F1 H1 F2 H2 : Hp} {σ : L2.St} {S S1 S2 : DS} {fp fp1 fp2 : Rt → List Addr} {T1 T2 : List Rt} {v : V} {e : EV} {fe : List Addr}
  (p1 : Post C AV F H σ S fp T1 S1 F1 H1 fp1) (v1 : VP C AV F H σ fp T1 S1 F1 H1 fp1 v e fe) (p2 : Post C AV F1 H1 σ S1 fp1 T2 S2 F2 H2 fp2) (st : e.stable T2 = true) (ht : (e.tree S2).isSome = true) : VP C AV F H σ fp (T1 ++ T2) S2 F2 H2 fp2 v e fe := by
 refine ⟨EOk.later p1.st p2 v1.val v1.dj st v1.tr, fun r x hx hf => ?_, v1.nd, fun x hx => ?_, ht⟩
 ·rcases p2.new r x hx with q | q | q
  ·obtain ⟨r', _, e'⟩ := q
   exact v1.dj r' x e' hf
  ·cases e with
   | sv t =>
    obtain ⟨_, o, m⟩ := own_fp t v fe v1.val x hf
    rw [m] at q; cases q
   | pk r p => rw [v1.val.1] at hf; cases hf
  ·rw [(p2.same r q).1] at hx
   exact v1.dj r x hx hf
 ·rcases v1.new x hx with q | q
  ·exact .inl (Rg.app.mpr (.inl q))
  ·exact .inr q
theorem da_cons (ha : DE X EX W a fa) (hr : DA X EX W es fr) (hs : starEach (a :: es) X.env = (false, eval a X.env) :: starEach es X.env := by rfl) :
  DA X EX W (a :: es) (aCons fa fr) := by
 refine pa_of (pa_cons ha hr hs) fun σ H Q ⟨AV, F, S, fp, st, q⟩ => ?_
 refine ⟨AV, F, S, fp, st, wp_mono (wp_bindT q) fun ea S1 T1 q1 F1 H1 fp1 v fe p1 v1 => ?_⟩
 have q1' := q1 F1 H1 fp1 p1.evA
 refine ⟨AV, F1, S1, fp1, p1.st, wp_mono (wp_bindT q1') fun es S2 T2 q2 F2 H2 fp2 vs fes p2 v2 => ?_⟩
 have q2' := q2 F2 H2 fp2 p2.evA
 split at q2'
 ·rename_i hst
  have pp := p1.trans p2
  have w := VP.later p1 v1 p2 hst.1 hst.2
  refine q2' F2 H2 fp2 (v :: vs) (consF fe fes) (by simpa using pp) ⟨by simp [v2.ln], fun k e h => ?_, fun k h => ?_, fun r x k hx => ?_, fun j k x h1 h2 => ?_, fun k => ?_, fun k x hx => ?_⟩
  ·cases k with
   | zero => simp at h; subst h; exact ⟨v, rfl, w.val, w.tr⟩
   | succ k => exact v2.val k e (by simpa using h)
  ·cases k with
   | zero => simp at h
   | succ k => exact v2.off k (by simpa using h)
  ·cases k with
   | zero => exact w.dj r x hx
   | succ k => exact v2.dj r x k hx
  ·have cross : ∀ m, x ∈ fe → x ∈ fes m → False := fun m g1 g2 => by
    rcases v2.new m x g2 with z | z
    ·obtain ⟨r', _, e'⟩ := z
     exact v1.dj r' x e' g1
    ·cases ea with
     | sv t =>
      obtain ⟨_, o, mm⟩ := own_fp t v fe v1.val x g1
      rw [mm] at z; cases z
     | pk r p => rw [v1.val.1] at g1; cases g1
   cases j with
   | zero =>
    cases k with
    | zero => rfl
    | succ k => exact (cross k h1 h2).elim
   | succ j =>
    cases k with
    | zero => exact (cross j h2 h1).elim
    | succ k => rw [v2.dd j k x h1 h2]
  ·cases k with
   | zero => exact v1.nd
   | succ k => exact v2.nd k
  ·cases k with
   | zero =>
    have := w.new x hx
    simpa using this
   | succ k =>
    rcases v2.new k x hx with z | z
    ·have := p1.rg z
     simpa using this
    ·exact .inr (p1.evo.none_back z)
 ·exact q2'.elim
inductive OwnA (K : PySem.W.Frag) (F H : Hp) : List SV → List V → Prop
 | nil : OwnA K F H [] []
 | cons {t : SV} {v : V} {ts : List SV} {vs : List V} {fp : List Addr} : Own K F H t v fp → OwnA K F H ts vs → OwnA K F H (t :: ts) (v :: vs)
def cG (K : PySem.W.Frag) (g : List SV → Option SV) : List V → Hp → VK → Prop := fun xs H Q => ∃ F ts z, (∀ a o, F a = some o → H a = some o) ∧ OwnA K F H ts xs ∧ g ts = some z ∧ ∀ F' H' v fe, NewV K F H F' H' v z fe → Q v H'
def trees (S : DS) : List EV → Option (List SV)
 | [] => some []
 | e :: es => match e.tree S, trees S es with
  | some t, some ts => some (t :: ts)
  | _, _ => none
def eCallB (g : List SV → Option SV) (fr : DS → Out (List EV)) : DS → Out EV := fun S =>
 (fr S).bindT fun es S1 _ => match trees S1 es with
  | some ts => match g ts with
   | some z => .ok (.sv z) S1 []
   | none => .fail
  | none => .fail
theorem ownA_of {AV : List V} {F H : Hp} {σ : L2.St} {S : DS} {fp : Rt → List Addr} (st : StOk C AV F H σ S fp) : ∀ {es : List EV} {vs : List V} {fe : Nat → List Addr} {ts : List SV}, vs.length = es.length →
  (∀ (k : Nat) (e : EV), es[k]? = some e → ∃ v, vs[k]? = some v ∧ EOk C AV F H σ v e (fe k) ∧ (e.tree S).isSome = true) → trees S es = some ts → OwnA C.K F H ts vs
 | [], [], fe, ts, _, _, e => by cases e; exact .nil
 | [], _ :: _, _, _, h, _, _ => by simp at h
 | _ :: _, [], _, _, h, _, _ => by simp at h
 | e :: es, v :: vs, fe, ts, hl, h, q => by
  unfold trees at q
  cases e1 : e.tree S with
  | none => rw [e1] at q; cases q
  | some t =>
   cases e2 : trees S es with
   | none => rw [e1, e2] at q; cases q
   | some ts' =>
    rw [e1, e2] at q
    cases q
    obtain ⟨v', h1, h2, _⟩ := h 0 e rfl
    simp at h1
    subst h1
    obtain ⟨f, o⟩ := EOk.tree st h2 e1
    exact .cons o (ownA_of st (fe := fun k => fe (k + 1)) (by simpa using hl) (fun k e' he' => by
     have := h (k + 1) e' (by simpa using he')
     simpa using this) e2)
theorem tCB_LE {g : List SV → Option SV} : ∀ σ H Q, LE C W (eCallB g fr) σ H Q → tCB (cG C.K g) (LA C W fr) σ H Q := by
 intro σ H Q ⟨AV, F, S, fp, st, q⟩
 unfold eCallB at q
 refine ⟨AV, F, S, fp, st, wp_mono (wp_bindT q) fun es S1 T1 q1 F1 H1 fp1 vs fe p1 v1 => ?_⟩
 have q1' := q1 F1 H1 fp1 p1.evA
 cases e1 : trees S1 es with
 | none => rw [e1] at q1'; exact q1'.elim
 | some ts =>
  rw [e1] at q1'
  dsimp only at q1'
  cases e4 : g ts with
  | none => rw [e4] at q1'; exact q1'.elim
  | some z =>
   rw [e4] at q1'
   refine ⟨F1, ts, z, p1.st.fh, ownA_of p1.st v1.ln v1.val e1, e4, fun F3 H3 x fz n => ?_⟩
   have p3 := n.post p1.st
   have v3 := n.vp p1.st
   exact q1' F3 H3 fp1 x fz (p1.trans p3) ⟨v3.val, v3.dj, v3.nd, fun a ha => .inr (p1.evo.none_back (n.new a ha)), v3.tr⟩
theorem de_callB {x : Str} {p : Pos} {id : String} {g : List SV → Option SV} (hc : CallR X (.builtin id) (cG X.K g)) (hg : Gl X x) (hm : X.mg x = none) (hv : bootBuiltins x = some (.builtin id)) (ha : DA X EX W (e :: es) fr) (hn : x ≠ "__name__" := by decide) (hdb : (x == ("__debug__" : Str)) = false := by decide)
  (he : starEach (e :: es) X.env = (false, eval e X.env) :: starEach es X.env := by rfl) (hpl : (backTo pos (starEach es X.env)).any (·.1) = false := by rfl) : DE X EX W (.Call (.Name x p) (e :: es) [] pos) (eCallB g fr) :=
 pe_of (pe_callB hc hg hm hv ha hn hdb he hpl) (tCB_LE (C := cnOf X EX))
theorem de_callTy {x : Str} {p : Pos} {id : String} {g : List SV → Option SV} (hc : CallR X (.type id) (cG X.K g)) (hg : Gl X x) (hm : X.mg x = none) (hv : bootBuiltins x = some (.type id)) (ha : DA X EX W (e :: es) fr) (hn : x ≠ "__name__" := by decide) (hdb : (x == ("__debug__" : Str)) = false := by decide)
  (he : starEach (e :: es) X.env = (false, eval e X.env) :: starEach es X.env := by rfl) (hpl : (backTo pos (starEach es X.env)).any (·.1) = false := by rfl) : DE X EX W (.Call (.Name x p) (e :: es) [] pos) (eCallB g fr) :=
 pe_of (pe_callTy hc hg hm hv ha hn hdb he hpl) (tCB_LE (C := cnOf X EX))
end
end Y
set_option maxRecDepth 100000
set_option maxHeartbeats 4000000
namespace Y
open PySem PySem.Spec L2
section
variable {X : Cx} {EX : Hp → V → Str → Option PyData → Prop} {W : WX} {e a b c : Expr} {es : List Expr} {pos : Pos} {fa fb fc : DS → Out EV} {fr : DS → Out (List EV)} {C : Cn}
def isScal : PyData → Bool
 | .int _ => true
 | .str _ => true
 | .bool _ => true
 | .none => true
 | _ => false
def gIx (t u : SV) : Option (SV ⊕ Nat) :=
 match t, u with
 | .fz (.list ds), .fz (.int i) => match atI ds i with
  | some d => some (.inl (.fz d))
  | none => none
 | .fz (.tuple ds), .fz (.int i) => match atI ds i with
  | some d => some (.inl (.fz d))
  | none => none
 | .ro (.list ds), .fz (.int i) => match atI ds i with
  | some d => if isScal d = true then some (.inl (.fz d)) else none
  | none => none
 | .ro (.tuple ds), .fz (.int i) => match atI ds i with
  | some d => if isScal d = true then some (.inl (.fz d)) else none
  | none => none
 | .fz (.str x), .fz (.int i) => if x.length ≤ sizeLine then (match atI x.cps.toList i with
  | some c => some (.inl (.fz (.str ⟨#[c]⟩)))
  | none => none) else none
 | .lst xs, .fz (.int i) => match ixN xs.length i with
  | some k => match xs[k]? with
   | some (.fz d) => some (.inl (.fz d))
   | some (.fd b m) => some (.inl (.fd b m))
   | some _ => some (.inr k)
   | none => none
  | none => none
 | .fd b kvs, u => match toKey b u with
  | some k => match dlook (fzD kvs) k with
   | some (.fz d) => some (.inl (.fz d))
   | _ => none
  | none => none
 | .dic b kvs, u => match toKey b u with
  | some k => match dlook kvs k with
   | some (.fz d) => some (.inl (.fz d))
   | _ => none
  | none => none
 | _, _ => none
def eIx (fa fb : DS → Out EV) : DS → Out EV := fun S =>
 (fa S).bindT fun ea S1 _ => (fb S1).bindT fun eb S2 T2 =>
  match ea.stable T2, ea.tree S2, eb.tree S2 with
  | true, some t, some u => match gIx t u with
   | some (.inl z) => .ok (.sv z) S2 []
   | some (.inr k) => match ea with
    | .pk r p => .ok (.pk r (p ++ [k])) S2 []
    | .sv _ => .fail
   | none => .fail
  | _, _, _ => .fail
theorem dp_scal {K : PySem.W.Frag} {H F : Hp} {v : V} {d : PyData} (h : Dp K H v d) (s : isScal d = true) : Fz F v d := by
 cases h with
 | non => exact .non
 | bl b => exact .bl b
 | int i => exact .int i
 | str x => exact .str x
 | lst _ _ => cases s
 | tup _ _ => cases s
theorem dpAll_at {K : PySem.W.Frag} {H : Hp} : ∀ {ds : List PyData} {vs : List V} {i : Nat} {d : PyData}, DpAll K H vs ds → ds[i]? = some d → ∃ v, vs[i]? = some v ∧ Dp K H v d
 | [], _, _, _, _, e => by simp at e
 | d :: ds, _, 0, d', h, e => by cases h with | cons h1 h2 => simp at e; subst e; exact ⟨_, rfl, h1⟩
 | d :: ds, _, i + 1, d', h, e => by
  cases h with
  | cons h1 h2 =>
   obtain ⟨w, a, b⟩ := dpAll_at (i := i) h2 (by simpa using e)
   exact ⟨w, by simpa using a, b⟩
theorem dpAll_len {K : PySem.W.Frag} {H : Hp} : ∀ {ds : List PyData} {vs : List V}, DpAll K H vs ds → vs.length = ds.length
 | [], _, h => by cases h; rfl
 | d :: ds, _, h => by cases h with | cons h1 h2 => simp [dpAll_len h2]
theorem atI_at {α β : Type} {xs : List α} {ys : List β} {i : Int} {x : α} (hl : ys.length = xs.length) (e : atI xs i = some x) : ∃ k, ixN xs.length i = some k ∧ xs[k]? = some x ∧ ∀ y, ys[k]? = some y → atI ys i = some y := by
 unfold atI at e
 cases e1 : ixN xs.length i with
 | none => rw [e1] at e; cases e
 | some k =>
  rw [e1] at e
  refine ⟨k, rfl, e, fun y hy => ?_⟩
  unfold atI
  rw [hl, e1]
  exact hy
theorem fzAll_atI {F : Hp} {ds : List PyData} {vs : List V} {i : Int} {d : PyData} (h : FzAll F vs ds) (e : atI ds i = some d) : ∃ v, atI vs i = some v ∧ Fz F v d := by
 obtain ⟨k, _, e2, e3⟩ := atI_at (fzAll_len h) e
 obtain ⟨v, e4, f⟩ := fzAll_at h e2
 exact ⟨v, e3 v e4, f⟩
theorem dpAll_atI {K : PySem.W.Frag} {F : Hp} {ds : List PyData} {vs : List V} {i : Int} {d : PyData} (h : DpAll K F vs ds) (e : atI ds i = some d) : ∃ v, atI vs i = some v ∧ Dp K F v d := by
 obtain ⟨k, _, e2, e3⟩ := atI_at (dpAll_len h) e
 obtain ⟨v, e4, f⟩ := dpAll_at h e2
 exact ⟨v, e3 v e4, f⟩
def rIxD : R2 := fun x y H Q => ∃ a v, x = .ref a ∧ DGet H a y (some v) ∧ Q v H
theorem ix_dict (hu : X.A.units + 1 < cLine) : IxR X rIxD := by
 intro value slice pins s σ H x y v u Q I rx ry h hs
 obtain ⟨a, z, rfl, g, q⟩ := h
 cases rx
 have hT := dict_typeIs I g
 have h₂ : wpAny (model X.prog X.w) X.A (getItem (.ref a) u) (EP X pins σ Q) X.xe s := d_getItem hu I g ry fun w' s3 I3 rw' => ⟨z, H, I3, rw', q⟩
 unfold PyProof.Rows.subscriptTail
 refine wpAny_bind ?_
 rw [getitemInPython_of_ne hT.not_modules]
 refine wpAny_bind (wpAny_specialOf hT PySem.F.slot_dict_getitem.lookup ?_)
 have fin : wpAny (model X.prog X.w) X.A (subscripted slice false (.ref a) u) (fun r s₃ => wpAny (model X.prog X.w) X.A (letTemporaryGo value (.ref a) r >>= fun _ => pure r) (EP X pins σ Q) X.xe s₃) X.xe s := by
  rw [hs]
  exact wpAny_operating (wpAny_mono h₂ (fun r s₃ h₃ => wpAny_bind (wpAny_letTemporaryGo (wpAny_pure h₃))) fun _ _ x => x)
 first
  | exact wpAny_pure (wpAny_bind fin)
  | exact wpAny_bind (wpAny_pure (wpAny_bind fin))
  | exact wpAny_bind fin
def rIxAll (K : PySem.W.Frag) : R2 := fun x y H Q => rIx K x y H Q ∨ rIxD x y H Q
theorem gIx_val {K : PySem.W.Frag} {F H : Hp} (fh : ∀ a o, F a = some o → H a = some o) {t u : SV} {x y : V} {fx fy : List Addr} (ox : Own K F H t x fx) (oy : Own K F H u y fy) {z : SV ⊕ Nat} (e : gIx t u = some z) :
  ∃ v, (∀ Q : VK, Q v H → rIxAll K x y H Q) ∧ ((∃ t, z = .inl t ∧ Own K F H t v []) ∨ ∃ k xs t', z = .inr k ∧ t = .lst xs ∧ xs[k]? = some t' ∧ ∃ a vs, x = .ref a ∧ H a = some (.lst vs) ∧ vs[k]? = some v) := by
 unfold gIx at e
 split at e
 ·rename_i ds i
  cases e1 : atI ds i with
  | none => rw [e1] at e; cases e
  | some d =>
   rw [e1] at e
   cases e
   have h := own_fz ox
   cases h with
   | lst g1 g2 =>
    obtain ⟨v, e2, f⟩ := fzAll_atI g2 e1
    exact ⟨v, fun Q q => .inl (.inl ⟨_, _, i, v, rfl, fz_int oy, SqL.of (fh _ _ g1), e2, q⟩), .inl ⟨.fz d, rfl, by unfold Own; exact ⟨f, rfl⟩⟩⟩
 ·rename_i ds i
  cases e1 : atI ds i with
  | none => rw [e1] at e; cases e
  | some d =>
   rw [e1] at e
   cases e
   have h := own_fz ox
   cases h with
   | tup g1 g2 =>
    obtain ⟨v, e2, f⟩ := fzAll_atI g2 e1
    exact ⟨v, fun Q q => .inl (.inr (.inl ⟨_, _, i, v, rfl, fz_int oy, g1.sq fh, e2, q⟩)), .inl ⟨.fz d, rfl, by unfold Own; exact ⟨f, rfl⟩⟩⟩
 ·rename_i ds i
  cases e1 : atI ds i with
  | none => rw [e1] at e; cases e
  | some d =>
   rw [e1] at e
   dsimp only at e
   split at e
   ·rename_i hs
    cases e
    unfold Own at ox
    have h := dp_mono fh _ _ ox.1
    cases h with
    | lst g1 g2 =>
     obtain ⟨v, e2, f⟩ := dpAll_atI g2 e1
     exact ⟨v, fun Q q => .inl (.inl ⟨_, _, i, v, rfl, fz_int oy, g1, e2, q⟩), .inl ⟨.fz d, rfl, by unfold Own; exact ⟨dp_scal f hs, rfl⟩⟩⟩
   ·cases e
 ·rename_i ds i
  cases e1 : atI ds i with
  | none => rw [e1] at e; cases e
  | some d =>
   rw [e1] at e
   dsimp only at e
   split at e
   ·rename_i hs
    cases e
    unfold Own at ox
    have h := dp_mono fh _ _ ox.1
    cases h with
    | tup g1 g2 =>
     obtain ⟨v, e2, f⟩ := dpAll_atI g2 e1
     exact ⟨v, fun Q q => .inl (.inr (.inl ⟨_, _, i, v, rfl, fz_int oy, g1, e2, q⟩)), .inl ⟨.fz d, rfl, by unfold Own; exact ⟨dp_scal f hs, rfl⟩⟩⟩
   ·cases e
 ·rename_i z' i
  split at e
  ·rename_i hz
   cases e1 : atI z'.cps.toList i with
   | none => rw [e1] at e; cases e
   | some c =>
    rw [e1] at e
    cases e
    exact ⟨.str ⟨#[c]⟩, fun Q q => .inl (.inr (.inr ⟨z', i, c, fz_str ox, fz_int oy, hz, e1, q⟩)), .inl ⟨.fz _, rfl, by unfold Own; exact ⟨.str _, rfl⟩⟩⟩
  ·cases e
 ·rename_i xs i
  cases e1 : ixN xs.length i with
  | none => rw [e1] at e; cases e
  | some k =>
   rw [e1] at e
   dsimp only at e
   have ox' := ox
   unfold Own at ox'
   obtain ⟨a, vs, fq, r1, r2, r3, r4, r5⟩ := ox'
   cases e2 : xs[k]? with
   | none => rw [e2] at e; cases e
   | some t' =>
    obtain ⟨v, f1, f, f2, b1, b2, b3, b4⟩ := ownL_at r5 e2
    have ea : atI vs i = some v := by
     unfold atI
     rw [← ownL_len r5, e1]
     exact b1
    refine ⟨v, fun Q q => .inl (.inl ⟨a, vs, i, v, r1, fz_int oy, SqL.of r3, ea, q⟩), ?_⟩
    rw [e2] at e
    cases t' with
    | fz d => cases e; exact .inl ⟨.fz d, rfl, by unfold Own; exact ⟨own_fz b3, rfl⟩⟩
    | fd b m => cases e; exact .inl ⟨.fd b m, rfl, by unfold Own at b3 ⊢; exact ⟨rfl, b3.2⟩⟩
    | ro d => cases e; exact .inr ⟨k, xs, _, rfl, rfl, e2, a, vs, r1, r3, b1⟩
    | lst l => cases e; exact .inr ⟨k, xs, _, rfl, rfl, e2, a, vs, r1, r3, b1⟩
    | dic q l => cases e; exact .inr ⟨k, xs, _, rfl, rfl, e2, a, vs, r1, r3, b1⟩
    | tb _ _ => cases e; exact .inr ⟨k, xs, _, rfl, rfl, e2, a, vs, r1, r3, b1⟩
    | gone => cases e; exact .inr ⟨k, xs, _, rfl, rfl, e2, a, vs, r1, r3, b1⟩
    | nd _ => cases e; exact .inr ⟨k, xs, _, rfl, rfl, e2, a, vs, r1, r3, b1⟩
    | ob _ _ _ => cases e; exact .inr ⟨k, xs, _, rfl, rfl, e2, a, vs, r1, r3, b1⟩
    | nq _ => cases e; exact .inr ⟨k, xs, _, rfl, rfl, e2, a, vs, r1, r3, b1⟩
    | ne _ => cases e; exact .inr ⟨k, xs, _, rfl, rfl, e2, a, vs, r1, r3, b1⟩
 ·rename_i b kvs
  cases e1 : toKey b u with
  | none => rw [e1] at e; cases e
  | some k =>
   rw [e1] at e
   dsimp only at e
   obtain ⟨a, rfl, g⟩ := own_dget' fh ox rfl oy e1
   rcases g with ⟨g1, g2⟩ | ⟨x', w', f', g1, g2, g3, _⟩
   ·rw [g1] at e; cases e
   ·rw [g1] at e
    cases x' with
    | fz d =>
     cases e
     exact ⟨w', fun Q q => .inr ⟨a, w', rfl, g2, q⟩, .inl ⟨.fz d, rfl, by unfold Own; exact ⟨own_fz g3, rfl⟩⟩⟩
    | ro d => cases e
    | lst l => cases e
    | dic q l => cases e
    | fd q l => cases e
    | tb _ _ => cases e
    | gone => cases e
    | nd _ => cases e
    | ob _ _ _ => cases e
    | nq _ => cases e
    | ne _ => cases e
 ·rename_i b kvs
  cases e1 : toKey b u with
  | none => rw [e1] at e; cases e
  | some k =>
   rw [e1] at e
   dsimp only at e
   obtain ⟨a, rfl, g⟩ := own_dget fh ox oy e1
   rcases g with ⟨g1, g2⟩ | ⟨x', w', f', g1, g2, g3, _⟩
   ·rw [g1] at e; cases e
   ·rw [g1] at e
    cases x' with
    | fz d =>
     cases e
     exact ⟨w', fun Q q => .inr ⟨a, w', rfl, g2, q⟩, .inl ⟨.fz d, rfl, by unfold Own; exact ⟨own_fz g3, rfl⟩⟩⟩
    | ro d => cases e
    | lst l => cases e
    | dic q l => cases e
    | fd q l => cases e
    | tb _ _ => cases e
    | gone => cases e
    | nd _ => cases e
    | ob _ _ _ => cases e
    | nq _ => cases e
    | ne _ => cases e
 ·cases e
theorem walk_snoc {H : Hp} {k : Nat} : ∀ {p : List Nat} {v u w : V} {a : Addr} {vs : List V}, Walk H v p u → u = .ref a → H a = some (.lst vs) → vs[k]? = some w → Walk H v (p ++ [k]) w
 | [], v, u, w, a, vs, h, e, h1, h2 => by
  have h' : u = v := h
  subst h'
  exact ⟨a, vs, w, e, h1, h2, rfl⟩
 | j :: p, v, u, w, a, vs, ⟨a', vs', w', e', g1, g2, g3⟩, e, h1, h2 => ⟨a', vs', w', e', g1, g2, walk_snoc g3 e h1 h2⟩
theorem sub_snoc {k : Nat} {xs : List SV} {t' : SV} (e2 : xs[k]? = some t') : ∀ {p : List Nat} {t : SV}, t.sub p = some (.lst xs) → t.sub (p ++ [k]) = some t'
 | [], t, h => by
  have : t = .lst xs := by unfold SV.sub at h; cases t <;> simpa using h
  subst this
  show SV.sub (.lst xs) [k] = _
  unfold SV.sub
  rw [e2]
  show t'.sub [] = some t'
  unfold SV.sub
  cases t' <;> rfl
 | j :: p, t, h => by
  cases t with
  | fz d => unfold SV.sub at h; cases h
  | ro d => unfold SV.sub at h; cases h
  | dic b kvs => unfold SV.sub at h; cases h
  | fd b kvs => unfold SV.sub at h; cases h
  | tb _ _ => unfold SV.sub at h; cases h
  | gone => unfold SV.sub at h; cases h
  | nd _ => unfold SV.sub at h; cases h
  | ob _ _ _ => unfold SV.sub at h; cases h
  | nq _ => unfold SV.sub at h; cases h
  | ne _ => unfold SV.sub at h; cases h
  | lst ys =>
   unfold SV.sub at h
   show SV.sub (.lst ys) (j :: (p ++ [k])) = _
   unfold SV.sub
   cases e1 : ys[j]? with
   | none => rw [e1] at h; cases h
   | some y => rw [e1] at h; exact sub_snoc e2 (show y.sub p = _ from h)
theorem tIx_LE : ∀ σ H Q, LE C W (eIx fa fb) σ H Q → tOp (rIxAll C.K) (LE C W fa) (LE C W fb) σ H Q := by
 intro σ H Q ⟨AV, F, S, fp, st, q⟩
 unfold eIx at q
 refine ⟨AV, F, S, fp, st, wp_mono (wp_bindT q) fun ea S1 T1 q1 F1 H1 fp1 v fe p1 v1 => ?_⟩
 have q1' := q1 F1 H1 fp1 p1.evA
 refine ⟨AV, F1, S1, fp1, p1.st, wp_mono (wp_bindT q1') fun eb S2 T2 q2 F2 H2 fp2 u fu p2 v2 => ?_⟩
 have q2' := q2 F2 H2 fp2 p2.evA
 cases e1 : ea.stable T2 with
 | false => rw [e1] at q2'; exact q2'.elim
 | true =>
  rw [e1] at q2'
  cases e2 : ea.tree S2 with
  | none => rw [e2] at q2'; exact q2'.elim
  | some t =>
   rw [e2] at q2'
   cases e3 : eb.tree S2 with
   | none => rw [e3] at q2'; exact q2'.elim
   | some t' =>
    rw [e3] at q2'
    dsimp only at q2'
    cases e4 : gIx t t' with
    | none => rw [e4] at q2'; exact q2'.elim
    | some z =>
     rw [e4] at q2'
     have w1 := EOk.later p1.st p2 v1.val v1.dj e1 v1.tr
     obtain ⟨fx, o1⟩ := EOk.tree p2.st w1 e2
     obtain ⟨fy, o2⟩ := EOk.tree p2.st v2.val e3
     obtain ⟨w, k1, k2⟩ := gIx_val p2.st.fh o1 o2 e4
     refine k1 _ ?_
     have pp := p1.trans (p2.trans (.refl p2.st))
     rcases k2 with ⟨z1, rfl, f⟩ | ⟨k, xs, t1, rfl, rfl, e5, a, vs, g1, g2, g3⟩
     ·exact q2' F2 H2 fp2 w [] pp ⟨f, fun _ _ _ h => (by cases h), .nil, fun _ h => (by cases h), rfl⟩
     ·cases ea with
      | sv t0 => exact q2'.elim
      | pk r p =>
       obtain ⟨z0, v0, z1, z2⟩ := w1
       dsimp only [EV.tree] at e2
       cases e6 : S2.get r with
       | none => rw [e6] at e2; cases e2
       | some t0 =>
        rw [e6] at e2
        refine q2' F2 H2 fp2 w [] pp ⟨⟨rfl, v0, z1, walk_snoc z2 g1 g2 g3⟩, fun _ _ _ h => (by cases h), .nil, fun _ h => (by cases h), ?_⟩
        dsimp only [EV.tree]
        rw [e6]
        show (t0.sub (p ++ [k])).isSome = true
        rw [sub_snoc e5 (show t0.sub p = some (.lst xs) from e2)]
        rfl
theorem ix_all (hu : X.A.units + 1 < cLine) : IxR X (rIxAll X.K) := IxR.or ix_seq (ix_dict hu)
theorem de_ix (hu : X.A.units + 1 < cLine) (ha : DE X EX W a fa) (hb : DE X EX W b fb) (hs : PlainIx b := by exact fun _ _ => rfl) : DE X EX W (.Subscript a b pos) (eIx fa fb) :=
 pe_of (pe_ix (ix_all hu) ha hb hs) (tIx_LE (C := cnOf X EX))
end
end Y
set_option maxRecDepth 100000
set_option maxHeartbeats 4000000
namespace Y
open PySem PySem.Spec L2
def updF (fp : Rt → List Addr) (r : Rt) (f : List Addr) : Rt → List Addr := fun r' => if r' = r then f else fp r'
theorem updF_same {fp : Rt → List Addr} {r : Rt} {f : List Addr} : updF fp r f r = f := by unfold updF; rw [if_pos rfl]
theorem updF_ne {fp : Rt → List Addr} {r r' : Rt} {f : List Addr} (h : r' ≠ r) : updF fp r f r' = fp r' := by unfold updF; rw [if_neg h]
section
variable {C : Cn} {AV : List V} {F F1 F2 F' H H1 H2 H' : Hp} {σ : L2.St} {S S1 S2 : DS} {fp fp1 fp2 : Rt → List Addr} {T T1 T2 : List Rt} {r r' : Rt} {t t' : SV} {v0 : V} {fr' : List Addr}
theorem get_inv (e : S.get (.s i) = some t) : S.sl[i]? = some (some (.tr t)) := by
 dsimp only [DS.get] at e
 cases e1 : S.sl[i]? with
 | none => rw [e1] at e; cases e
 | some x =>
  rw [e1] at e
  cases x with
  | none => cases e
  | some x =>
   cases x with
   | tr t' => cases e; rfl
   | ar j => cases e
   | ex c d => cases e
   | ls js => cases e
theorem put_get (e : S.get r = some t) : (S.put r t').get r = some t' := by
 cases r with
 | s i =>
  have h := get_inv e
  obtain ⟨hl, _⟩ := List.getElem?_eq_some_iff.mp h
  dsimp only [DS.put, DS.get]
  rw [List.getElem?_set_self hl]
 | a j =>
  have h : S.ar[j]? = some t := e
  obtain ⟨hl, _⟩ := List.getElem?_eq_some_iff.mp h
  dsimp only [DS.put, DS.get]
  rw [List.getElem?_set_self hl]
theorem put_get_ne (h : r' ≠ r) : (S.put r t').get r' = S.get r' := by
 cases r with
 | s i =>
  cases r' with
  | s j =>
   have : i ≠ j := fun z => h (by rw [z])
   dsimp only [DS.put, DS.get]
   rw [List.getElem?_set_ne this]
  | a j => rfl
 | a i =>
  cases r' with
  | s j => rfl
  | a j =>
   have : i ≠ j := fun z => h (by rw [z])
   dsimp only [DS.put, DS.get]
   rw [List.getElem?_set_ne this]
theorem StOk.upd (h : StOk C AV F H σ S fp) (e : S.get r = some t) (hv : rootV σ AV r = some v0) (fsub : ∀ a o, F a = some o → F' a = some o) (fh' : ∀ a o, F' a = some o → H' a = some o)
  (kp : ∀ r' a, r' ≠ r → a ∈ fp r' → H' a = H a ∧ F' a = none) (o : Own C.K F' H' t' v0 fr') (nd : fr'.Nodup) (dj : ∀ r' a, r' ≠ r → a ∈ fp r' → a ∉ fr') : StOk C AV F' H' σ (S.put r t') (updF fp r fr') := by
 refine ⟨fh', fun i x hx => ?_, fun j t1 hj => ?_, fun r1 r2 a h1 h2 => ?_, fun r1 => ?_, fun r1 a ha => ?_, fun r1 a xs ha z => ?_, ?_, ?_⟩
 ·by_cases hr : Rt.s i = r
  ·subst hr
   have h1 := get_inv e
   obtain ⟨hl, _⟩ := List.getElem?_eq_some_iff.mp h1
   dsimp only [DS.put] at hx
   rw [List.getElem?_set_self hl] at hx
   cases hx
   refine ⟨v0, ?_, by rw [updF_same]; exact o⟩
   dsimp only [rootV] at hv
   cases q : σ[i]? with
   | none => rw [q] at hv; cases hv
   | some w =>
    rw [q] at hv
    cases w with
    | none => cases hv
    | some w => cases hv; rfl
  ·have hx' : S.sl[i]? = some (some x) := by
    cases r with
    | s j =>
     have : j ≠ i := fun z => hr (by rw [z])
     dsimp only [DS.put] at hx
     rw [List.getElem?_set_ne this] at hx
     exact hx
    | a j => exact hx
   obtain ⟨v, q1, q2⟩ := h.sl i x hx'
   refine ⟨v, q1, ?_⟩
   rw [updF_ne hr]
   cases x with
   | tr t1 => exact own_keep fsub t1 v _ q2 fun a ha => kp _ a hr ha
   | ar j => exact q2
   | ex c d => exact slEx_mono fsub q2
   | ls js => exact slLs_mono fsub q2
 ·by_cases hr : Rt.a j = r
  ·subst hr
   have h1 : S.ar[j]? = some t := e
   obtain ⟨hl, _⟩ := List.getElem?_eq_some_iff.mp h1
   dsimp only [DS.put] at hj
   rw [List.getElem?_set_self hl] at hj
   cases hj
   exact ⟨v0, hv, by rw [updF_same]; exact o⟩
  ·have hj' : S.ar[j]? = some t1 := by
    cases r with
    | s i => exact hj
    | a i =>
     have : i ≠ j := fun z => hr (by rw [z])
     dsimp only [DS.put] at hj
     rw [List.getElem?_set_ne this] at hj
     exact hj
   obtain ⟨v, q1, q2⟩ := h.ar j t1 hj'
   exact ⟨v, q1, by rw [updF_ne hr]; exact own_keep fsub t1 v _ q2 fun a ha => kp _ a hr ha⟩
 ·by_cases z1 : r1 = r
  ·by_cases z2 : r2 = r
   ·rw [z1, z2]
   ·rw [z1, updF_same] at h1
    rw [updF_ne z2] at h2
    exact absurd h1 (dj r2 a z2 h2)
  ·by_cases z2 : r2 = r
   ·rw [z2, updF_same] at h2
    rw [updF_ne z1] at h1
    exact absurd h2 (dj r1 a z1 h1)
   ·rw [updF_ne z1] at h1
    rw [updF_ne z2] at h2
    exact h.dj r1 r2 a h1 h2
 ·by_cases z1 : r1 = r
  ·rw [z1, updF_same]; exact nd
  ·rw [updF_ne z1]; exact h.nd r1
 ·by_cases z1 : r1 = r
  ·rw [z1, updF_same] at ha
   exact own_fp t' v0 fr' o a ha
  ·rw [updF_ne z1] at ha
   obtain ⟨m1, ob, m2⟩ := h.mm r1 a ha
   obtain ⟨k1, k2⟩ := kp r1 a z1 ha
   exact ⟨k2, ob, k1.trans m2⟩
 ·by_cases z1 : r1 = r
  ·rw [z1, updF_same] at ha
   exact own_nt t' v0 fr' o a ha xs z
  ·rw [updF_ne z1] at ha
   exact h.mt r1 a xs ha ((kp r1 a z1 ha).1 ▸ z)
 ·cases r with
  | s i => simpa [DS.put] using h.ln
  | a i => exact h.ln
 ·cases r with
  | s i => exact h.la
  | a i => simpa [DS.put] using h.la
theorem StOk.freeze (h : StOk C AV F H σ S fp) {p : List Nat} {u : SV} {d : PyData} {v : V} (e : S.get r = some t) (hs : t.sub p = some u) (hd : u.frz = some d) (hv : rootV σ AV r = some v0) (hw : Walk H v0 p v) :
  ∃ F' fp', Post C AV F H σ S fp [r] (S.put r (t.setAt p (.fz d))) F' H fp' ∧ Fz F' v d := by
 obtain ⟨v1, hv1, o⟩ := h.root e
 rw [hv] at hv1
 cases hv1
 obtain ⟨w, fu, c1, c2, c3, c4, c5⟩ := own_sub p o (h.nd r) hs
 have hwv := walk_fun hw c1
 subst hwv
 have k1 : ∀ a o, F a = some o → joinF F H fu a = some o := joinF_sub h.fh
 have fd : Fz (joinF F H fu) v d := frz_ok k1 u v fu d c2 hd fun a ha o e => by rw [joinF_in ha]; exact e
 have out : ∀ a, a ∉ fu → F a = none → joinF F H fu a = none := fun a ha hn => by rw [joinF_out ha]; exact hn
 obtain ⟨fr, d1, d2, d3⟩ := c5 (joinF F H fu) H (.fz d) [] k1 (fun a ha hn => ⟨rfl, out a hn (h.mm r a ha).1⟩) (own_of_fz fd) .nil (fun _ h => by cases h)
 have other : ∀ r' a, r' ≠ r → a ∈ fp r' → a ∉ fu := fun r' a hr ha hf => hr (h.dj r' r a ha (c4 a hf))
 have st := h.upd (F' := joinF F H fu) (H' := H) e hv k1 (joinF_held h.fh) (fun r' a hr ha => ⟨rfl, out a (other r' a hr ha) (h.mm r' a ha).1⟩) d1 d2 fun r' a hr ha hf => by
  rcases d3 a hf with ⟨z, _⟩ | z
  ·exact hr (h.dj r' r a ha z)
  ·cases z
 refine ⟨joinF F H fu, updF fp r fr, ⟨st, ⟨k1, fun _ _ e _ => e, fun a o e e' => ?_, fun _ o e => ⟨o, e⟩⟩, fun r' hr => ?_, fun r' a ha => ?_⟩, fd⟩
 ·by_cases z : a ∈ fu
  ·exact .inl ⟨r, by simp, c4 a z⟩
  ·rw [joinF_out z] at e; rw [e] at e'; cases e'
 ·have hr' : r' ≠ r := fun z => hr (by simp [z])
  exact ⟨updF_ne hr', put_get_ne hr'⟩
 ·by_cases z : r' = r
  ·subst z
   rw [updF_same] at ha
   rcases d3 a ha with ⟨z, _⟩ | z
   ·exact .inl ⟨r', by simp, z⟩
   ·cases z
  ·exact .inr (.inr (by simp [z]))
end
section
variable {X : Cx} {EX : Hp → V → Str → Option PyData → Prop} {W : WX} {e a b c : Expr} {es : List Expr} {pos : Pos} {fa fb fc : DS → Out EV} {fr : DS → Out (List EV)} {C : Cn}
def eFz (fa : DS → Out EV) : DS → Out EV := fun S =>
 (fa S).bindT fun e S1 _ => match e with
  | .sv t => match t.frz with
   | some d => .ok (.sv (.fz d)) S1 []
   | none => .fail
  | .pk r p => match S1.get r with
   | some t => match t.sub p with
    | some u => match u.frz with
     | some d => .ok (.sv (.fz d)) (S1.put r (t.setAt p (.fz d))) [r]
     | none => .fail
    | none => .fail
   | none => .fail
theorem vp_freeze {AV : List V} {F F1 H H1 : Hp} {σ : L2.St} {S S1 : DS} {fp fp1 : Rt → List Addr} {T : List Rt} {v : V} {t : SV} {fe : List Addr} {d : PyData}
  (p : Post C AV F H σ S fp T S1 F1 H1 fp1) (w : VP C AV F H σ fp T S1 F1 H1 fp1 v (.sv t) fe) (hd : t.frz = some d) : ∃ F2, Post C AV F H σ S fp T S1 F2 H1 fp1 ∧ Fz F2 v d := by
 have o : Own C.K F1 H1 t v fe := w.val
 have k1 : ∀ a o, F1 a = some o → joinF F1 H1 fe a = some o := joinF_sub p.st.fh
 have fd : Fz (joinF F1 H1 fe) v d := frz_ok k1 t v fe d o hd fun a ha o e => by rw [joinF_in ha]; exact e
 have kp : ∀ r a, a ∈ fp1 r → H1 a = H1 a ∧ joinF F1 H1 fe a = none := fun r a ha => ⟨rfl, by rw [joinF_out (w.dj r a ha)]; exact (p.st.mm r a ha).1⟩
 refine ⟨joinF F1 H1 fe, ⟨⟨joinF_held p.st.fh, fun i x hx => ?_, fun j t1 hj => ?_, p.st.dj, p.st.nd, fun r a ha => ⟨(kp r a ha).2, (p.st.mm r a ha).2⟩, p.st.mt, p.st.ln, p.st.la⟩, ⟨fun a o e => k1 a o (p.evo.fsub a o e), p.evo.keep, fun a o e e' => ?_, p.evo.dom⟩, p.same, p.new⟩, fd⟩
 ·obtain ⟨v', q1, q2⟩ := p.st.sl i x hx
  refine ⟨v', q1, ?_⟩
  cases x with
  | tr t1 => exact own_keep k1 t1 v' _ q2 (kp _)
  | ar j => exact q2
  | ex c d => exact slEx_mono k1 q2
  | ls js => exact slLs_mono k1 q2
 ·obtain ⟨v', q1, q2⟩ := p.st.ar j t1 hj
  exact ⟨v', q1, own_keep k1 t1 v' _ q2 (kp _)⟩
 ·by_cases z : a ∈ fe
  ·exact (w.new a z).imp id .inl
  ·rw [joinF_out z] at e
   exact p.evo.fnew a o e e'
theorem de_fz (ha : DE X EX W a fa) : DE X EX W a (eFz fa) := by
 refine pe_of ha fun σ H Q ⟨AV, F, S, fp, st, q⟩ => ?_
 unfold eFz at q
 refine ⟨AV, F, S, fp, st, wp_mono (wp_bindT q) fun ea S1 T1 q1 F1 H1 fp1 v fe p1 v1 => ?_⟩
 have q1' := q1 F1 H1 fp1 p1.evA
 cases ea with
 | sv t =>
  dsimp only at q1'
  cases e1 : t.frz with
  | none => rw [e1] at q1'; exact q1'.elim
  | some d =>
   rw [e1] at q1'
   obtain ⟨F2, p2, f2⟩ := vp_freeze p1 v1 e1
   exact q1' F2 H1 fp1 v [] (by simpa using p2) (vp_fz f2)
 | pk r p =>
  dsimp only at q1'
  cases e1 : S1.get r with
  | none => rw [e1] at q1'; exact q1'.elim
  | some t =>
   rw [e1] at q1'
   dsimp only at q1'
   cases e2 : t.sub p with
   | none => rw [e2] at q1'; exact q1'.elim
   | some u =>
    rw [e2] at q1'
    dsimp only at q1'
    cases e3 : u.frz with
    | none => rw [e3] at q1'; exact q1'.elim
    | some d =>
     rw [e3] at q1'
     obtain ⟨_, v0, z1, z2⟩ := v1.val
     obtain ⟨F2, fp2, p2, f2⟩ := p1.st.freeze e1 e2 e3 z1 z2
     exact q1' F2 H1 fp2 v [] (p1.trans p2) (vp_fz f2)
def DS.kill (S : DS) (i : Nat) : DS := { S with sl := S.sl.set i none }
def eMv (fa : DS → Out EV) : DS → Out EV := fun S =>
 (fa S).bindT fun e S1 _ => match e with
  | .sv t => .ok (.sv t) S1 []
  | .pk (.s i) [] => match S1.get (.s i) with
   | some t => .ok (.sv t) (S1.kill i) [.s i]
   | none => .fail
  | .pk _ _ => .fail
theorem kill_get {S : DS} {i : Nat} {r : Rt} (h : r ≠ .s i) : (S.kill i).get r = S.get r := by
 cases r with
 | s j =>
  have : i ≠ j := fun z => h (by rw [z])
  dsimp only [DS.kill, DS.get]
  rw [List.getElem?_set_ne this]
 | a j => rfl
theorem StOk.kill {AV : List V} {F H : Hp} {σ : L2.St} {S : DS} {fp : Rt → List Addr} (h : StOk C AV F H σ S fp) (i : Nat) : StOk C AV F H σ (S.kill i) (updF fp (.s i) []) := by
 refine ⟨h.fh, fun j x hx => ?_, fun j t hj => ?_, fun r r' a h1 h2 => ?_, fun r => ?_, fun r a ha => ?_, fun r a xs ha => ?_, by simpa [DS.kill] using h.ln, h.la⟩
 ·by_cases z : i = j
  ·subst z
   dsimp only [DS.kill] at hx
   rw [List.getElem?_set] at hx
   simp at hx
  ·dsimp only [DS.kill] at hx
   rw [List.getElem?_set_ne z] at hx
   obtain ⟨v, q1, q2⟩ := h.sl j x hx
   exact ⟨v, q1, by rw [updF_ne (fun w => z (by cases w; rfl))]; exact q2⟩
 ·obtain ⟨v, q1, q2⟩ := h.ar j t hj
  exact ⟨v, q1, by rw [updF_ne (fun w => by cases w)]; exact q2⟩
 ·by_cases z1 : r = .s i
  ·rw [z1, updF_same] at h1; cases h1
  ·by_cases z2 : r' = .s i
   ·rw [z2, updF_same] at h2; cases h2
   ·rw [updF_ne z1] at h1; rw [updF_ne z2] at h2; exact h.dj r r' a h1 h2
 ·by_cases z1 : r = .s i
  ·rw [z1, updF_same]; exact .nil
  ·rw [updF_ne z1]; exact h.nd r
 ·by_cases z1 : r = .s i
  ·rw [z1, updF_same] at ha; cases ha
  ·rw [updF_ne z1] at ha; exact h.mm r a ha
 ·by_cases z1 : r = .s i
  ·rw [z1, updF_same] at ha; cases ha
  ·rw [updF_ne z1] at ha; exact h.mt r a xs ha
theorem de_mv (ha : DE X EX W a fa) : DE X EX W a (eMv fa) := by
 refine pe_of ha fun σ H Q ⟨AV, F, S, fp, st, q⟩ => ?_
 unfold eMv at q
 refine ⟨AV, F, S, fp, st, wp_mono (wp_bindT q) fun ea S1 T1 q1 F1 H1 fp1 v fe p1 v1 => ?_⟩
 have q1' := q1 F1 H1 fp1 p1.evA
 cases ea with
 | sv t =>
  refine q1' F1 H1 fp1 v fe (by simpa using p1) ?_
  simpa using v1
 | pk r p =>
  cases r with
  | a j => exact q1'.elim
  | s i =>
   cases p with
   | cons k p => exact q1'.elim
   | nil =>
    dsimp only at q1'
    cases e1 : S1.get (.s i) with
    | none => rw [e1] at q1'; exact q1'.elim
    | some t =>
     rw [e1] at q1'
     obtain ⟨z0, v0, z1, z2⟩ := v1.val
     have z2' : v = v0 := z2
     subst z2'
     obtain ⟨v', z3, o⟩ := p1.st.root e1
     rw [z1] at z3
     cases z3
     have p2 : Post (cnOf X EX) AV F1 H1 σ S1 fp1 [.s i] (S1.kill i) F1 H1 (updF fp1 (.s i) []) := ⟨p1.st.kill i, .refl, fun r hr => by
      have hr' : r ≠ .s i := fun z => hr (by simp [z])
      exact ⟨updF_ne hr', kill_get hr'⟩, fun r a ha => by
       by_cases z : r = .s i
       ·rw [z, updF_same] at ha; cases ha
       ·exact .inr (.inr (by simp [z]))⟩
     refine q1' F1 H1 _ v (fp1 (.s i)) (p1.trans p2) ⟨o, fun r a hr hf => ?_, p1.st.nd _, fun a ha => ?_, rfl⟩
     ·by_cases z : r = .s i
      ·rw [z, updF_same] at hr; cases hr
      ·rw [updF_ne z] at hr; exact z (p1.st.dj r _ a hr hf)
     ·exact p1.rg ⟨.s i, by simp, ha⟩
end
end Y
set_option maxRecDepth 100000
set_option maxHeartbeats 4000000
namespace Y
open PySem PySem.Spec L2
structure ArOk (K : PySem.W.Frag) (AV : List V) (F H : Hp) (A : List SV) (g : Nat → List Addr) : Prop where
 fh : ∀ a o, F a = some o → H a = some o
 ln : A.length = AV.length
 ar : ∀ (j : Nat) (t : SV), A[j]? = some t → ∃ v, AV[j]? = some v ∧ Own K F H t v (g j)
 dj : ∀ j k a, a ∈ g j → a ∈ g k → j = k
 nd : ∀ j, (g j).Nodup
 mm : ∀ j a, a ∈ g j → F a = none ∧ ∃ o, H a = some o
 mt : ∀ j a xs, a ∈ g j → H a ≠ some (.tup xs)
def Ag (g : Nat → List Addr) (a : Addr) : Prop := ∃ k, a ∈ g k
structure RetOk (K : PySem.W.Frag) (AV : List V) (F H : Hp) (g : Nat → List Addr) (A : List SV) (F' H' : Hp) (g' : Nat → List Addr) : Prop where
 ar : ArOk K AV F' H' A g'
 evo : Evo (Ag g) F H F' H'
 new : ∀ a, Ag g' a → Ag g a ∨ H a = none
def spOf (K : PySem.W.Frag) (mg : Str → Option Value) (m : List SV → FOut) : Sp := fun vs H Q E => ∃ F ts g, ArOk K vs F H ts g ∧
 match m ts with
 | .fail => False
 | .ret t A => ∀ F' H' g' v fe, RetOk K vs F H g A F' H' g' → Own K F' H' t v fe → fe.Nodup → (∀ a ∈ fe, Ag g a ∨ H a = none) → (∀ a, Ag g' a → a ∉ fe) → Q v H'
 | .exc c d A => ∀ F' H' g' cls dd, RetOk K vs F H g A F' H' g' → ExcOk ⟨K, mg, fun _ _ _ _ => False⟩ F' H' c d cls dd → E cls dd H'
def EV.root : EV → Option Rt
 | .pk r _ => some r
 | .sv _ => none
def rootsOf (es : List EV) : List Rt := es.filterMap EV.root
def putBack : DS → List EV → List SV → DS
 | S, .pk r p :: es, a :: as => putBack (match S.get r with | some t => S.put r (t.setAt p a) | none => S) es as
 | S, .sv _ :: es, _ :: as => putBack S es as
 | S, _, _ => S
def eFn (m : List SV → FOut) (fr : DS → Out (List EV)) : DS → Out EV := fun S =>
 (fr S).bindT fun es S1 _ => match trees S1 es with
  | some ts => if (rootsOf es).Nodup then (match m ts with
   | .fail => .fail
   | .ret t A => .ok (.sv t) (putBack S1 es A) (rootsOf es)
   | .exc c d A => .exc c d (putBack S1 es A)) else .fail
  | none => .fail
theorem mem_roots {es : List EV} {r : Rt} : r ∈ rootsOf es ↔ ∃ (k : Nat) (p : List Nat), es[k]? = some (.pk r p) := by
 unfold rootsOf
 rw [List.mem_filterMap]
 constructor
 ·rintro ⟨e, he, q⟩
  obtain ⟨k, hk, e2⟩ := List.mem_iff_getElem.mp he
  cases e with
  | sv t => cases q
  | pk r' p => cases q; exact ⟨k, p, List.getElem?_eq_some_iff.mpr ⟨hk, e2⟩⟩
 ·rintro ⟨k, p, q⟩
  exact ⟨_, List.mem_of_getElem? q, rfl⟩
theorem roots_inj : ∀ {es : List EV}, (rootsOf es).Nodup → ∀ {j k : Nat} {r : Rt} {p q : List Nat}, es[j]? = some (.pk r p) → es[k]? = some (.pk r q) → j = k
 | [], _, j, k, r, p, q, h, _ => by simp at h
 | e :: es, nd, j, k, r, p, q, h1, h2 => by
  have tail : (rootsOf es).Nodup := by
   cases e with
   | sv t => exact nd
   | pk r' p' => exact (List.nodup_cons.mp nd).2
  cases j with
  | zero =>
   cases k with
   | zero => rfl
   | succ k =>
    simp at h1
    subst h1
    exact absurd (mem_roots.mpr ⟨k, q, by simpa using h2⟩) (List.nodup_cons.mp nd).1
  | succ j =>
   cases k with
   | zero =>
    simp at h2
    subst h2
    exact absurd (mem_roots.mpr ⟨j, p, by simpa using h1⟩) (List.nodup_cons.mp nd).1
   | succ k =>
    have h1' : es[j]? = some (.pk r p) := by simpa using h1
    have h2' : es[k]? = some (.pk r q) := by simpa using h2
    rw [roots_inj tail h1' h2']
theorem putBack_get_out : ∀ {es : List EV} {A : List SV} {S : DS} {r : Rt}, r ∉ rootsOf es → (putBack S es A).get r = S.get r
 | [], A, S, r, _ => rfl
 | .sv t :: es, [], S, r, h => rfl
 | .sv t :: es, a :: A, S, r, h => putBack_get_out (es := es) h
 | .pk r' p :: es, [], S, r, h => rfl
 | .pk r' p :: es, a :: A, S, r, h => by
  have h1 : r ≠ r' := fun z => h (by rw [z]; exact mem_roots.mpr ⟨0, p, rfl⟩)
  have h2 : r ∉ rootsOf es := fun z => h (by
   obtain ⟨k, q, e⟩ := mem_roots.mp z
   exact mem_roots.mpr ⟨k + 1, q, by simpa using e⟩)
  show (putBack _ es A).get r = _
  rw [putBack_get_out h2]
  cases S.get r' with
  | none => rfl
  | some t => exact put_get_ne h1
theorem putBack_sl_out : ∀ {es : List EV} {A : List SV} {S : DS} {i : Nat}, Rt.s i ∉ rootsOf es → (putBack S es A).sl[i]? = S.sl[i]?
 | [], A, S, r, _ => rfl
 | .sv t :: es, [], S, r, h => rfl
 | .sv t :: es, a :: A, S, r, h => putBack_sl_out (es := es) h
 | .pk r' p :: es, [], S, r, h => rfl
 | .pk r' p :: es, a :: A, S, i, h => by
  have h1 : Rt.s i ≠ r' := fun z => h (by rw [z]; exact mem_roots.mpr ⟨0, p, rfl⟩)
  have h2 : Rt.s i ∉ rootsOf es := fun z => h (by
   obtain ⟨k, q, e⟩ := mem_roots.mp z
   exact mem_roots.mpr ⟨k + 1, q, by simpa using e⟩)
  show (putBack _ es A).sl[i]? = _
  rw [putBack_sl_out h2]
  cases S.get r' with
  | none => rfl
  | some t =>
   cases r' with
   | s j =>
    have : j ≠ i := fun z => h1 (by rw [z])
    dsimp only [DS.put]
    rw [List.getElem?_set_ne this]
   | a j => rfl
theorem putBack_ln : ∀ {es : List EV} {A : List SV} {S : DS}, (putBack S es A).sl.length = S.sl.length ∧ (putBack S es A).ar.length = S.ar.length
 | [], A, S => ⟨rfl, rfl⟩
 | .sv t :: es, [], S => ⟨rfl, rfl⟩
 | .sv t :: es, a :: A, S => putBack_ln (es := es)
 | .pk r' p :: es, [], S => ⟨rfl, rfl⟩
 | .pk r' p :: es, a :: A, S => by
  show (putBack _ es A).sl.length = _ ∧ (putBack _ es A).ar.length = _
  obtain ⟨h1, h2⟩ := putBack_ln (es := es) (A := A) (S := match S.get r' with | some t => S.put r' (t.setAt p a) | none => S)
  rw [h1, h2]
  cases S.get r' with
  | none => exact ⟨rfl, rfl⟩
  | some t => cases r' <;> simp [DS.put]
theorem putBack_get_in : ∀ {es : List EV} {A : List SV} {S : DS} {r : Rt} {k : Nat} {p : List Nat} {t a : SV}, (rootsOf es).Nodup → es[k]? = some (.pk r p) → A[k]? = some a → S.get r = some t → (putBack S es A).get r = some (t.setAt p a)
 | [], A, S, r, k, p, t, a, _, h, _, _ => by simp at h
 | _ :: _, [], S, r, k, p, t, a, _, _, h, _ => by simp at h
 | .sv t' :: es, a' :: A, S, r, k, p, t, a, nd, h1, h2, h3 => by
  cases k with
  | zero => simp at h1
  | succ k => exact putBack_get_in (es := es) (k := k) nd (by simpa using h1) (by simpa using h2) h3
 | .pk r' p' :: es, a' :: A, S, r, k, p, t, a, nd, h1, h2, h3 => by
  have nd' := List.nodup_cons.mp nd
  cases k with
  | zero =>
   simp at h1 h2
   obtain ⟨rfl, rfl⟩ := h1
   subst h2
   show (putBack _ es A).get r' = _
   rw [putBack_get_out nd'.1]
   rw [h3]
   exact put_get h3
  | succ k =>
   have h1' : es[k]? = some (.pk r p) := by simpa using h1
   have hne : r ≠ r' := fun z => nd'.1 (by rw [← z]; exact mem_roots.mpr ⟨k, p, h1'⟩)
   show (putBack _ es A).get r = _
   refine putBack_get_in nd'.2 h1' (by simpa using h2) ?_
   cases e : S.get r' with
   | none => exact h3
   | some t' =>
    show (S.put r' (t'.setAt p' a')).get r = some t
    rw [put_get_ne hne]
    exact h3
theorem trees_at {S : DS} : ∀ {es : List EV} {ts : List SV}, trees S es = some ts → ts.length = es.length ∧ ∀ (k : Nat) (e : EV), es[k]? = some e → ∃ t, ts[k]? = some t ∧ e.tree S = some t
 | [], ts, h => by cases h; exact ⟨rfl, fun k e h => by simp at h⟩
 | e :: es, ts, h => by
  unfold trees at h
  cases e1 : e.tree S with
  | none => rw [e1] at h; cases h
  | some t =>
   cases e2 : trees S es with
   | none => rw [e1, e2] at h; cases h
   | some ts' =>
    rw [e1, e2] at h
    cases h
    obtain ⟨a, b⟩ := trees_at e2
    refine ⟨by simp [a], fun k e' he => ?_⟩
    cases k with
    | zero => simp at he; subst he; exact ⟨t, rfl, e1⟩
    | succ k => exact b k e' (by simpa using he)
section
variable {C : Cn} {W : WX} {AV : List V} {F F1 F' H H1 H' : Hp} {σ : L2.St} {S S1 : DS} {fp fp1 : Rt → List Addr} {T1 : List Rt} {vs : List V} {es : List EV} {fe : Nat → List Addr} {ts A : List SV}
structure Arg (K : PySem.W.Frag) (AV : List V) (F1 H1 : Hp) (σ : L2.St) (S1 : DS) (fp1 : Rt → List Addr) (vs : List V) (es : List EV) (fe : Nat → List Addr) (ts : List SV) (k : Nat) (f : List Addr) : Prop where
 own : ∀ e, es[k]? = some e → ∃ v t, vs[k]? = some v ∧ ts[k]? = some t ∧ Own K F1 H1 t v f
 nd : f.Nodup
 mem : ∀ a ∈ f, a ∈ fe k ∨ ∃ r p, es[k]? = some (.pk r p) ∧ a ∈ fp1 r
 off : es[k]? = none → f = []
 back : ∀ r p, es[k]? = some (.pk r p) → ∃ v0 t0 v, vs[k]? = some v ∧ S1.get r = some t0 ∧ rootV σ AV r = some v0 ∧ ∀ (F' H' : Hp) (u' : SV) (fu' : List Addr), (∀ a o, F1 a = some o → F' a = some o) → (∀ a ∈ fp1 r, a ∉ f → H' a = H1 a ∧ F' a = none) →
  Own K F' H' u' v fu' → fu'.Nodup → (∀ a ∈ fu', a ∈ f ∨ a ∉ fp1 r) → ∃ fp', Own K F' H' (t0.setAt p u') v0 fp' ∧ fp'.Nodup ∧ ∀ a ∈ fp', (a ∈ fp1 r ∧ a ∉ f) ∨ a ∈ fu'
theorem args_of (st : StOk C AV F1 H1 σ S1 fp1) (ln : vs.length = es.length) (val : ∀ (k : Nat) (e : EV), es[k]? = some e → ∃ v, vs[k]? = some v ∧ EOk C AV F1 H1 σ v e (fe k) ∧ (e.tree S1).isSome = true) (nd : ∀ k, (fe k).Nodup) (e1 : trees S1 es = some ts) :
  ∃ g : Nat → List Addr, ∀ k, Arg C.K AV F1 H1 σ S1 fp1 vs es fe ts k (g k) := by
 obtain ⟨_, tr⟩ := trees_at e1
 refine Classical.axiomOfChoice fun k => ?_
 cases hk : es[k]? with
 | none => exact ⟨[], fun e h => (by rw [hk] at h; cases h), .nil, fun a h => (by cases h), fun _ => rfl, fun r p h => by rw [hk] at h; cases h⟩
 | some e =>
  obtain ⟨v, h1, h2, h3⟩ := val k e hk
  obtain ⟨t, h4, h5⟩ := tr k e hk
  cases e with
  | sv t' =>
   cases h5
   exact ⟨fe k, fun e h => (by rw [hk] at h; cases h; exact ⟨v, t, h1, h4, h2⟩), nd k, fun a ha => .inl ha, fun h => (by rw [hk] at h; cases h), fun r p h => by rw [hk] at h; cases h⟩
  | pk r p =>
   obtain ⟨_, v0, z1, z2⟩ := h2
   dsimp only [EV.tree] at h5
   cases e6 : S1.get r with
   | none => rw [e6] at h5; cases h5
   | some t0 =>
    rw [e6] at h5
    obtain ⟨v', z3, o⟩ := st.root e6
    rw [z1] at z3
    cases z3
    obtain ⟨w, fu, c1, c2, c3, c4, c5⟩ := own_sub p o (st.nd r) h5
    have := walk_fun z2 c1
    subst this
    exact ⟨fu, fun e h => (by rw [hk] at h; cases h; exact ⟨v, t, h1, h4, c2⟩), c3, fun a ha => .inr ⟨r, p, hk, c4 a ha⟩, fun h => (by rw [hk] at h; cases h),
     fun r' p' h => by rw [hk] at h; cases h; exact ⟨v0, t0, v, h1, e6, z1, c5⟩⟩
theorem call_back (p1 : Post C AV F H σ S fp T1 S1 F1 H1 fp1) (v1 : VPs C AV F H σ fp T1 S1 F1 H1 fp1 vs es fe) (e1 : trees S1 es = some ts) (nd : (rootsOf es).Nodup) :
  ∃ g, ArOk C.K vs F1 H1 ts g ∧ ∀ (A : List SV) (F' H' : Hp) (g' : Nat → List Addr), RetOk C.K vs F1 H1 g A F' H' g' →
   ∃ fp', Post C AV F H σ S fp (T1 ++ rootsOf es) (putBack S1 es A) F' H' fp' ∧
    ∀ (t : SV) (v : V) (f : List Addr), Own C.K F' H' t v f → f.Nodup → (∀ a ∈ f, Ag g a ∨ H1 a = none) → (∀ a, Ag g' a → a ∉ f) → VP C AV F H σ fp (T1 ++ rootsOf es) (putBack S1 es A) F' H' fp' v (.sv t) f := by
 obtain ⟨g, hg⟩ := args_of p1.st v1.ln v1.val v1.nd e1
 obtain ⟨hl, tr⟩ := trees_at e1
 -- where an address of an argument stands
 have same : ∀ {j k : Nat} {a : Addr}, a ∈ g j → a ∈ g k → j = k := fun {j k a} h1 h2 => by
  rcases (hg j).mem a h1 with x | ⟨r, p, x1, x2⟩
  ·rcases (hg k).mem a h2 with y | ⟨r', p', y1, y2⟩
   ·exact v1.dd j k a x y
   ·exact absurd x (v1.dj r' a j y2)
  ·rcases (hg k).mem a h2 with y | ⟨r', p', y1, y2⟩
   ·exact absurd y (v1.dj r a k x2)
   ·have := p1.st.dj r r' a x2 y2
    subst this
    exact roots_inj nd x1 y1
 -- an address of a root that is an argument's is that argument's own
 have own_root : ∀ {j : Nat} {r : Rt} {a : Addr}, a ∈ g j → a ∈ fp1 r → ∃ p, es[j]? = some (.pk r p) := fun {j r a} h1 h2 => by
  rcases (hg j).mem a h1 with x | ⟨r', p, x1, x2⟩
  ·exact absurd x (v1.dj r a j h2)
  ·have := p1.st.dj r r' a h2 x2
   subst this
   exact ⟨p, x1⟩
 have gsome : ∀ {j : Nat} {a : Addr}, a ∈ g j → F1 a = none ∧ ∃ o, H1 a = some o := fun {j a} h => by
  cases hj : es[j]? with
  | none => rw [(hg j).off hj] at h; cases h
  | some e =>
   obtain ⟨v, t, _, _, o⟩ := (hg j).own e hj
   exact own_fp t v _ o a h
 have gnt : ∀ {j : Nat} {a : Addr} {xs : List V}, a ∈ g j → H1 a ≠ some (.tup xs) := fun {j a xs} h => by
  cases hj : es[j]? with
  | none => rw [(hg j).off hj] at h; cases h
  | some e =>
   obtain ⟨v, t, _, _, o⟩ := (hg j).own e hj
   exact own_nt t v _ o a h xs
 refine ⟨g, ⟨p1.st.fh, by rw [hl, v1.ln], fun j t ht => ?_, fun j k a h1 h2 => same h1 h2, fun j => (hg j).nd, fun j a h => gsome h, fun j a xs h => gnt h⟩, fun A F' H' g' R => ?_⟩
 ·have hj : j < es.length := by rw [← hl]; exact (List.getElem?_eq_some_iff.mp ht).1
  obtain ⟨v, t', a, b, o⟩ := (hg j).own _ (List.getElem?_eq_getElem hj)
  rw [ht] at b
  cases b
  exact ⟨v, a, o⟩
 ·have kp : ∀ a, ¬ Ag g a → ((∃ o, H1 a = some o) ∧ (∀ xs, H1 a ≠ some (.tup xs))) → F1 a = none → H' a = H1 a ∧ F' a = none := fun a hn ⟨⟨o, ho⟩, nt⟩ hf => by
   refine ⟨(R.evo.keep a o ho hn).trans ho.symm, ?_⟩
   cases q : F' a with
   | none => rfl
   | some o1 =>
    rcases R.evo.fnew a o1 q hf with z | z | ⟨xs, z⟩
    ·exact absurd z hn
    ·rw [ho] at z; cases z
    ·exact absurd z (nt xs)
  have lnA : A.length = vs.length := R.ar.ln
  -- the new place of each root
  have pick : ∀ r, ∃ f : List Addr, (∀ k p, es[k]? = some (.pk r p) → ∃ t0 v0 u', S1.get r = some t0 ∧ A[k]? = some u' ∧ rootV σ AV r = some v0 ∧ Own C.K F' H' (t0.setAt p u') v0 f ∧ f.Nodup ∧ ∀ a ∈ f, (a ∈ fp1 r ∧ a ∉ g k) ∨ a ∈ g' k) ∧ (r ∉ rootsOf es → f = fp1 r) := fun r => by
   by_cases hr : r ∈ rootsOf es
   ·obtain ⟨k, p, hk⟩ := mem_roots.mp hr
    obtain ⟨v0, t0, v, b0, b1, b2, b3⟩ := (hg k).back r p hk
    have hkl : k < A.length := by
     rw [lnA, v1.ln]
     exact (List.getElem?_eq_some_iff.mp hk).1
    have hA : A[k]? = some A[k] := List.getElem?_eq_getElem hkl
    obtain ⟨v', a1, a2⟩ := R.ar.ar k _ hA
    rw [b0] at a1
    cases a1
    obtain ⟨f, d1, d2, d3⟩ := b3 F' H' A[k] (g' k) R.evo.fsub (fun a ha hn => kp a (fun ⟨j, hj⟩ => by
     obtain ⟨p', e'⟩ := own_root hj ha
     have := roots_inj nd hk e'
     subst this
     exact hn hj) ⟨(p1.st.mm r a ha).2, fun xs => p1.st.mt r a xs ha⟩ (p1.st.mm r a ha).1) a2 (R.ar.nd k) (fun a ha => by
     rcases R.new a ⟨k, ha⟩ with ⟨j, z⟩ | z
     ·by_cases hra : a ∈ fp1 r
      ·obtain ⟨p', e'⟩ := own_root z hra
       have := roots_inj nd hk e'
       subst this
       exact .inl z
      ·exact .inr hra
     ·exact .inr fun y => by obtain ⟨_, o, m⟩ := p1.st.mm r a y; rw [m] at z; cases z)
    refine ⟨f, fun k' p' h' => ?_, fun h => absurd hr h⟩
    have := roots_inj nd hk h'
    subst this
    rw [hk] at h'
    cases h'
    exact ⟨t0, v0, A[k], b1, hA, b2, d1, d2, d3⟩
   ·exact ⟨fp1 r, fun k p hk => absurd (mem_roots.mpr ⟨k, p, hk⟩) hr, fun _ => rfl⟩
  obtain ⟨fp', hp⟩ := Classical.axiomOfChoice pick
  -- an address of the new place of a root
  have wh : ∀ r a, a ∈ fp' r → (a ∈ fp1 r ∧ ¬ Ag g a) ∨ ∃ k p, es[k]? = some (.pk r p) ∧ a ∈ g' k := fun r a ha => by
   by_cases hr : r ∈ rootsOf es
   ·obtain ⟨k, p, hk⟩ := mem_roots.mp hr
    obtain ⟨t0, v0, u', _, _, _, _, _, q⟩ := (hp r).1 k p hk
    rcases q a ha with ⟨z1, z2⟩ | z
    ·refine .inl ⟨z1, fun ⟨j, hj⟩ => ?_⟩
     obtain ⟨p', e'⟩ := own_root hj z1
     have := roots_inj nd hk e'
     subst this
     exact z2 hj
    ·exact .inr ⟨k, p, hk, z⟩
   ·rw [(hp r).2 hr] at ha
    refine .inl ⟨ha, fun ⟨j, hj⟩ => ?_⟩
    obtain ⟨p', e'⟩ := own_root hj ha
    exact hr (mem_roots.mpr ⟨j, p', e'⟩)
  have keepOut : ∀ r a, r ∉ rootsOf es → a ∈ fp1 r → H' a = H1 a ∧ F' a = none := fun r a hr ha => kp a (fun ⟨j, hj⟩ => by
   obtain ⟨p', e'⟩ := own_root hj ha
   exact hr (mem_roots.mpr ⟨j, p', e'⟩)) ⟨(p1.st.mm r a ha).2, fun xs => p1.st.mt r a xs ha⟩ (p1.st.mm r a ha).1
  -- g' against the old places
  have gOld : ∀ {k : Nat} {r : Rt} {a : Addr}, a ∈ g' k → a ∈ fp1 r → ¬ Ag g a → False := fun {k r a} h1 h2 h3 => by
   rcases R.new a ⟨k, h1⟩ with z | z
   ·exact h3 z
   ·obtain ⟨_, o, m⟩ := p1.st.mm r a h2; rw [m] at z; cases z
  have agIn : ∀ a, Ag g a → Rg (T1 ++ rootsOf es) fp a ∨ H a = none := fun a ⟨j, hj⟩ => by
   rcases (hg j).mem a hj with x | ⟨r, p, x1, x2⟩
   ·rcases v1.new j a x with y | y
    ·exact .inl (Rg.app.mpr (.inl y))
    ·exact .inr y
   ·exact p1.rg ⟨r, mem_roots.mpr ⟨j, p, x1⟩, x2⟩
  refine ⟨fp', ⟨⟨R.ar.fh, fun i x hx => ?_, fun j t hj => ?_, fun r r' a h1 h2 => ?_, fun r => ?_, fun r a ha => ?_, fun r a xs ha z => ?_, ?_, ?_⟩, ?_, fun r hr => ?_, fun r a ha => ?_⟩, fun t v f o n1 n2 n3 => ⟨o, fun r a ha hf => ?_, n1, fun a ha => ?_, rfl⟩⟩
  ·by_cases hr : Rt.s i ∈ rootsOf es
   ·obtain ⟨k, p, hk⟩ := mem_roots.mp hr
    obtain ⟨t0, v0, u', b1, b2, b3, b4, _, _⟩ := (hp (.s i)).1 k p hk
    have h := get_inv (putBack_get_in nd hk b2 b1)
    rw [hx] at h
    cases h
    refine ⟨v0, ?_, b4⟩
    dsimp only [rootV] at b3
    cases q : σ[i]? with
    | none => rw [q] at b3; cases b3
    | some w =>
     rw [q] at b3
     cases w with
     | none => cases b3
     | some w => cases b3; rfl
   ·rw [putBack_sl_out hr] at hx
    obtain ⟨v, q1, q2⟩ := p1.st.sl i x hx
    refine ⟨v, q1, ?_⟩
    rw [(hp (.s i)).2 hr]
    cases x with
    | tr t => exact own_keep R.evo.fsub t v _ q2 fun a ha => keepOut _ a hr ha
    | ar j => exact q2
    | ex c d => exact slEx_mono R.evo.fsub q2
    | ls js => exact slLs_mono R.evo.fsub q2
  ·by_cases hr : Rt.a j ∈ rootsOf es
   ·obtain ⟨k, p, hk⟩ := mem_roots.mp hr
    obtain ⟨t0, v0, u', b1, b2, b3, b4, _, _⟩ := (hp (.a j)).1 k p hk
    have h : (putBack S1 es A).ar[j]? = _ := putBack_get_in nd hk b2 b1
    rw [hj] at h
    cases h
    exact ⟨v0, b3, b4⟩
   ·have h : (putBack S1 es A).get (.a j) = S1.get (.a j) := putBack_get_out hr
    have h' : S1.ar[j]? = some t := by rw [← show (putBack S1 es A).ar[j]? = S1.ar[j]? from h]; exact hj
    obtain ⟨v, q1, q2⟩ := p1.st.ar j t h'
    refine ⟨v, q1, ?_⟩
    rw [(hp (.a j)).2 hr]
    exact own_keep R.evo.fsub t v _ q2 fun a ha => keepOut _ a hr ha
  ·rcases wh r a h1 with ⟨x1, x2⟩ | ⟨k, p, x1, x2⟩
   ·rcases wh r' a h2 with ⟨y1, y2⟩ | ⟨k', p', y1, y2⟩
    ·exact p1.st.dj r r' a x1 y1
    ·exact (gOld y2 x1 x2).elim
   ·rcases wh r' a h2 with ⟨y1, y2⟩ | ⟨k', p', y1, y2⟩
    ·exact (gOld x2 y1 y2).elim
    ·have := R.ar.dj k k' a x2 y2
     subst this
     rw [x1] at y1
     cases y1
     rfl
  ·by_cases hr : r ∈ rootsOf es
   ·obtain ⟨k, p, hk⟩ := mem_roots.mp hr
    obtain ⟨_, _, _, _, _, _, _, q, _⟩ := (hp r).1 k p hk
    exact q
   ·rw [(hp r).2 hr]
    exact p1.st.nd r
  ·rcases wh r a ha with ⟨x1, x2⟩ | ⟨k, p, x1, x2⟩
   ·obtain ⟨z1, z2⟩ := kp a x2 ⟨(p1.st.mm r a x1).2, fun xs => p1.st.mt r a xs x1⟩ (p1.st.mm r a x1).1
    obtain ⟨o, ho⟩ := (p1.st.mm r a x1).2
    exact ⟨z2, o, z1.trans ho⟩
   ·exact R.ar.mm k a x2
  ·rcases wh r a ha with ⟨x1, x2⟩ | ⟨k, p, x1, x2⟩
   ·have k1 := (kp a x2 ⟨(p1.st.mm r a x1).2, fun xs => p1.st.mt r a xs x1⟩ (p1.st.mm r a x1).1).1
    exact p1.st.mt r a xs x1 (k1 ▸ z)
   ·exact R.ar.mt k a xs x2 z
  ·rw [putBack_ln.1]; exact p1.st.ln
  ·rw [putBack_ln.2]; exact p1.st.la
  ·exact (p1.evo.mono fun x h => Rg.app.mpr (.inl h)).trans R.evo agIn
  ·have h1 : r ∉ T1 := fun z => hr (by simp [z])
   have h2 : r ∉ rootsOf es := fun z => hr (by simp [z])
   exact ⟨((hp r).2 h2).trans (p1.same r h1).1, (putBack_get_out h2).trans (p1.same r h1).2⟩
  ·rcases wh r a ha with ⟨x1, x2⟩ | ⟨k, p, x1, x2⟩
   ·rcases p1.new r a x1 with z | z | z
    ·exact .inl (Rg.app.mpr (.inl z))
    ·exact .inr (.inl z)
    ·by_cases h2 : r ∈ rootsOf es
     ·rcases p1.rg ⟨r, h2, x1⟩ with y | y
      ·exact .inl y
      ·exact .inr (.inl y)
     ·exact .inr (.inr (by simp [z, h2]))
   ·rcases R.new a ⟨k, x2⟩ with z | z
    ·rcases agIn a z with y | y
     ·exact .inl y
     ·exact .inr (.inl y)
    ·exact .inr (.inl (p1.evo.none_back z))
  ·rcases wh r a ha with ⟨x1, x2⟩ | ⟨k, p, x1, x2⟩
   ·rcases n2 a hf with z | z
    ·exact x2 z
    ·obtain ⟨_, o, m⟩ := p1.st.mm r a x1; rw [m] at z; cases z
   ·exact n3 a ⟨k, x2⟩ hf
  ·rcases n2 a ha with z | z
   ·exact agIn a z
   ·exact .inr (p1.evo.none_back z)
end
section
variable {X : Cx} {EX : Hp → V → Str → Option PyData → Prop} {W : WX} {e : Expr} {es : List Expr} {pos : Pos} {fr : DS → Out (List EV)}
theorem tCall_LE {C : Cn} {m : List SV → FOut} : ∀ σ H Q, LE C W (eFn m fr) σ H Q → tCallS (spOf C.K C.mg m) (WE W) (LA C W fr) σ H Q := by
 intro σ H Q ⟨AV, F, S, fp, st, q⟩
 unfold eFn at q
 refine ⟨AV, F, S, fp, st, wp_mono (wp_bindT q) fun es S1 T1 q1 F1 H1 fp1 vs fe p1 v1 => ?_⟩
 have q1' := q1 F1 H1 fp1 p1.evA
 cases e1 : trees S1 es with
 | none => rw [e1] at q1'; exact q1'.elim
 | some ts =>
  rw [e1] at q1'
  dsimp only at q1'
  split at q1'
  ·rename_i nd
   obtain ⟨g, hg, back⟩ := call_back p1 v1 e1 nd
   refine ⟨F1, ts, g, hg, ?_⟩
   cases e4 : m ts with
   | fail => rw [e4] at q1'; exact q1'.elim
   | ret t A =>
    rw [e4] at q1'
    intro F' H' g' v f R o n1 n2 n3
    obtain ⟨fp', p', w'⟩ := back A F' H' g' R
    exact q1' F' H' fp' v f p' (w' t v f o n1 n2 n3)
   | exc c d A =>
    rw [e4] at q1'
    intro F' H' g' cls dd R x
    obtain ⟨fp', p', w'⟩ := back A F' H' g' R
    have q0 := q1 F H fp .refl
    rw [e1] at q0
    dsimp only at q0
    rw [if_pos nd, e4] at q0
    exact q0 F' H' fp' cls dd p'.st p'.evA x
  ·exact q1'.elim
end
end Y
set_option maxRecDepth 100000
set_option maxHeartbeats 4000000
namespace Y
open PySem PySem.Spec L2
structure RtOk (K : PySem.W.Frag) (AV : List V) (R : Addr → Prop) (F H : Hp) (t : SV) (A : List SV) (F' H' : Hp) (g' : Nat → List Addr) (v : V) (fe : List Addr) : Prop where
 ar : ArOk K AV F' H' A g'
 own : Own K F' H' t v fe
 nd : fe.Nodup
 evo : Evo R F H F' H'
 newv : ∀ a ∈ fe, R a ∨ H a = none
 newa : ∀ a, Ag g' a → R a ∨ H a = none
 dj : ∀ a, Ag g' a → a ∉ fe
def SW (C : Cn) (W : WX) (AV : List V) (F H : Hp) (fp : Rt → List Addr) (o : SOut) (D : Ends) : Prop :=
 match o with
 | .fail => False
 | .nx S' => ∀ σ' F' H' fp', StOk C AV F' H' σ' S' fp' → EvA F H F' H' fp fp' → D.nx σ' H'
 | .bk S' => ∀ σ' F' H' fp', StOk C AV F' H' σ' S' fp' → EvA F H F' H' fp fp' → D.bk σ' H'
 | .ct S' => ∀ σ' F' H' fp', StOk C AV F' H' σ' S' fp' → EvA F H F' H' fp fp' → D.ct σ' H'
 | .rt t A => ∀ F' H' g' v fe, RtOk C.K AV (Al fp) F H t A F' H' g' v fe → D.rt v H'
 | .exc c d S' => ∀ σ' F' H' fp' cls dd, StOk C AV F' H' σ' S' fp' → EvA F H F' H' fp fp' → ExcOk C F' H' c d cls dd → W cls dd σ' H'
def LS (C : Cn) (W : WX) (f : DS → SOut) : TS := fun D σ H => ∃ AV F S fp, StOk C AV F H σ S fp ∧ SW C W AV F H fp (f S) D
abbrev DSt (X : Cx) (EX : Hp → V → Str → Option PyData → Prop) (W : WX) (st : Stmt) (f : DS → SOut) : Prop := PS X st (LS (cnOf X EX) W f)
abbrev DSs (X : Cx) (EX : Hp → V → Str → Option PyData → Prop) (W : WX) (st : List Stmt) (f : DS → SOut) : Prop := PSs X st (LS (cnOf X EX) W f)
theorem ps_of {X : Cx} {st : Stmt} {t t' : TS} (h : PS X st t) (k : ∀ D σ H, t' D σ H → t D σ H) : PS X st t' := ⟨fun pins s σ H D I q => h.run pins s σ H D I (k D σ H q)⟩
theorem pss_of {X : Cx} {st : List Stmt} {t t' : TS} (h : PSs X st t) (k : ∀ D σ H, t' D σ H → t D σ H) : PSs X st t' := ⟨fun pins s σ H D I q => h.run pins s σ H D I (k D σ H q)⟩
def sBind {α : Type} (o : Out α) (k : α → DS → SOut) : SOut :=
 match o with
 | .fail => .fail
 | .exc c d S => .exc c d S
 | .ok x S _ => k x S
section
variable {C : Cn} {W : WX} {AV : List V} {F F1 F2 H H1 H2 : Hp} {σ : L2.St} {S S1 S2 : DS} {fp fp1 fp2 : Rt → List Addr} {T T1 T2 : List Rt} {α β : Type} {D : Ends}
theorem RtOk.later {K : PySem.W.Frag} {R R1 : Addr → Prop} {t : SV} {A : List SV} {F' H' : Hp} {g' : Nat → List Addr} {v : V} {fe : List Addr} (a : Evo R F H F1 H1) (k : ∀ x, R1 x → R x ∨ H x = none) (h : RtOk K AV R1 F1 H1 t A F' H' g' v fe) : RtOk K AV R F H t A F' H' g' v fe :=
 ⟨h.ar, h.own, h.nd, a.trans h.evo k, fun x hx => (h.newv x hx).elim (k x) fun z => .inr (a.none_back z), fun x hx => (h.newa x hx).elim (k x) fun z => .inr (a.none_back z), h.dj⟩
theorem SW.later {o : SOut} (e : EvA F H F1 H1 fp fp1) (h : SW C W AV F H fp o D) : SW C W AV F1 H1 fp1 o D := by
 cases o with
 | fail => exact h
 | nx S => exact fun σ' F' H' fp' st ev => h σ' F' H' fp' st (e.trans ev)
 | bk S => exact fun σ' F' H' fp' st ev => h σ' F' H' fp' st (e.trans ev)
 | ct S => exact fun σ' F' H' fp' st ev => h σ' F' H' fp' st (e.trans ev)
 | rt t A => exact fun F' H' g' v fe r => h F' H' g' v fe (r.later e.evo e.new)
 | exc c d S => exact fun σ' F' H' fp' cls dd st ev x => h σ' F' H' fp' cls dd st (e.trans ev) x
theorem sw_bind {o : Out α} {k : α → DS → SOut} (h : SW C W AV F H fp (sBind o k) D) : Wp C W AV F H σ fp o fun x S1 T1 => SW C W AV F H fp (k x S1) D := by
 cases o with
 | fail => exact h
 | exc c d S => exact fun F' H' fp' cls dd st ev x => h σ F' H' fp' cls dd st ev x
 | ok x S T => exact h
theorem SW.done (h : SW C W AV F H fp (.nx S1) D) {σ' : L2.St} (st : StOk C AV F1 H1 σ' S1 fp1) (e : EvA F H F1 H1 fp fp1) : D.nx σ' H1 := h σ' F1 H1 fp1 st e
end
section
variable {X : Cx} {EX : Hp → V → Str → Option PyData → Prop} {W : WX} {e a b c : Expr} {st : Stmt} {sts rest : List Stmt} {es : List Expr} {pos : Pos} {fa fb fc : DS → Out EV} {fr : DS → Out (List EV)} {f g : DS → SOut} {t : DS → Out Bool} {C : Cn}
def sNil : DS → SOut := fun S => .nx S
def sSeq (f g : DS → SOut) : DS → SOut := fun S => match f S with
 | .nx S1 => g S1
 | o => o
theorem ds_nil : DSs X EX W [] sNil := pss_of pss_nil fun D σ H ⟨AV, F, S, fp, st, q⟩ => q σ F H fp st .refl
theorem tSeq_LS : ∀ D σ H, LS C W (sSeq f g) D σ H → tSeq (LS C W f) (LS C W g) D σ H := by
 intro D σ H ⟨AV, F, S, fp, st, q⟩
 refine ⟨AV, F, S, fp, st, ?_⟩
 unfold sSeq at q
 cases e : f S with
 | fail => rw [e] at q; exact q
 | nx S1 =>
  rw [e] at q
  exact fun σ' F' H' fp' st' ev => ⟨AV, F', S1, fp', st', q.later ev⟩
 | bk S1 => rw [e] at q; exact q
 | ct S1 => rw [e] at q; exact q
 | rt t A => rw [e] at q; exact q
 | exc c d S1 => rw [e] at q; exact q
theorem ds_cons (h1 : DSt X EX W st f) (h2 : DSs X EX W rest g) : DSs X EX W (st :: rest) (sSeq f g) := pss_of (pss_cons h1 h2) (tSeq_LS (C := cnOf X EX))
theorem ds_one (h1 : DSt X EX W st f) : DSs X EX W [st] f := pss_one h1
def sExpr (fa : DS → Out EV) : DS → SOut := fun S => sBind (fa S) fun _ S1 => .nx S1
theorem ds_expr (ha : DE X EX W a fa) (hs : swapsWith a none pos.line X.env = pure false := by rfl) : DSt X EX W (.Expr a pos) (sExpr fa) :=
 ps_of (ps_expr ha hs) fun D σ H ⟨AV, F, S, fp, st, q⟩ => ⟨AV, F, S, fp, st, wp_mono (sw_bind (σ := σ) q) fun e S1 T1 q1 F1 H1 fp1 v fe p1 v1 => q1.done p1.st p1.evA⟩
def sRet (fa : DS → Out EV) : DS → SOut := fun S => sBind (fa S) fun e S1 => match e with
 | .sv t => .rt t S1.ar
 | .pk _ _ => .fail
def arF (fp : Rt → List Addr) : Nat → List Addr := fun j => fp (.a j)
theorem StOk.args {AV : List V} {F H : Hp} {σ : L2.St} {S : DS} {fp : Rt → List Addr} (st : StOk C AV F H σ S fp) : ArOk C.K AV F H S.ar (arF fp) :=
 ⟨st.fh, st.la, fun j t h => st.ar j t h, fun j k a h1 h2 => by have := st.dj _ _ a h1 h2; cases this; rfl, fun j => st.nd _, fun j a h => st.mm _ a h, fun j a xs h => st.mt _ a xs h⟩
theorem ds_ret (ha : DE X EX W a fa) : DSt X EX W (.Return (some a) pos) (sRet fa) := by
 refine ps_of (ps_ret ha) fun D σ H ⟨AV, F, S, fp, st, q⟩ => ⟨AV, F, S, fp, st, wp_mono (sw_bind (σ := σ) q) fun e S1 T1 q1 F1 H1 fp1 v fe p1 v1 => ?_⟩
 cases e with
 | pk r p => exact q1.elim
 | sv t =>
  have ev := p1.evA
  exact q1 F1 H1 (arF fp1) v fe ⟨p1.st.args, v1.val, v1.nd, ev.evo, fun a ha => (v1.new a ha).imp (fun z => z.al) id, fun a ⟨k, hk⟩ => ev.new a ⟨_, hk⟩, fun a ⟨k, hk⟩ hf => v1.dj _ a hk hf⟩
def sIf (t : DS → Out Bool) (f g : DS → SOut) : DS → SOut := fun S => sBind (t S) fun b S1 => if b = true then f S1 else g S1
theorem ds_if {s1 s2 : List Stmt} (ht : DT X EX W c t) (h1 : DSs X EX W s1 f) (h2 : DSs X EX W s2 g) : DSt X EX W (.If c s1 s2 pos) (sIf t f g) := by
 refine ps_of (ps_if ht h1 h2) fun D σ H ⟨AV, F, S, fp, st, q⟩ => ⟨AV, F, S, fp, st, wp_mono (sw_bind (σ := σ) q) fun b S1 T1 q1 F1 H1 fp1 p1 => ?_⟩
 cases b with
 | true => exact ⟨AV, F1, S1, fp1, p1.st, q1.later p1.evA⟩
 | false => exact ⟨AV, F1, S1, fp1, p1.st, q1.later p1.evA⟩
def LG (C : Cn) (W : WX) (f : SV → DS → SOut) : TG := fun v σ H Q => ∃ AV F S fp t fe, StOk C AV F H σ S fp ∧ Own C.K F H t v fe ∧ (∀ r a, a ∈ fp r → a ∉ fe) ∧ fe.Nodup ∧
 match f t S with
 | .nx S' => ∀ σ' F' H' fp', StOk C AV F' H' σ' S' fp' → Evo (fun a => Al fp a ∨ a ∈ fe) F H F' H' → (∀ a, Al fp' a → (Al fp a ∨ a ∈ fe) ∨ H a = none) → Q σ' H'
 | .exc c d S' => ∀ σ' F' H' fp' cls dd, StOk C AV F' H' σ' S' fp' → Evo (fun a => Al fp a ∨ a ∈ fe) F H F' H' → (∀ a, Al fp' a → (Al fp a ∨ a ∈ fe) ∨ H a = none) → ExcOk C F' H' c d cls dd → W cls dd σ' H'
 | _ => False
abbrev DG (X : Cx) (EX : Hp → V → Str → Option PyData → Prop) (W : WX) (tg : Expr) (f : SV → DS → SOut) : Prop := PG X tg (LG (cnOf X EX) W f)
theorem pg_of {X : Cx} {tg : Expr} {t t' : TG} (h : PG X tg t) (k : ∀ v σ H Q, t' v σ H Q → t v σ H Q) : PG X tg t' := ⟨fun pins s σ H v u Q I r q => h.run pins s σ H v u Q I r (k v σ H Q q)⟩
def DS.setSl (S : DS) (i : Nat) (t : SV) : DS := { S with sl := S.sl.set i (some (.tr t)) }
theorem StOk.setSl {AV : List V} {F H : Hp} {σ : L2.St} {S : DS} {fp : Rt → List Addr} (h : StOk C AV F H σ S fp) {i : Nat} {t : SV} {v : V} {fe : List Addr} (o : Own C.K F H t v fe) (dj : ∀ r a, a ∈ fp r → a ∉ fe) (nd : fe.Nodup) :
  StOk C AV F H (σ.set i (some v)) (S.setSl i t) (updF fp (.s i) fe) := by
 refine ⟨h.fh, fun j x hx => ?_, fun j t1 hj => ?_, fun r r' a h1 h2 => ?_, fun r => ?_, fun r a ha => ?_, fun r a xs ha => ?_, by simpa [DS.setSl] using h.ln, h.la⟩
 ·by_cases z : i = j
  ·subst z
   dsimp only [DS.setSl] at hx
   have hl : i < S.sl.length := by
    have := (List.getElem?_eq_some_iff.mp hx).1
    simpa using this
   rw [List.getElem?_set_self hl] at hx
   cases hx
   exact ⟨v, by rw [List.getElem?_set_self (by rw [← h.ln]; exact hl)], by rw [updF_same]; exact o⟩
  ·dsimp only [DS.setSl] at hx
   rw [List.getElem?_set_ne z] at hx
   obtain ⟨w, q1, q2⟩ := h.sl j x hx
   exact ⟨w, by rw [List.getElem?_set_ne z]; exact q1, by rw [updF_ne (fun y => z (by cases y; rfl))]; exact q2⟩
 ·obtain ⟨w, q1, q2⟩ := h.ar j t1 hj
  exact ⟨w, q1, by rw [updF_ne (fun y => by cases y)]; exact q2⟩
 ·by_cases z1 : r = .s i
  ·by_cases z2 : r' = .s i
   ·rw [z1, z2]
   ·rw [z1, updF_same] at h1; rw [updF_ne z2] at h2; exact absurd h1 (dj _ a h2)
  ·by_cases z2 : r' = .s i
   ·rw [z2, updF_same] at h2; rw [updF_ne z1] at h1; exact absurd h2 (dj _ a h1)
   ·rw [updF_ne z1] at h1; rw [updF_ne z2] at h2; exact h.dj r r' a h1 h2
 ·by_cases z1 : r = .s i
  ·rw [z1, updF_same]; exact nd
  ·rw [updF_ne z1]; exact h.nd r
 ·by_cases z1 : r = .s i
  ·rw [z1, updF_same] at ha; exact own_fp t v fe o a ha
  ·rw [updF_ne z1] at ha; exact h.mm r a ha
 ·by_cases z1 : r = .s i
  ·rw [z1, updF_same] at ha; exact own_nt t v fe o a ha xs
  ·rw [updF_ne z1] at ha; exact h.mt r a xs ha
def gSet (i : Nat) : SV → DS → SOut := fun t S => .nx (S.setSl i t)
theorem dg_name {i : Nat} {x : Str} (hN : X.N.Nodup) (hi : X.N[i]? = some x) (hx : Loc X.env.scope x) (hf : X.fn x = true ∨ X.env.scope.names.lookup x = some .local := by first | exact .inl rfl | exact .inr rfl | assumption) : DG X EX W (.Name x pos) (gSet i) := by
 refine pg_of (pg_name hN hi hx hf) fun v σ H Q ⟨AV, F, S, fp, t, fe, st, o, dj, nd, q⟩ => ?_
 refine q (σ.set i (some v)) F H _ (st.setSl o dj nd) .refl fun a ⟨r, hr⟩ => ?_
 by_cases z : r = .s i
 ·rw [z, updF_same] at hr; exact .inl (.inr hr)
 ·rw [updF_ne z] at hr; exact .inl (.inl ⟨r, hr⟩)
def gMany : List (SV → DS → SOut) → List PyData → DS → SOut
 | [], [], S => .nx S
 | f :: fs, d :: ds, S => match f (.fz d) S with
  | .nx S' => gMany fs ds S'
  | .exc c d S' => .exc c d S'
  | _ => .fail
 | _, _, _ => .fail
def GW (C : Cn) (W : WX) (AV : List V) (F H : Hp) (fp : Rt → List Addr) (o : SOut) (Q : L2.St → Hp → Prop) : Prop :=
 match o with
 | .nx S' => ∀ σ' F' H' fp', StOk C AV F' H' σ' S' fp' → EvA F H F' H' fp fp' → Q σ' H'
 | .exc c d S' => ∀ σ' F' H' fp' cls dd, StOk C AV F' H' σ' S' fp' → EvA F H F' H' fp fp' → ExcOk C F' H' c d cls dd → W cls dd σ' H'
 | _ => False
theorem GW.later {AV : List V} {F H F1 H1 : Hp} {fp fp1 : Rt → List Addr} {o : SOut} {Q : L2.St → Hp → Prop} (e : EvA F H F1 H1 fp fp1) (h : GW C W AV F H fp o Q) : GW C W AV F1 H1 fp1 o Q := by
 cases o with
 | nx S => exact fun σ' F' H' fp' st ev => h σ' F' H' fp' st (e.trans ev)
 | exc c d S => exact fun σ' F' H' fp' cls dd st ev x => h σ' F' H' fp' cls dd st (e.trans ev) x
 | fail => exact h
 | bk S => exact h
 | ct S => exact h
 | rt t A => exact h
def LGs (C : Cn) (W : WX) (fs : List (SV → DS → SOut)) : TGs := fun vs σ H Q => ∃ AV F S fp ds, StOk C AV F H σ S fp ∧ FzAll F vs ds ∧ GW C W AV F H fp (gMany fs ds S) Q
theorem pgs_of {X : Cx} {tg : List Expr} {t t' : TGs} (h : PGs X tg t) (k : ∀ v σ H Q, t' v σ H Q → t v σ H Q) : PGs X tg t' := ⟨fun pins s σ H v u Q I r q => h.run pins s σ H v u Q I r (k v σ H Q q)⟩
theorem lg_fz {AV : List V} {F H : Hp} {σ : L2.St} {S : DS} {fp : Rt → List Addr} {v : V} {d : PyData} {h : SV → DS → SOut} {Q : L2.St → Hp → Prop} (st : StOk C AV F H σ S fp) (fz : Fz F v d) (q : GW C W AV F H fp (h (.fz d) S) Q) : LG C W h v σ H Q := by
 refine ⟨AV, F, S, fp, .fz d, [], st, own_of_fz fz, fun _ _ _ h => (by cases h), .nil, ?_⟩
 have k : ∀ a, (Al fp a ∨ a ∈ ([] : List Addr)) → Al fp a := fun a z => z.elim id fun y => by cases y
 cases e : h (.fz d) S with
 | nx S' => rw [e] at q; exact fun σ' F' H' fp' st' ev n => q σ' F' H' fp' st' ⟨ev.mono k, fun a ha => (n a ha).imp (k a) id⟩
 | exc c d S' => rw [e] at q; exact fun σ' F' H' fp' cls dd st' ev n x => q σ' F' H' fp' cls dd st' ⟨ev.mono k, fun a ha => (n a ha).imp (k a) id⟩ x
 | fail => rw [e] at q; exact q
 | bk S => rw [e] at q; exact q
 | ct S => rw [e] at q; exact q
 | rt t A => rw [e] at q; exact q
theorem dgs_nil : PGs X [] (LGs (cnOf X EX) W []) := by
 refine pgs_of pgs_nil fun vs σ H Q ⟨AV, F, S, fp, ds, st, fz, q⟩ => ?_
 cases ds with
 | nil => cases fz; exact ⟨rfl, q σ F H fp st .refl⟩
 | cons d ds => exact q.elim
theorem dgs_cons {h : SV → DS → SOut} {hs : List (SV → DS → SOut)} {te : Expr} {tes : List Expr} (h1 : DG X EX W te h) (h2 : PGs X tes (LGs (cnOf X EX) W hs))
  (he : (assignEach (te :: tes) X.env).map (·.2) = assign te X.env :: (assignEach tes X.env).map (·.2) := by rfl) : PGs X (te :: tes) (LGs (cnOf X EX) W (h :: hs)) := by
 refine pgs_of (pgs_cons h1 h2 he) fun vs σ H Q ⟨AV, F, S, fp, ds, st, fz, q⟩ => ?_
 cases ds with
 | nil => exact q.elim
 | cons d ds =>
  cases fz with
  | cons f1 f2 =>
   refine ⟨_, _, rfl, lg_fz st f1 ?_⟩
   unfold gMany at q
   cases e : h (.fz d) S with
   | nx S' =>
    rw [e] at q
    exact fun σ' F' H' fp' st' ev => ⟨AV, F', S', fp', ds, st', fzAll_mono ev.evo.fsub _ _ f2, GW.later ev q⟩
   | exc c d S' => rw [e] at q; exact q
   | fail => rw [e] at q; exact q
   | bk S => rw [e] at q; exact q
   | ct S => rw [e] at q; exact q
   | rt t A => rw [e] at q; exact q
def gTupL (fs : List (SV → DS → SOut)) : SV → DS → SOut := fun t S => match t.tps with
 | some ds => if ds.length = fs.length then gMany fs ds S else .fail
 | none => .fail
theorem dg_tup {hs : List (SV → DS → SOut)} {tes : List Expr} {k : Nat} (hc : X.calm = true) (h : PGs X tes (LGs (cnOf X EX) W hs))
  (hn : (assignEach tes X.env).length = hs.length := by rfl) (hst : (assignEach tes X.env).findIdx? (·.1) = none := by rfl) : DG X EX W (.Tuple tes k pos) (gTupL hs) := by
 refine pg_of (pg_tup hc h hn hst) fun v σ H Q ⟨AV, F, S, fp, t, fe, st, o, dj, nd, q⟩ => ?_
 unfold gTupL at q
 cases e : t.tps with
 | none => rw [e] at q; exact q.elim
 | some ds =>
  rw [e] at q
  dsimp only at q
  by_cases hl : ds.length = hs.length
  ·rw [if_pos hl] at q
   obtain ⟨a, vs, r1, r2, r3⟩ := own_tps o e
   refine ⟨a, vs, r1, r2.sq st.fh, by rw [fzAll_len r3, hl], AV, F, S, fp, ds, st, r3, ?_⟩
   have fe0 : ∀ a, Al fp a → (Al fp a ∨ a ∈ fe) := fun a z => .inl z
   cases e2 : gMany hs ds S with
   | nx S' => rw [e2] at q; exact fun σ' F' H' fp' st' ev => q σ' F' H' fp' st' (ev.evo.mono fe0) fun a ha => (ev.new a ha).imp (fe0 a) id
   | exc c d S' => rw [e2] at q; exact fun σ' F' H' fp' cls dd st' ev x => q σ' F' H' fp' cls dd st' (ev.evo.mono fe0) (fun a ha => (ev.new a ha).imp (fe0 a) id) x
   | fail => rw [e2] at q; exact q
   | bk S => rw [e2] at q; exact q
   | ct S => rw [e2] at q; exact q
   | rt t A => rw [e2] at q; exact q
  ·rw [if_neg hl] at q
   exact q.elim
def sAsg (fa : DS → Out EV) (h : SV → DS → SOut) : DS → SOut := fun S => sBind (fa S) fun e S1 => match e with
 | .sv t => match h t S1 with
  | .nx S' => .nx S'
  | .exc c d S' => .exc c d S'
  | _ => .fail
 | .pk _ _ => .fail
theorem tAsg_LS {h : SV → DS → SOut} : ∀ D σ H, LS C W (sAsg fa h) D σ H → tAsg (LE C W fa) (LG C W h) D σ H := by
 intro D σ H ⟨AV, F, S, fp, st, q⟩
 refine ⟨AV, F, S, fp, st, wp_mono (sw_bind (σ := σ) q) fun e S1 T1 q1 F1 H1 fp1 v fe p1 v1 => ?_⟩
 cases e with
 | pk r p => exact q1.elim
 | sv t =>
  refine ⟨AV, F1, S1, fp1, t, fe, p1.st, v1.val, v1.dj, v1.nd, ?_⟩
  have ev := p1.evA
  have k : ∀ a, (Al fp1 a ∨ a ∈ fe) → Al fp a ∨ H a = none := fun a z => by
   rcases z with z | z
   ·exact ev.new a z
   ·exact (v1.new a z).imp (fun y => y.al) id
  dsimp only at q1
  cases e2 : h t S1 with
  | nx S' => rw [e2] at q1; exact fun σ' F' H' fp' st' e3 n => q1 σ' F' H' fp' st' ⟨ev.evo.trans e3 k, fun a ha => (n a ha).elim (k a) fun z => .inr (ev.evo.none_back z)⟩
  | exc c d S' => rw [e2] at q1; exact fun σ' F' H' fp' cls dd st' e3 n x => q1 σ' F' H' fp' cls dd st' ⟨ev.evo.trans e3 k, fun a ha => (n a ha).elim (k a) fun z => .inr (ev.evo.none_back z)⟩ x
  | fail => rw [e2] at q1; exact q1
  | bk S => rw [e2] at q1; exact q1
  | ct S => rw [e2] at q1; exact q1
  | rt t A => rw [e2] at q1; exact q1
theorem ds_asg {h : SV → DS → SOut} {tg : Expr} (ha : DE X EX W a fa) (hg : DG X EX W tg h) (hs : swapsWithSole [tg] a pos.line X.env = pure false := by rfl) (hw : swappedStores [tg] a X.env = pure none := by rfl)
  (h1 : (assignEach [tg] X.env).map (·.2) = [assign tg X.env] := by rfl) : DSt X EX W (.Assign [tg] a pos) (sAsg fa h) :=
 ps_of (ps_asg ha hg hs hw h1) (tAsg_LS (C := cnOf X EX))
theorem ds_set {i : Nat} {x : Str} {pos' : Pos} (hN : X.N.Nodup) (hi : X.N[i]? = some x) (hx : Loc X.env.scope x) (ha : DE X EX W a fa) (hs : swapsWith a (some (.Name x pos')) pos.line X.env = pure false := by rfl) (hf : X.fn x = true ∨ X.env.scope.names.lookup x = some .local := by first | exact .inl rfl | exact .inr rfl | assumption) :
  DSt X EX W (.Assign [.Name x pos'] a pos) (sAsg fa (gSet i)) := by
 refine ps_of (ps_set hN hi hx ha hs hf) fun D σ H q => ?_
 obtain ⟨AV, F, S, fp, st, q⟩ := q
 refine ⟨AV, F, S, fp, st, wp_mono (sw_bind (σ := σ) q) fun e S1 T1 q1 F1 H1 fp1 v fe p1 v1 => ?_⟩
 cases e with
 | pk r p => exact q1.elim
 | sv t =>
  have ev := p1.evA
  refine q1 (σ.set i (some v)) F1 H1 _ (p1.st.setSl v1.val v1.dj v1.nd) ⟨ev.evo, fun a ⟨r, hr⟩ => ?_⟩
  by_cases z : r = .s i
  ·rw [z, updF_same] at hr; exact (v1.new a hr).imp (fun y => y.al) id
  ·rw [updF_ne z] at hr; exact ev.new a ⟨r, hr⟩
end
end Y
set_option maxRecDepth 100000
set_option maxHeartbeats 4000000
namespace Y
open PySem PySem.Spec L2
section
variable {X : Cx} {EX : Hp → V → Str → Option PyData → Prop} {W : WX} {e a b c : Expr} {st : Stmt} {sts rest : List Stmt} {es : List Expr} {pos : Pos} {fa fb fc : DS → Out EV} {fr : DS → Out (List EV)} {f g : DS → SOut} {t : DS → Out Bool} {C : Cn}
def sWhile (t : DS → Out Bool) (f : DS → SOut) : Nat → DS → SOut
 | 0, _ => .fail
 | n + 1, S => sBind (t S) fun b S1 => if b = true then (match f S1 with
  | .nx S2 => sWhile t f n S2
  | .ct S2 => sWhile t f n S2
  | .bk S2 => .nx S2
  | o => o) else .nx S1
theorem body_of {AV : List V} {F H : Hp} {fp : Rt → List Addr} {o : SOut} {D : Ends} {N : L2.St → Hp → Prop} {again : DS → SOut}
  (q : SW C W AV F H fp (match o with | .nx S2 => again S2 | .ct S2 => again S2 | .bk S2 => .nx S2 | o => o) D)
  (hN : ∀ σ' F' H' fp' S2, StOk C AV F' H' σ' S2 fp' → EvA F H F' H' fp fp' → SW C W AV F' H' fp' (again S2) D → N σ' H') : SW C W AV F H fp o { D with nx := N, ct := N, bk := D.nx } := by
 cases o with
 | fail => exact q
 | nx S2 => exact fun σ' F' H' fp' st ev => hN σ' F' H' fp' S2 st ev (q.later ev)
 | ct S2 => exact fun σ' F' H' fp' st ev => hN σ' F' H' fp' S2 st ev (q.later ev)
 | bk S2 => exact q
 | rt t A => exact q
 | exc c d S2 => exact q
theorem ds_while {n : Nat} (hp : PassesOwn (model X.prog X.w) X.A X.env X.xe) (ht : DT X EX W c t) (hb : DSs X EX W sts f) : DSt X EX W (.While c sts [] pos) (sWhile t f n) := by
 refine ps_of (ps_while hp ht hb) fun D σ H ⟨AV, F, S, fp, st, q⟩ => ?_
 refine ⟨fun m σ H => ∃ F S fp, StOk (cnOf X EX) AV F H σ S fp ∧ SW (cnOf X EX) W AV F H fp (sWhile t f m S) D, ⟨n, F, S, fp, st, q⟩, ?_⟩
 rintro m σ H ⟨F, S, fp, st, q⟩
 cases m with
 | zero => exact q.elim
 | succ m =>
  unfold sWhile at q
  refine ⟨AV, F, S, fp, st, wp_mono (sw_bind (σ := σ) q) fun b S1 T1 q1 F1 H1 fp1 p1 => ?_⟩
  cases b with
  | true =>
   rw [if_pos rfl] at q1 ⊢
   refine ⟨fun σ' H' => ∃ F S fp, StOk (cnOf X EX) AV F H' σ' S fp ∧ SW (cnOf X EX) W AV F H' fp (sWhile t f m S) D, fun σ' H' h => ⟨m, Nat.lt_succ_self m, h⟩, AV, F1, S1, fp1, p1.st, ?_⟩
   exact body_of (q1.later p1.evA) fun σ' F' H' fp' S2 st' ev q2 => ⟨F', S2, fp', st', q2⟩
  | false =>
   rw [if_neg Bool.false_ne_true] at q1 ⊢
   exact q1.done p1.st p1.evA
def ItOk (K : PySem.W.Frag) (F : Hp) (J : It) (ds : List PyData) : Prop :=
 ∀ (i : Nat) (F1 H1 : Hp), (∀ a o, F a = some o → F1 a = some o) → (∀ a o, F1 a = some o → H1 a = some o) →
  (∀ d, ds[i]? = some d → J.go i H1 ∧ ∀ x H', J.yld i H1 x H' → ∃ F', NewV K F1 H1 F' H' x (.fz d) []) ∧ (ds[i]? = none → J.stop i H1)
def LI (C : Cn) (W : WX) (fi : DS → Out (List PyData)) : TI := fun σ H R => ∃ AV F S fp, StOk C AV F H σ S fp ∧
 Wp C W AV F H σ fp (fi S) fun ds S' T => ∀ F' H' fp' J, Post C AV F H σ S fp T S' F' H' fp' → ItOk C.K F' J ds → R J H'
abbrev DI (X : Cx) (EX : Hp → V → Str → Option PyData → Prop) (W : WX) (tg e : Expr) (fi : DS → Out (List PyData)) : Prop := PI X tg e (LI (cnOf X EX) W fi)
theorem pi_of {X : Cx} {tg e : Expr} {t t' : TI} (h : PI X tg e t) (k : ∀ σ H Q, t' σ H Q → t σ H Q) : PI X tg e t' := ⟨fun pins s σ H Q I q => h.run pins s σ H Q I (k σ H Q q)⟩
theorem itOk_list {K : PySem.W.Frag} {F : Hp} {a : Addr} {vs : List V} {ds : List PyData} (h : F a = some (.lst vs)) (r : FzAll F vs ds) : ItOk K F (Itl K a) ds := fun i F1 H1 k1 k2 =>
 ⟨fun d hd => by
  obtain ⟨v, e1, e2⟩ := fzAll_at r hd
  have hs := SqL.of (K := K) (k2 _ _ (k1 _ _ h))
  refine ⟨⟨vs, v, hs, e1⟩, fun x H' hy => ?_⟩
  obtain ⟨rfl, q⟩ := hy
  have := q vs hs
  rw [e1] at this
  cases this
  exact ⟨F1, nv_fz k2 (fz_mono k1 d v e2)⟩, fun hn => ⟨vs, SqL.of (k2 _ _ (k1 _ _ h)), by rw [fzAll_len r]; exact List.getElem?_eq_none_iff.mp hn⟩⟩
theorem itOk_tup {K : PySem.W.Frag} {F : Hp} {a : Addr} {vs : List V} {ds : List PyData} (h : TupF F a vs) (r : FzAll F vs ds) : ItOk K F (Itt K a) ds := fun i F1 H1 k1 k2 =>
 ⟨fun d hd => by
  obtain ⟨v, e1, e2⟩ := fzAll_at r hd
  have hs := TupF.sq (K := K) (h.mono k1) k2
  refine ⟨⟨vs, v, hs, e1⟩, fun x H' hy => ?_⟩
  obtain ⟨rfl, q⟩ := hy
  have := q vs hs
  rw [e1] at this
  cases this
  exact ⟨F1, nv_fz k2 (fz_mono k1 d v e2)⟩, fun hn => ⟨vs, (h.mono k1).sq k2, by rw [fzAll_len r]; exact List.getElem?_eq_none_iff.mp hn⟩⟩
def rangeL (lo : Int) (n : Nat) : List PyData := (List.range n).map fun (i : Nat) => .int (lo + (i : Int))
theorem itOk_range {K : PySem.W.Frag} {F : Hp} {lo : Int} {n : Nat} : ItOk K F (Itr lo n) (rangeL lo n) := fun i F1 H1 k1 k2 => by
 constructor
 ·intro d hd
  unfold rangeL at hd
  rw [List.getElem?_map] at hd
  cases e : (List.range n)[i]? with
  | none => rw [e] at hd; cases hd
  | some j =>
   rw [e] at hd
   cases hd
   obtain ⟨hl, e2⟩ := List.getElem?_eq_some_iff.mp e
   have : j = i := by rw [← e2]; simp
   subst this
   refine ⟨(show j < n by simpa using hl), fun x H' hy => ?_⟩
   obtain ⟨rfl, rfl⟩ := hy
   exact ⟨F1, nv_fz k2 (.int _)⟩
 ·intro hn
  unfold rangeL at hn
  have := List.getElem?_eq_none_iff.mp hn
  show n ≤ i
  simpa using this
def charsL (x : Str) : List PyData := x.cps.toList.map fun c => .str ⟨#[c]⟩
theorem itOk_str {K : PySem.W.Frag} {F : Hp} {x : Str} : ItOk K F (Its x) (charsL x) := fun i F1 H1 k1 k2 => by
 constructor
 ·intro d hd
  unfold charsL at hd
  rw [List.getElem?_map] at hd
  cases e : x.cps.toList[i]? with
  | none => rw [e] at hd; cases hd
  | some j =>
   rw [e] at hd
   cases hd
   have e' : x.cps[i]? = some j := by simpa using e
   obtain ⟨hl, _⟩ := Array.getElem?_eq_some_iff.mp e'
   refine ⟨hl, fun y H' hy => ?_⟩
   obtain ⟨rfl, c, e2, rfl⟩ := hy
   rw [e'] at e2
   cases e2
   exact ⟨F1, nv_fz k2 (.str _)⟩
 ·intro hn
  unfold charsL at hn
  have := List.getElem?_eq_none_iff.mp hn
  show x.cps.size ≤ i
  simpa using this
def sFor (h : SV → DS → SOut) (f : DS → SOut) : List PyData → DS → SOut
 | [], S => .nx S
 | d :: ds, S => match h (.fz d) S with
  | .nx S1 => (match f S1 with
   | .nx S2 => sFor h f ds S2
   | .ct S2 => sFor h f ds S2
   | .bk S2 => .nx S2
   | o => o)
  | .exc c d S1 => .exc c d S1
  | _ => .fail
def sForI (fi : DS → Out (List PyData)) (h : SV → DS → SOut) (f : DS → SOut) : DS → SOut := fun S => sBind (fi S) fun ds S1 => sFor h f ds S1
theorem sw_post_fz {AV : List V} {F H F' H' : Hp} {σ : L2.St} {S : DS} {fp : Rt → List Addr} {v : V} {d : PyData} (st : StOk C AV F H σ S fp) (n : NewV C.K F H F' H' v (.fz d) []) : StOk C AV F' H' σ S fp ∧ EvA F H F' H' fp fp ∧ Fz F' v d :=
 ⟨(n.post st).st, (n.post st).evA, own_fz n.own⟩
theorem ds_for {fi : DS → Out (List PyData)} {h : SV → DS → SOut} {tg : Expr} (hp : PassesOwn (model X.prog X.w) X.A X.env X.xe) (hc : X.calm = true) (hi : DI X EX W tg a fi) (hg : DG X EX W tg h) (hb : DSs X EX W sts f)
  (hs : ∀ x, foldedSetIterable a X.env x = pure x := by intro _; rfl) : DSt X EX W (.For tg a sts [] pos) (sForI fi h f) := by
 refine ps_of (ps_for hp hc hi hg hb hs) fun D σ H ⟨AV, F, S, fp, st, q⟩ => ?_
 refine ⟨AV, F, S, fp, st, wp_mono (sw_bind (σ := σ) q) fun ds S1 T1 q1 F1 H1 fp1 J p1 it => ?_⟩
 have q1' := q1.later p1.evA
 refine ⟨fun i m σ H => m = ds.length - i ∧ i ≤ ds.length ∧ ∃ F S fp, StOk (cnOf X EX) AV F H σ S fp ∧ (∀ a o, F1 a = some o → F a = some o) ∧ SW (cnOf X EX) W AV F H fp (sFor h f (ds.drop i) S) D, ⟨ds.length, rfl, Nat.zero_le _, F1, S1, fp1, p1.st, fun _ _ e => e, q1'⟩, ?_⟩
 rintro i m σ2 H2 ⟨rfl, hil, F2, S2, fp2, st2, k2, q2⟩
 obtain ⟨g1, g2⟩ := it i F2 H2 k2 st2.fh
 cases e : ds[i]? with
 | none =>
  left
  refine ⟨g2 e, ?_⟩
  have : ds.drop i = [] := List.drop_eq_nil_of_le (List.getElem?_eq_none_iff.mp e)
  rw [this] at q2
  exact q2.done st2 .refl
 | some d =>
  right
  obtain ⟨hl, _⟩ := List.getElem?_eq_some_iff.mp e
  obtain ⟨go, yl⟩ := g1 d e
  have hd : ds.drop i = d :: ds.drop (i + 1) := by
   have h2 := List.getElem?_eq_getElem hl
   rw [e] at h2
   rw [List.drop_eq_getElem_cons hl, Option.some.inj h2]
  rw [hd] at q2
  refine ⟨go, fun σ H => ∃ F S fp, StOk (cnOf X EX) AV F H σ S fp ∧ (∀ a o, F1 a = some o → F a = some o) ∧ SW (cnOf X EX) W AV F H fp (sFor h f (ds.drop (i + 1)) S) D, fun σ' H' hN => ⟨ds.length - (i + 1), by omega, rfl, hl, hN⟩, fun x H3 hy => ?_⟩
  obtain ⟨F3, n⟩ := yl x H3 hy
  obtain ⟨st3, ev3, fz3⟩ := sw_post_fz st2 n
  refine lg_fz st3 fz3 ?_
  unfold sFor at q2
  have q3 := q2.later ev3
  cases e4 : h (.fz d) S2 with
  | nx S4 =>
   rw [e4] at q3
   intro σ4 F4 H4 fp4 st4 ev4
   refine ⟨AV, F4, S4, fp4, st4, ?_⟩
   exact body_of (q3.later ev4) fun σ' F' H' fp' S5 st' ev q5 => ⟨F', S5, fp', st', fun a o z => ev.evo.fsub a o (ev4.evo.fsub a o (n.fk a o (k2 a o z))), q5⟩
  | exc c d S4 => rw [e4] at q3; exact q3
  | fail => rw [e4] at q3; exact q3
  | bk S => rw [e4] at q3; exact q3
  | ct S => rw [e4] at q3; exact q3
  | rt t A => rw [e4] at q3; exact q3
def iLst (fa : DS → Out EV) : DS → Out (List PyData) := fun S => (eFz fa S).bindT fun e S1 _ => match e with
 | .sv (.fz (.list ds)) => .ok ds S1 []
 | _ => .fail
def iTup (fa : DS → Out EV) : DS → Out (List PyData) := fun S => (eFz fa S).bindT fun e S1 _ => match e with
 | .sv (.fz (.tuple ds)) => .ok ds S1 []
 | _ => .fail
def iTxt (fa : DS → Out EV) : DS → Out (List PyData) := fun S => (fa S).bindT fun e S1 _ => match e with
 | .sv (.fz (.str x)) => .ok (charsL x) S1 []
 | _ => .fail
theorem di_lst {tg : Expr} (ha : DE X EX W a fa) : DI X EX W tg a (iLst fa) := by
 refine pi_of (pi_list (de_fz ha)) fun σ H Q ⟨AV, F, S, fp, st, q⟩ => ?_
 unfold iLst at q
 refine ⟨AV, F, S, fp, st, wp_mono (wp_bindT q) fun ea S1 T1 q1 F1 H1 fp1 v fe p1 v1 => ?_⟩
 have q1' := q1 F1 H1 fp1 p1.evA
 split at q1'
 ·rename_i ds
  have o : Own X.K F1 H1 (.fz (.list ds)) v fe := v1.val
  have h := own_fz o
  cases h with
  | lst g1 g2 => exact ⟨_, rfl, ⟨_, SqL.of (p1.st.fh _ _ g1)⟩, q1' F1 H1 fp1 _ (by simpa using p1) (itOk_list g1 g2)⟩
 ·exact q1'.elim
theorem di_tup {tg : Expr} (ha : DE X EX W a fa) : DI X EX W tg a (iTup fa) := by
 refine pi_of (pi_tup (de_fz ha)) fun σ H Q ⟨AV, F, S, fp, st, q⟩ => ?_
 unfold iTup at q
 refine ⟨AV, F, S, fp, st, wp_mono (wp_bindT q) fun ea S1 T1 q1 F1 H1 fp1 v fe p1 v1 => ?_⟩
 have q1' := q1 F1 H1 fp1 p1.evA
 split at q1'
 ·rename_i ds
  have o : Own X.K F1 H1 (.fz (.tuple ds)) v fe := v1.val
  have h := own_fz o
  cases h with
  | tup g1 g2 => exact ⟨_, rfl, ⟨_, g1.sq p1.st.fh⟩, q1' F1 H1 fp1 _ (by simpa using p1) (itOk_tup g1 g2)⟩
 ·exact q1'.elim
theorem di_str {tg : Expr} (ha : DE X EX W a fa) : DI X EX W tg a (iTxt fa) := by
 refine pi_of (pi_str ha) fun σ H Q ⟨AV, F, S, fp, st, q⟩ => ?_
 unfold iTxt at q
 refine ⟨AV, F, S, fp, st, wp_mono (wp_bindT q) fun ea S1 T1 q1 F1 H1 fp1 v fe p1 v1 => ?_⟩
 have q1' := q1 F1 H1 fp1 p1.evA
 split at q1'
 ·rename_i x
  have o : Own X.K F1 H1 (.fz (.str x)) v fe := v1.val
  exact ⟨x, fz_str o, q1' F1 H1 fp1 _ (by simpa using p1) itOk_str⟩
 ·exact q1'.elim
def rgOk (a b : Int) : Bool := decide (-(2 ^ 62) ≤ a) && decide (a < 2 ^ 62) && decide (-(2 ^ 62) ≤ b) && decide (b < 2 ^ 62)
theorem rgOk_ok {a b : Int} (h : rgOk a b = true) : -(2 ^ 62) ≤ a ∧ a < 2 ^ 62 ∧ -(2 ^ 62) ≤ b ∧ b < 2 ^ 62 := by
 unfold rgOk at h
 simp only [Bool.and_eq_true, decide_eq_true_eq] at h
 exact ⟨h.1.1.1, h.1.1.2, h.1.2, h.2⟩
def iRng1 (fr : DS → Out (List EV)) : DS → Out (List PyData) := fun S => (fr S).bindT fun es S1 _ => match es with
 | [.sv (.fz (.int j))] => if rgOk 0 j = true then .ok (rangeL 0 j.toNat) S1 [] else .fail
 | _ => .fail
theorem di_rng1 {tg : Expr} {p : Pos} (hg : Gl X "range") (hm : X.mg "range" = none) (ha : DA X EX W [a] fr) (hs : starEach [a] X.env = [(false, eval a X.env)] := by rfl) : DI X EX W tg (.Call (.Name "range" p) [a] [] pos) (iRng1 fr) := by
 refine pi_of (pi_range1 hg hm ha hs) fun σ H Q ⟨AV, F, S, fp, st, q⟩ => ?_
 unfold iRng1 at q
 refine ⟨AV, F, S, fp, st, wp_mono (wp_bindT q) fun es S1 T1 q1 F1 H1 fp1 vs fe p1 v1 => ?_⟩
 have q1' := q1 F1 H1 fp1 p1.evA
 split at q1'
 ·rename_i j
  split at q1'
  ·rename_i hr
   obtain ⟨v, h1, h2, _⟩ := v1.val 0 _ rfl
   have h2' : Own X.K F1 H1 (.fz (.int j)) v (fe 0) := h2
   have hl := v1.ln
   have hv : vs = [.int j] := by
    match vs, hl, h1 with
    | [w], _, h1 => simp at h1; subst h1; rw [fz_int h2']
   obtain ⟨_, _, r3, r4⟩ := rgOk_ok hr
   exact ⟨j, hv, r3, r4, q1' F1 H1 fp1 _ (by simpa using p1) itOk_range⟩
  ·exact q1'.elim
 ·exact q1'.elim
def iSeq (fa : DS → Out EV) : DS → Out (List PyData) := fun S => match eFz fa S with
 | .fail => .fail
 | .exc c d S1 => .exc c d S1
 | .ok e S1 T => match e with
  | .sv (.fz (.list ds)) => .ok ds S1 (T ++ [])
  | .sv (.fz (.tuple ds)) => .ok ds S1 (T ++ [])
  | .sv (.fz (.str x)) => .ok (charsL x) S1 (T ++ [])
  | _ => .fail
theorem di_seq {tg : Expr} (ha : DE X EX W a fa) : DI X EX W tg a (iSeq fa) := by
 refine ⟨fun pins s σ H R I ⟨AV, F, S, fp, st, q⟩ => ?_⟩
 unfold iSeq at q
 cases e : eFz fa S with
 | fail => rw [e] at q; exact q.elim
 | exc c d S1 => rw [e] at q; exact (di_lst (tg := tg) ha).run pins s σ H R I ⟨AV, F, S, fp, st, by unfold iLst; rw [e]; exact q⟩
 | ok ev S1 T =>
  rw [e] at q
  dsimp only at q
  split at q
  ·exact (di_lst (tg := tg) ha).run pins s σ H R I ⟨AV, F, S, fp, st, by unfold iLst; rw [e]; exact q⟩
  ·exact (di_tup (tg := tg) ha).run pins s σ H R I ⟨AV, F, S, fp, st, by unfold iTup; rw [e]; exact q⟩
  ·exact (di_str (tg := tg) (de_fz ha)).run pins s σ H R I ⟨AV, F, S, fp, st, by unfold iTxt; rw [e]; exact q⟩
  ·exact q.elim
end
end Y
set_option maxRecDepth 100000
set_option maxHeartbeats 4000000
namespace Y
open PySem PySem.Spec L2
def DS.kills (S : DS) : List Nat → DS
 | [] => S
 | v :: vs => (S.kills vs).kill v
def DS.rest (S2 S1 : DS) : List Nat → DS
 | [] => S2
 | v :: vs => { S2.rest S1 vs with sl := (S2.rest S1 vs).sl.set v (S1.sl.getD v none) }
theorem kills_ar {S : DS} : ∀ vs : List Nat, (S.kills vs).ar = S.ar
 | [] => rfl
 | v :: vs => kills_ar vs
theorem kills_len {S : DS} : ∀ vs : List Nat, (S.kills vs).sl.length = S.sl.length
 | [] => rfl
 | v :: vs => by unfold DS.kills DS.kill; simp [kills_len vs]
theorem kills_out {S : DS} {i : Nat} : ∀ {vs : List Nat}, i ∉ vs → (S.kills vs).sl[i]? = S.sl[i]?
 | [], _ => rfl
 | v :: vs, h => by
  have h1 : v ≠ i := fun z => h (by simp [z])
  unfold DS.kills DS.kill
  dsimp only
  rw [List.getElem?_set_ne h1]
  exact kills_out fun z => h (by simp [z])
theorem kills_in {S : DS} {i : Nat} {x : Sl} : ∀ {vs : List Nat}, i ∈ vs → (S.kills vs).sl[i]? ≠ some (some x)
 | [], h => by cases h
 | v :: vs, h => by
  unfold DS.kills DS.kill
  dsimp only
  by_cases z : v = i
  ·rw [z, List.getElem?_set]
   simp
  ·rw [List.getElem?_set_ne z]
   exact kills_in (by rcases List.mem_cons.mp h with y | y; exact absurd y.symm z; exact y)
theorem rest_ar {S2 S1 : DS} : ∀ vs : List Nat, (S2.rest S1 vs).ar = S2.ar
 | [] => rfl
 | v :: vs => rest_ar vs
theorem rest_len {S2 S1 : DS} : ∀ vs : List Nat, (S2.rest S1 vs).sl.length = S2.sl.length
 | [] => rfl
 | v :: vs => by unfold DS.rest; simp [rest_len vs]
theorem rest_out {S2 S1 : DS} {i : Nat} : ∀ {vs : List Nat}, i ∉ vs → (S2.rest S1 vs).sl[i]? = S2.sl[i]?
 | [], _ => rfl
 | v :: vs, h => by
  have h1 : v ≠ i := fun z => h (by simp [z])
  unfold DS.rest
  dsimp only
  rw [List.getElem?_set_ne h1]
  exact rest_out fun z => h (by simp [z])
theorem rest_in {S2 S1 : DS} {i : Nat} (hl : S2.sl.length = S1.sl.length) : ∀ {vs : List Nat}, i ∈ vs → (S2.rest S1 vs).sl[i]? = S1.sl[i]?
 | [], h => by cases h
 | v :: vs, h => by
  unfold DS.rest
  dsimp only
  by_cases z : v = i
  ·subst z
   by_cases hv : v < S1.sl.length
   ·rw [List.getElem?_set_self (by rw [rest_len, hl]; exact hv), List.getD_eq_getElem?_getD, List.getElem?_eq_getElem hv]
    rfl
   ·rw [List.getElem?_eq_none (by simp [rest_len, hl]; omega), List.getElem?_eq_none (by omega)]
  ·rw [List.getElem?_set_ne z]
   exact rest_in hl (by rcases List.mem_cons.mp h with y | y; exact absurd y.symm z; exact y)
theorem wipe_at {σ : L2.St} {i : Nat} : ∀ {vs : List Nat}, (wipe σ vs)[i]? = if i ∈ vs then (if i < σ.length then some none else none) else σ[i]?
 | [] => by simp [wipe]
 | v :: vs => by
  unfold wipe
  by_cases z : v = i
  ·subst z
   rw [List.getElem?_set]
   simp [wipe_length]
  ·rw [List.getElem?_set_ne z, wipe_at (vs := vs)]
   have : i ≠ v := fun y => z y.symm
   simp [this]
theorem wipe_set {σ : L2.St} {i : Nat} {x : Option V} {vs : List Nat} (h : i ∈ vs) : wipe (σ.set i x) vs = wipe σ vs := by
 apply List.ext_getElem?
 intro j
 rw [wipe_at, wipe_at]
 by_cases z : j ∈ vs
 ·simp [z]
 ·have : i ≠ j := fun y => z (by rw [← y]; exact h)
  simp only [z, if_false]
  rw [List.getElem?_set_ne this]
theorem wipe_idem {σ : L2.St} {vs : List Nat} : wipe (wipe σ vs) vs = wipe σ vs := by
 apply List.ext_getElem?
 intro j
 rw [wipe_at, wipe_at, wipe_length]
 by_cases z : j ∈ vs
 ·simp [z]
 ·simp [z]
def ownR (vs : List Nat) (r : Rt) : Bool := match r with
 | .s i => vs.contains i
 | .a _ => false
structure CT (C : Cn) (vs : List Nat) (h : PyData → DS → Option DS) (g : TG) : Prop where
 run : ∀ (AV : List V) (F H : Hp) (σ : L2.St) (S : DS) (fp : Rt → List Addr) (v : V) (d : PyData) (S' : DS) (Q : L2.St → Hp → Prop), StOk C AV F H σ S fp → Fz F v d → h d S = some S' →
  (∀ σ' fp', StOk C AV F H σ' S' fp' → wipe σ' vs = wipe σ vs → (∀ r, ownR vs r = false → fp' r = fp r ∧ S'.get r = S.get r) → (∀ r a, a ∈ fp' r → a ∈ fp r) → Q σ' H) → g v σ H Q
def cName (i : Nat) : PyData → DS → Option DS := fun d S => some (S.setSl i (.fz d))
def cTup (is : List Nat) : PyData → DS → Option DS := fun d S => match d with
 | .tuple ds => go is ds S
 | _ => none
where go : List Nat → List PyData → DS → Option DS
 | [], [], S => some S
 | i :: is, d :: ds, S => go is ds (S.setSl i (.fz d))
 | _, _, _ => none
theorem setSl_get {S : DS} {i : Nat} {t : SV} {r : Rt} (h : r ≠ .s i) : (S.setSl i t).get r = S.get r := by
 cases r with
 | s j =>
  have : i ≠ j := fun z => h (by rw [z])
  dsimp only [DS.setSl, DS.get]
  rw [List.getElem?_set_ne this]
 | a j => rfl
section
variable {C : Cn}
theorem ct_name {i : Nat} : CT C [i] (cName i) (gName i) := ⟨fun AV F H σ S fp v d S' Q st fz e k => by
 cases e
 refine k _ _ (st.setSl (own_of_fz fz) (fun _ _ _ h => by cases h) .nil) (wipe_set (by simp)) (fun r hr => ?_) fun r a ha => ?_
 ·have : r ≠ .s i := fun z => by subst z; simp [ownR] at hr
  exact ⟨updF_ne this, setSl_get this⟩
 ·by_cases z : r = .s i
  ·rw [z, updF_same] at ha; cases ha
  ·rw [updF_ne z] at ha; exact ha⟩
def gNs : List Nat → TGs
 | [] => gNil
 | i :: is => gCons (gName i) (gNs is)
theorem ct_names {vs : List Nat} : ∀ (is : List Nat), (∀ i ∈ is, i ∈ vs) → ∀ (AV : List V) (F H : Hp) (σ : L2.St) (S : DS) (fp : Rt → List Addr) (xs : List V) (ds : List PyData) (S' : DS) (Q : L2.St → Hp → Prop), StOk C AV F H σ S fp → FzAll F xs ds → cTup.go is ds S = some S' →
  (∀ σ' fp', StOk C AV F H σ' S' fp' → wipe σ' vs = wipe σ vs → (∀ r, ownR vs r = false → fp' r = fp r ∧ S'.get r = S.get r) → (∀ r a, a ∈ fp' r → a ∈ fp r) → Q σ' H) → gNs is xs σ H Q
 | [], _, AV, F, H, σ, S, fp, xs, ds, S', Q, st, fz, e, k => by
  cases ds with
  | nil => cases fz; cases e; exact ⟨rfl, k σ fp st rfl (fun _ _ => ⟨rfl, rfl⟩) fun _ _ h => h⟩
  | cons d ds => cases e
 | i :: is, hm, AV, F, H, σ, S, fp, xs, ds, S', Q, st, fz, e, k => by
  cases ds with
  | nil => cases e
  | cons d ds =>
   cases fz with
   | cons f1 f2 =>
    refine ⟨_, _, rfl, ct_names is (fun j hj => hm j (by simp [hj])) AV F H _ _ _ _ ds S' Q (st.setSl (own_of_fz f1) (fun _ _ _ h => by cases h) .nil) f2 e fun σ' fp' st' w q1 q2 => k σ' fp' st' (w.trans (wipe_set (hm i (by simp)))) (fun r hr => ?_) fun r a ha => ?_⟩
    ·have : r ≠ .s i := fun z => by
      subst z
      have := hm i (by simp)
      simp [ownR, this] at hr
     obtain ⟨a, b⟩ := q1 r hr
     exact ⟨a.trans (updF_ne this), b.trans (setSl_get this)⟩
    ·have := q2 r a ha
     by_cases z : r = .s i
     ·rw [z, updF_same] at this; cases this
     ·rw [updF_ne z] at this; exact this
theorem cgo_len : ∀ {is : List Nat} {ds : List PyData} {S S' : DS}, cTup.go is ds S = some S' → ds.length = is.length
 | [], [], _, _, _ => rfl
 | [], _ :: _, _, _, h => by cases h
 | _ :: _, [], _, _, h => by cases h
 | i :: is, d :: ds, S, S', h => by
  have h' : cTup.go is ds (S.setSl i (.fz d)) = some S' := h
  simp [cgo_len h']
theorem ct_tup {is : List Nat} : CT C is (cTup is) (gTup C.K is.length (gNs is)) := ⟨fun AV F H σ S fp v d S' Q st fz e k => by
 unfold cTup at e
 cases d with
 | tuple ds =>
  cases fz with
  | tup g1 g2 =>
   have e' : cTup.go is ds S = some S' := e
   exact ⟨_, _, rfl, g1.sq st.fh, by rw [fzAll_len g2, cgo_len e'], ct_names is (fun i h => h) AV F H σ S fp _ ds S' Q st g2 e' k⟩
 | none => cases e
 | bool _ => cases e
 | int _ => cases e
 | str _ => cases e
 | list _ => cases e
 | dict _ => cases e⟩
end
def lYes : DS → Out Bool := fun S => .ok true S []
def never : WX := fun _ _ _ _ => False
def lcGo (vs : List Nat) (h : PyData → DS → Option DS) (tt : DS → Out Bool) (fe : DS → Out EV) : List PyData → DS → List SV → Out (List SV)
 | [], S, acc => .ok acc S []
 | d :: ds, S, acc => match h d S with
  | none => .fail
  | some S1 => (tt S1).bindT fun b S2 _ => if b = true then (fe S2).bindT fun e S3 _ => match e with
    | .sv t => if acc.length < sizeLine then lcGo vs h tt fe ds (S3.kills vs) (acc ++ [t]) else .fail
    | .pk _ _ => .fail
   else lcGo vs h tt fe ds (S2.kills vs) acc
def eLc (vs : List Nat) (fi : DS → Out (List PyData)) (h : PyData → DS → Option DS) (tt : DS → Out Bool) (fe : DS → Out EV) : DS → Out EV := fun S =>
 (fi S).bindT fun ds S1 _ => match lcGo vs h tt fe ds (S1.kills vs) [] with
  | .ok ts S2 T => .ok (.sv (.lst ts)) (S2.rest S1 vs) (T.filter fun r => !ownR vs r)
  | _ => .fail
def killF (vs : List Nat) (fp : Rt → List Addr) : Rt → List Addr := fun r => if ownR vs r = true then [] else fp r
section
variable {C : Cn} {AV : List V} {F F1 H H1 : Hp} {σ : L2.St} {S S1 S2 : DS} {fp fp1 fp2 : Rt → List Addr} {T : List Rt} {vs : List Nat}
theorem killF_in {r : Rt} (h : ownR vs r = true) : killF vs fp r = [] := by unfold killF; rw [if_pos h]
theorem killF_out {r : Rt} (h : ownR vs r = false) : killF vs fp r = fp r := by unfold killF; rw [if_neg (by rw [h]; exact Bool.false_ne_true)]
theorem killF_sub {r : Rt} {a : Addr} (h : a ∈ killF vs fp r) : ownR vs r = false ∧ a ∈ fp r := by
 cases q : ownR vs r with
 | true => rw [killF_in q] at h; cases h
 | false => rw [killF_out q] at h; exact ⟨rfl, h⟩
theorem StOk.killsW (st : StOk C AV F H σ S fp) (σ' : L2.St) (hw : σ' = wipe σ vs) : StOk C AV F H σ' (S.kills vs) (killF vs fp) := by
 subst hw
 refine ⟨st.fh, fun i x hx => ?_, fun j t hj => ?_, fun r r' a h1 h2 => st.dj r r' a (killF_sub h1).2 (killF_sub h2).2, fun r => ?_, fun r a ha => st.mm r a (killF_sub ha).2, fun r a xs ha => st.mt r a xs (killF_sub ha).2, by rw [kills_len, wipe_length]; exact st.ln, by rw [kills_ar]; exact st.la⟩
 ·by_cases z : i ∈ vs
  ·exact absurd hx (kills_in z)
  ·rw [kills_out z] at hx
   obtain ⟨v, q1, q2⟩ := st.sl i x hx
   refine ⟨v, by rw [wipe_out z]; exact q1, ?_⟩
   rw [killF_out (by simp [ownR, z])]
   exact q2
 ·rw [kills_ar] at hj
  obtain ⟨v, q1, q2⟩ := st.ar j t hj
  exact ⟨v, q1, by rw [killF_out rfl]; exact q2⟩
 ·cases q : ownR vs r with
  | true => rw [killF_in q]; exact .nil
  | false => rw [killF_out q]; exact st.nd r
theorem killed_get {r : Rt} (h : ownR vs r = false) : (S.kills vs).get r = S.get r := by
 cases r with
 | s i =>
  have : i ∉ vs := by simpa [ownR] using h
  dsimp only [DS.get]
  rw [kills_out this]
 | a j =>
  dsimp only [DS.get]
  rw [kills_ar]
def restF (vs : List Nat) (fp2 fp1 : Rt → List Addr) : Rt → List Addr := fun r => if ownR vs r = true then fp1 r else fp2 r
theorem restF_in {r : Rt} (h : ownR vs r = true) : restF vs fp2 fp1 r = fp1 r := by unfold restF; rw [if_pos h]
theorem restF_out {r : Rt} (h : ownR vs r = false) : restF vs fp2 fp1 r = fp2 r := by unfold restF; rw [if_neg (by rw [h]; exact Bool.false_ne_true)]
theorem Post.block (st : StOk C AV F H σ S fp) (p : Post C AV F H (wipe σ vs) (S.kills vs) (killF vs fp) T S2 F1 H1 fp2) (k0 : ∀ r a, ownR vs r = true → a ∉ fp2 r) :
  Post C AV F H σ S fp (T.filter fun r => !ownR vs r) (S2.rest S vs) F1 H1 (restF vs fp2 fp) := by
 have ll : S2.sl.length = S.sl.length := by rw [p.st.ln, wipe_length, st.ln]
 have rgT : ∀ a, Rg T (killF vs fp) a → Rg (T.filter fun r => !ownR vs r) fp a := fun a ⟨r, h1, h2⟩ => by
  obtain ⟨q1, q2⟩ := killF_sub h2
  exact ⟨r, by simp [h1, q1], q2⟩
 have own1 : ∀ r a, ownR vs r = true → a ∈ fp r → H1 a = H a ∧ F1 a = none := fun r a hr ha => by
  obtain ⟨m1, o, m2⟩ := st.mm r a ha
  have nr : ¬ Rg T (killF vs fp) a := fun ⟨r', _, h2⟩ => by
   obtain ⟨q1, q2⟩ := killF_sub h2
   have := st.dj r r' a ha q2
   subst this
   rw [hr] at q1; cases q1
  refine ⟨(p.evo.keep a o m2 nr).trans m2.symm, ?_⟩
  cases q : F1 a with
  | none => rfl
  | some o1 =>
   rcases p.evo.fnew a o1 q m1 with z | z | ⟨xs, z⟩
   ·exact absurd z nr
   ·rw [m2] at z; cases z
   ·exact absurd z (st.mt r a xs ha)
 have cross : ∀ r r' a, ownR vs r = true → a ∈ fp r → a ∈ fp2 r' → False := fun r r' a hr h1 h2 => by
  rcases p.new r' a h2 with z | z | z
  ·obtain ⟨r'', _, h3⟩ := z
   obtain ⟨q1, q2⟩ := killF_sub h3
   have := st.dj r r'' a h1 q2
   subst this
   rw [hr] at q1; cases q1
  ·obtain ⟨_, o, m⟩ := st.mm r a h1; rw [m] at z; cases z
  ·rw [(p.same r' z).1] at h2
   obtain ⟨q1, q2⟩ := killF_sub h2
   have := st.dj r r' a h1 q2
   subst this
   rw [hr] at q1; cases q1
 refine ⟨⟨p.st.fh, fun i x hx => ?_, fun j t hj => ?_, fun r r' a h1 h2 => ?_, fun r => ?_, fun r a ha => ?_, fun r a xs ha z1 => ?_, by rw [rest_len, ll]; exact st.ln, by rw [rest_ar]; exact p.st.la⟩, p.evo.mono rgT, fun r hr => ?_, fun r a ha => ?_⟩
 ·by_cases z : i ∈ vs
  ·rw [rest_in ll z] at hx
   obtain ⟨v, q1, q2⟩ := st.sl i x hx
   have ho : ownR vs (.s i) = true := by simp [ownR, z]
   refine ⟨v, q1, ?_⟩
   rw [restF_in ho]
   cases x with
   | tr t => exact own_keep p.evo.fsub t v _ q2 fun a ha => own1 _ a ho ha
   | ar j => exact q2
   | ex c d => exact slEx_mono p.evo.fsub q2
   | ls js => exact slLs_mono p.evo.fsub q2
  ·rw [rest_out z] at hx
   obtain ⟨v, q1, q2⟩ := p.st.sl i x hx
   rw [wipe_out z] at q1
   exact ⟨v, q1, by rw [restF_out (by simp [ownR, z])]; exact q2⟩
 ·rw [rest_ar] at hj
  obtain ⟨v, q1, q2⟩ := p.st.ar j t hj
  exact ⟨v, q1, by rw [restF_out rfl]; exact q2⟩
 ·cases q : ownR vs r with
  | true =>
   rw [restF_in q] at h1
   cases q' : ownR vs r' with
   | true => rw [restF_in q'] at h2; exact st.dj r r' a h1 h2
   | false => rw [restF_out q'] at h2; exact (cross r r' a q h1 h2).elim
  | false =>
   rw [restF_out q] at h1
   cases q' : ownR vs r' with
   | true => rw [restF_in q'] at h2; exact (cross r' r a q' h2 h1).elim
   | false => rw [restF_out q'] at h2; exact p.st.dj r r' a h1 h2
 ·cases q : ownR vs r with
  | true => rw [restF_in q]; exact st.nd r
  | false => rw [restF_out q]; exact p.st.nd r
 ·cases q : ownR vs r with
  | true =>
   rw [restF_in q] at ha
   obtain ⟨h1, h2⟩ := own1 r a q ha
   obtain ⟨_, o, m⟩ := st.mm r a ha
   exact ⟨h2, o, h1.trans m⟩
  | false => rw [restF_out q] at ha; exact p.st.mm r a ha
 ·cases q : ownR vs r with
  | true =>
   rw [restF_in q] at ha
   exact st.mt r a xs ha ((own1 r a q ha).1 ▸ z1)
  | false => rw [restF_out q] at ha; exact p.st.mt r a xs ha z1
 ·cases q : ownR vs r with
  | true =>
   refine ⟨restF_in q, ?_⟩
   cases r with
   | s i =>
    have z : i ∈ vs := by simpa [ownR] using q
    dsimp only [DS.get]
    rw [rest_in ll z]
   | a j => cases q
  | false =>
   have hT : r ∉ T := fun z => hr (by simp [z, q])
   obtain ⟨a1, a2⟩ := p.same r hT
   refine ⟨(restF_out q).trans (a1.trans (killF_out q)), ?_⟩
   have : (S2.rest S vs).get r = S2.get r := by
    cases r with
    | s i =>
     have z : i ∉ vs := by simpa [ownR] using q
     dsimp only [DS.get]
     rw [rest_out z]
    | a j => dsimp only [DS.get]; rw [rest_ar]
   exact this.trans (a2.trans (killed_get q))
 ·cases q : ownR vs r with
  | true => exact .inr (.inr (by simp [q]))
  | false =>
   rw [restF_out q] at ha
   rcases p.new r a ha with z | z | z
   ·exact .inl (rgT a z)
   ·exact .inr (.inl z)
   ·exact .inr (.inr (by simp [z]))
end
end Y
set_option maxRecDepth 100000
set_option maxHeartbeats 4000000
namespace Y
open PySem PySem.Spec L2
theorem ownL_app {K : PySem.W.Frag} {F H : Hp} {t : SV} {v : V} {f : List Addr} : ∀ {ts : List SV} {vs : List V} {g : List Addr}, OwnL K F H ts vs g → Own K F H t v f → OwnL K F H (ts ++ [t]) (vs ++ [v]) (g ++ f)
 | [], vs, g, h, o => by
  unfold OwnL at h
  obtain ⟨rfl, rfl⟩ := h
  show OwnL K F H [t] [v] ([] ++ f)
  unfold OwnL
  exact ⟨v, [], f, [], rfl, by simp, o, by unfold OwnL; exact ⟨rfl, rfl⟩⟩
 | x :: xs, vs, g, h, o => by
  unfold OwnL at h
  obtain ⟨w, r, f1, g1, e1, e2, e3, e4⟩ := h
  subst e1
  subst e2
  show OwnL K F H (x :: (xs ++ [t])) (w :: (r ++ [v])) ((f1 ++ g1) ++ f)
  unfold OwnL
  exact ⟨w, r ++ [v], f1, g1 ++ f, rfl, by simp, e3, ownL_app e4 o⟩
section
variable {C : Cn} {AV : List V} {F F1 H H1 : Hp} {σ : L2.St} {S S1 : DS} {fp fp1 : Rt → List Addr} {T : List Rt}
theorem Post.again {F0 H0 : Hp} {σ0 : L2.St} {S0 : DS} {fp0 : Rt → List Addr} {vs : List Nat} (p : Post C AV F0 H0 σ0 S0 fp0 T S1 F1 H1 fp1) (st : StOk C AV F1 H1 (wipe σ vs) (S1.kills vs) (killF vs fp1)) (k0 : ∀ r, ownR vs r = true → fp0 r = [] ∧ S0.get r = none) :
  Post C AV F0 H0 (wipe σ vs) S0 fp0 T (S1.kills vs) F1 H1 (killF vs fp1) := by
 refine ⟨st, p.evo, fun r hr => ?_, fun r a ha => p.new r a (killF_sub ha).2⟩
 cases q : ownR vs r with
 | true =>
  refine ⟨(killF_in q).trans (k0 r q).1.symm, ?_⟩
  rw [(k0 r q).2]
  cases r with
  | s i =>
   have z : i ∈ vs := by simpa [ownR] using q
   cases e : (S1.kills vs).get (.s i) with
   | none => rfl
   | some t => exact absurd (get_inv e) (kills_in z)
  | a j => cases q
 | false =>
  obtain ⟨a, b⟩ := p.same r hr
  exact ⟨(killF_out q).trans a, (killed_get q).trans b⟩
theorem free_keep {F0 H0 : Hp} {σ0 : L2.St} {S0 : DS} {fp0 : Rt → List Addr} (st : StOk C AV F0 H0 σ0 S0 fp0) (p : Post C AV F0 H0 σ0 S0 fp0 T S1 F1 H1 fp1) {a : Addr} {o : HO} (h : H0 a = some o) (ht : ∀ xs, H0 a ≠ some (.tup xs)) (hf : F0 a = none) (hn : ∀ r, a ∉ fp0 r) : H1 a = H0 a ∧ F1 a = none ∧ ∀ r, a ∉ fp1 r := by
 have nr : ¬ Rg T fp0 a := fun ⟨r, _, z⟩ => hn r z
 refine ⟨(p.evo.keep a o h nr).trans h.symm, ?_, fun r z => ?_⟩
 ·cases q : F1 a with
  | none => rfl
  | some o1 =>
   rcases p.evo.fnew a o1 q hf with y | y | ⟨xs, y⟩
   ·exact absurd y nr
   ·rw [h] at y; cases y
   ·exact absurd y (ht xs)
 ·rcases p.new r a z with y | y | y
  ·exact nr y
  ·rw [h] at y; cases y
  ·rw [(p.same r y).1] at z; exact hn r z
end
section
variable {X : Cx} {EX : Hp → V → Str → Option PyData → Prop} {W : WX} {elt tg iter : Expr} {ifs : List Expr} {scope : Scope} {own : List (Str × Nat)} {pos : Pos} {fi : DS → Out (List PyData)} {h : PyData → DS → Option DS} {g : TG} {tt : DS → Out Bool} {fe : DS → Out EV} {C : Cn}
theorem bind_ok {α β : Type} {o : Out α} {f : α → DS → List Rt → Out β} {y : β} {S' : DS} {T' : List Rt} (h : o.bindT f = .ok y S' T') : ∃ x S1 T1 T2, o = .ok x S1 T1 ∧ f x S1 T1 = .ok y S' T2 ∧ T' = T1 ++ T2 := by
 unfold Out.bindT at h
 cases o with
 | fail => cases h
 | exc c d S => cases h
 | ok x S1 T1 =>
  dsimp only at h
  cases e : f x S1 T1 with
  | fail => rw [e] at h; cases h
  | exc c d S => rw [e] at h; cases h
  | ok z S2 T2 => rw [e] at h; cases h; exact ⟨x, S1, T1, T2, rfl, e, rfl⟩
theorem wp_ok {α : Type} {W : WX} {AV : List V} {F H : Hp} {σ : L2.St} {fp : Rt → List Addr} {o : Out α} {P : α → DS → List Rt → Prop} {x : α} {S : DS} {T : List Rt} (e : o = .ok x S T) (h : P x S T) : Wp C W AV F H σ fp o P := by rw [e]; exact h
theorem tLc_LE {vs : List Nat} (ct : CT C vs h g) : ∀ σ H Q, LE C W (eLc vs fi h tt fe) σ H Q → tLc (LI C W fi) g (LT C never tt) (LE C never fe) vs σ H Q := by
 intro σ H Q ⟨AV, F, S, fp, st, q⟩
 unfold eLc at q
 refine ⟨AV, F, S, fp, st, wp_mono (wp_bindT q) fun ds S1 T1 q1 F1 H1 fp1 J p1 it D hD => ?_⟩
 have q1' := q1 F1 H1 fp1 p1.evA
 cases eg : lcGo vs h tt fe ds (S1.kills vs) [] with
 | fail => rw [eg] at q1'; exact q1'.elim
 | exc c d S => rw [eg] at q1'; exact q1'.elim
 | ok ts S2 T2 =>
  rw [eg] at q1'
  have st1 := p1.st
  have fD : F1 D = none := by
   cases q : F1 D with
   | none => rfl
   | some o => rw [st1.fh D o q] at hD; cases hD
  -- the list that is filled stands beside
  have nv : NewV C.K F1 H1 F1 (upd H1 D (.lst [])) (.ref D) (.lst (fzs [])) [D] := nv_lst st1.fh hD .nil
  have stD := (nv.post st1).st
  have stb : StOk C AV F1 H1 (wipe σ vs) (S1.kills vs) (killF vs fp1) := st1.killsW (wipe σ vs) rfl
  have pb0 := nv.post stb
  have k0 : ∀ r, ownR vs r = true → killF vs fp1 r = [] ∧ (S1.kills vs).get r = none := fun r hr => ⟨killF_in hr, by
   cases r with
   | s i =>
    have z : i ∈ vs := by simpa [ownR] using hr
    cases e : (S1.kills vs).get (.s i) with
    | none => rfl
    | some t => exact absurd (get_inv e) (kills_in z)
   | a j => cases hr⟩
  have nD0 : ∀ r, D ∉ killF vs fp1 r := fun r z => by
   obtain ⟨_, o, m⟩ := st1.mm r D (killF_sub z).2
   rw [m] at hD; cases hD
  refine ⟨fun i m Hc => m = ds.length - i ∧ i ≤ ds.length ∧ ∃ Fc Sc fc T0 T3 acc ws fa, Post C AV F1 H1 (wipe σ vs) (S1.kills vs) (killF vs fp1) T0 Sc Fc Hc fc ∧ (∀ r, ownR vs r = true → fc r = [] ∧ Sc.get r = none) ∧
    Hc D = some (.lst ws) ∧ Fc D = none ∧ (∀ r, D ∉ fc r) ∧ OwnL C.K Fc Hc acc ws fa ∧ fa.Nodup ∧ D ∉ fa ∧ (∀ r a, a ∈ fc r → a ∉ fa) ∧ (∀ a ∈ fa, Rg T0 (killF vs fp1) a ∨ H1 a = none) ∧
    lcGo vs h tt fe (ds.drop i) Sc acc = .ok ts S2 T3 ∧ T2 = T0 ++ T3, ⟨ds.length, rfl, Nat.zero_le _, F1, S1.kills vs, killF vs fp1, [], T2, [], [], [], pb0, k0, upd_same, fD, nD0, by unfold OwnL; exact ⟨rfl, rfl⟩, .nil, by simp, fun _ _ _ h => (by cases h), fun _ h => (by cases h), eg, rfl⟩, ?_⟩
  rintro i m Hc ⟨rfl, hil, Fc, Sc, fc, T0, T3, acc, ws, fa, pc, kc, hDc, fDc, nDc, ol, nda, nDa, dja, newa, eq, eT⟩
  obtain ⟨g1, g2⟩ := it i Fc Hc pc.evo.fsub pc.st.fh
  cases e : ds[i]? with
  | none =>
   left
   refine ⟨g2 e, ?_⟩
   have hdr : ds.drop i = [] := List.drop_eq_nil_of_le (List.getElem?_eq_none_iff.mp e)
   rw [hdr] at eq
   cases eq
   have T2e : T2 = T0 := by rw [eT]; simp
   have pb := Post.block (S := S1) st1 (T := T0) pc fun r a hr z => by rw [(kc r hr).1] at z; cases z
   have pp := p1.trans pb
   rw [T2e] at q1'
   refine q1' Fc Hc _ (.ref D) (D :: fa) pp ⟨?_, fun r a ha hm => ?_, List.nodup_cons.mpr ⟨nDa, nda⟩, fun a ha => ?_, rfl⟩
   ·show Own C.K Fc Hc (.lst ts) (.ref D) (D :: fa)
    unfold Own
    exact ⟨D, ws, fa, rfl, rfl, hDc, fDc, ol⟩
   ·cases qo : ownR vs r with
    | true =>
     rw [restF_in qo] at ha
     have hs := st1.mm r a ha
     rcases List.mem_cons.mp hm with z | z
     ·rw [z] at hs; obtain ⟨_, o, m⟩ := hs; rw [m] at hD; cases hD
     ·rcases newa a z with y | y
      ·obtain ⟨r', _, y2⟩ := y
       obtain ⟨y3, y4⟩ := killF_sub y2
       have := st1.dj r r' a ha y4
       subst this
       rw [qo] at y3; cases y3
      ·obtain ⟨_, o, m⟩ := hs; rw [m] at y; cases y
    | false =>
     rw [restF_out qo] at ha
     rcases List.mem_cons.mp hm with z | z
     ·rw [z] at ha; exact nDc r ha
     ·exact dja r a ha z
   ·rcases List.mem_cons.mp ha with z | z
    ·rw [z]
     exact .inr (p1.evo.none_back hD)
    ·rcases newa a z with y | y
     ·obtain ⟨r', y1, y2⟩ := y
      obtain ⟨y3, y4⟩ := killF_sub y2
      have := p1.rg (T2 := T0.filter fun r => !ownR vs r) ⟨r', by simp [y1, y3], y4⟩
      simpa using this
     ·exact .inr (p1.evo.none_back y)
  | some d =>
   right
   obtain ⟨hl, _⟩ := List.getElem?_eq_some_iff.mp e
   obtain ⟨go, yl⟩ := g1 d e
   have hd : ds.drop i = d :: ds.drop (i + 1) := by
    have h2 := List.getElem?_eq_getElem hl
    rw [e] at h2
    rw [List.drop_eq_getElem_cons hl, Option.some.inj h2]
   rw [hd] at eq
   unfold lcGo at eq
   cases eh : h d Sc with
   | none => rw [eh] at eq; cases eq
   | some S3 =>
    rw [eh] at eq
    dsimp only at eq
    obtain ⟨b, S4, T4, T5, et, ek, eT5⟩ := bind_ok eq
    refine ⟨go, fun H' => ∃ Fc Sc fc T0 T3 acc ws fa, Post C AV F1 H1 (wipe σ vs) (S1.kills vs) (killF vs fp1) T0 Sc Fc H' fc ∧ (∀ r, ownR vs r = true → fc r = [] ∧ Sc.get r = none) ∧
     H' D = some (.lst ws) ∧ Fc D = none ∧ (∀ r, D ∉ fc r) ∧ OwnL C.K Fc H' acc ws fa ∧ fa.Nodup ∧ D ∉ fa ∧ (∀ r a, a ∈ fc r → a ∉ fa) ∧ (∀ a ∈ fa, Rg T0 (killF vs fp1) a ∨ H1 a = none) ∧
     lcGo vs h tt fe (ds.drop (i + 1)) Sc acc = .ok ts S2 T3 ∧ T2 = T0 ++ T3, fun H' hN => ⟨ds.length - (i + 1), by omega, rfl, hl, hN⟩, fun x H3 hy => ?_⟩
    obtain ⟨F3, n3⟩ := yl x H3 hy
    have pn := n3.post pc.st
    refine ct.run AV F3 H3 (wipe σ vs) Sc fc x d S3 _ pn.st (own_fz n3.own) eh fun σ3 f3 st3 w3' same3 sub3 => ?_
    have w3 := w3'.trans wipe_idem
    refine ⟨w3.trans rfl, ?_⟩
    have p03 := pc.trans pn
    -- the post from the block's beginning, the own names beside
    have own3 : ∀ r, ownR vs r = true → f3 r = [] := fun r hr => by
     cases z : f3 r with
     | nil => rfl
     | cons a l =>
      have := sub3 r a (by rw [z]; simp)
      rw [(kc r hr).1] at this; cases this
    have keepA : ∀ {F5 H5 : Hp} {S5 : DS} {f5 : Rt → List Addr} {T5 : List Rt}, Post C AV F3 H3 σ3 S3 f3 T5 S5 F5 H5 f5 → H5 D = some (.lst ws) ∧ F5 D = none ∧ (∀ r, D ∉ f5 r) ∧ OwnL C.K F5 H5 acc ws fa ∧ ∀ r a, a ∈ f5 r → a ∉ fa := fun {F5 H5 S5 f5 T5} p5 => by
     have hD3 := free_keep pc.st pn hDc (fun xs e => by rw [hDc] at e; cases e) fDc nDc
     have nD3 : ∀ r, D ∉ f3 r := fun r z => nDc r (sub3 r D z)
     obtain ⟨a1, a2, a3⟩ := free_keep st3 p5 (o := .lst ws) (hD3.1.trans hDc) (fun xs e => by rw [hD3.1, hDc] at e; cases e) hD3.2.1 nD3
     have each : ∀ a ∈ fa, (H5 a = Hc a ∧ F5 a = none) ∧ ∀ r, a ∉ f5 r := fun a ha => by
      obtain ⟨m1, o, m2⟩ := ownL_fp acc ws fa ol a ha
      obtain ⟨b1, b2, b3⟩ := free_keep pc.st pn m2 (ownL_nt acc ws fa ol a ha) m1 fun r z => dja r a z ha
      obtain ⟨c1, c2, c3⟩ := free_keep st3 p5 (o := o) (b1.trans m2) (fun xs e => ownL_nt acc ws fa ol a ha xs (b1 ▸ e)) b2 fun r z => dja r a (sub3 r a z) ha
      exact ⟨⟨c1.trans b1, c2⟩, c3⟩
     exact ⟨a1.trans (hD3.1.trans hDc), a2, a3, ownL_keep (fun a o z => p5.evo.fsub a o (n3.fk a o z)) acc ws fa ol fun a ha => (each a ha).1, fun r a hr ha => (each a ha).2 r hr⟩
    have rg5 : ∀ (T5 : List Rt) (a : Addr), Rg T5 f3 a → Rg (T0 ++ T5) (killF vs fp1) a ∨ H1 a = none := fun T5 a ⟨r, h1, h2⟩ => pc.rg (T2 := T5) ⟨r, h1, sub3 r a h2⟩
    -- carried to the next turn
    have pnext : ∀ {F5 H5 : Hp} {S5 : DS} {f5 : Rt → List Addr} {T5 : List Rt}, Post C AV F3 H3 σ3 S3 f3 T5 S5 F5 H5 f5 → Post C AV F1 H1 (wipe σ vs) (S1.kills vs) (killF vs fp1) (T0 ++ T5) (S5.kills vs) F5 H5 (killF vs f5) := fun {F5 H5 S5 f5 T5} p5 => by
     have st5 : StOk C AV F5 H5 (wipe σ vs) (S5.kills vs) (killF vs f5) := p5.st.killsW (wipe σ vs) w3.symm
     refine ⟨st5, (p03.evo.mono fun a z => ?_).trans p5.evo (rg5 T5), fun r hr => ?_, fun r a ha => ?_⟩
     ·have : Rg (T0 ++ []) (killF vs fp1) a := z
      rw [List.append_nil] at this
      exact Rg.app.mpr (.inl this)
     ·have h0 : r ∉ T0 := fun z => hr (by simp [z])
      have h5 : r ∉ T5 := fun z => hr (by simp [z])
      cases qo : ownR vs r with
      | true =>
       refine ⟨(killF_in qo).trans (k0 r qo).1.symm, ?_⟩
       rw [(k0 r qo).2]
       cases r with
       | s j =>
        have z : j ∈ vs := by simpa [ownR] using qo
        cases e9 : (S5.kills vs).get (.s j) with
        | none => rfl
        | some t => exact absurd (get_inv e9) (kills_in z)
       | a j => cases qo
      | false =>
       obtain ⟨a1, a2⟩ := p5.same r h5
       obtain ⟨b1, b2⟩ := same3 r qo
       obtain ⟨c1, c2⟩ := pc.same r h0
       exact ⟨(killF_out qo).trans (a1.trans (b1.trans c1)), (killed_get qo).trans (a2.trans (b2.trans c2))⟩
     ·obtain ⟨qo, ha'⟩ := killF_sub ha
      rcases p5.new r a ha' with z | z | z
      ·rcases rg5 T5 a z with y | y
       ·exact .inl y
       ·exact .inr (.inl y)
      ·exact .inr (.inl (p03.evo.none_back z))
      ·have h3 : a ∈ f3 r := by rw [← (p5.same r z).1]; exact ha'
       have hc := sub3 r a h3
       rcases pc.new r a hc with y | y | y
       ·exact .inl (Rg.app.mpr (.inl y))
       ·exact .inr (.inl y)
       ·exact .inr (.inr (by simp [y, z]))
    refine ⟨AV, F3, S3, f3, st3, wp_ok et fun F4 H4 f4 p4 => ?_⟩
    cases b with
    | false =>
     rw [if_neg Bool.false_ne_true] at ek ⊢
     obtain ⟨a1, a2, a3, a4, a5⟩ := keepA p4
     refine ⟨F4, S4.kills vs, killF vs f4, T0 ++ T4, T5, acc, ws, fa, pnext p4, fun r hr => ⟨killF_in hr, ?_⟩, a1, a2, fun r z => a3 r (killF_sub z).2, a4, nda, nDa, fun r a z => a5 r a (killF_sub z).2, fun a ha => ?_, ek, by rw [eT, eT5]; simp⟩
     ·cases r with
      | s j =>
       have z : j ∈ vs := by simpa [ownR] using hr
       cases e9 : (S4.kills vs).get (.s j) with
       | none => rfl
       | some t => exact absurd (get_inv e9) (kills_in z)
      | a j => cases hr
     ·exact (newa a ha).imp (fun z => Rg.app.mpr (.inl z)) id
    | true =>
     rw [if_pos rfl] at ek ⊢
     obtain ⟨ev, S5, T6, T7, ee, ek2, eT7⟩ := bind_ok ek
     cases ev with
     | pk r p => cases ek2
     | sv t =>
      dsimp only at ek2
      split at ek2
      ·rename_i hsz
       refine ⟨AV, F4, S4, f4, p4.st, wp_ok ee fun F5 H5 f5 y fy p5 v5 => ?_⟩
       have p35 := p4.trans p5
       obtain ⟨a1, a2, a3, a4, a5⟩ := keepA p35
       obtain ⟨a1', a2', a3', a4', a5'⟩ := keepA p4
       have hlen : ws.length = acc.length := (ownL_len ol).symm
       refine ⟨ws, a1, by rw [hlen]; exact hsz, F5, S5.kills vs, killF vs f5, T0 ++ (T4 ++ T6), T7, acc ++ [t], ws ++ [y], fa ++ fy, ?_⟩
       have oy : Own C.K F5 H5 t y fy := v5.val
       -- the new item's place
       have yfree : ∀ a ∈ fy, a ∉ fa ∧ a ≠ D := fun a ha => by
        rcases v5.new a ha with z | z
        ·obtain ⟨r, _, z2⟩ := z
         refine ⟨a5' r a z2, fun q => ?_⟩
         rw [q] at z2
         exact a3' r z2
        ·refine ⟨fun q => ?_, fun q => ?_⟩
         ·obtain ⟨_, o, m⟩ := ownL_fp acc ws fa a4' a q
          rw [m] at z; cases z
         ·rw [q, a1'] at z; cases z
       have upk : ∀ a, a ≠ D → upd H5 D (.lst (ws ++ [y])) a = H5 a := fun a ha => upd_ne ha
       have pn5 := pnext p35
       -- behind the append: D alone is changed, which is no root's
       have st6 : StOk C AV F5 (upd H5 D (.lst (ws ++ [y]))) (wipe σ vs) (S5.kills vs) (killF vs f5) := by
        have s5 := pn5.st
        have kp : ∀ r a, a ∈ killF vs f5 r → upd H5 D (.lst (ws ++ [y])) a = H5 a ∧ F5 a = none := fun r a ha => ⟨upk a fun q => by rw [q] at ha; exact a3 r (killF_sub ha).2, (s5.mm r a ha).1⟩
        refine ⟨fun a o z => ?_, fun i x hx => ?_, fun j t1 hj => ?_, s5.dj, s5.nd, fun r a ha => ?_, fun r a xs ha z => s5.mt r a xs ha ((kp r a ha).1 ▸ z), s5.ln, s5.la⟩
        ·have : a ≠ D := fun q => by rw [q, a2] at z; cases z
         rw [upk a this]
         exact s5.fh a o z
        ·obtain ⟨v, q1, q2⟩ := s5.sl i x hx
         refine ⟨v, q1, ?_⟩
         cases x with
         | tr t1 => exact own_keep (fun _ _ z => z) t1 v _ q2 (kp _)
         | ar j => exact q2
         | ex c d => exact q2
         | ls js => exact q2
        ·obtain ⟨v, q1, q2⟩ := s5.ar j t1 hj
         exact ⟨v, q1, own_keep (fun _ _ z => z) t1 v _ q2 (kp _)⟩
        ·obtain ⟨m1, o, m2⟩ := s5.mm r a ha
         exact ⟨m1, o, (kp r a ha).1.trans m2⟩
       refine ⟨⟨st6, ⟨pn5.evo.fsub, fun a o z nr => ?_, pn5.evo.fnew, fun a o z => ?_⟩, pn5.same, pn5.new⟩, fun r hr => ⟨killF_in hr, ?_⟩, upd_same, a2, fun r z => a3 r (killF_sub z).2, ?_, ?_, ?_, fun r a ha hm => ?_, fun a ha => ?_, ek2, by rw [eT, eT5, eT7]; simp⟩
       ·have hz := pn5.evo.keep a o z nr
        rw [upk a fun q => by rw [q, hD] at z; cases z]
        exact hz
       ·obtain ⟨o', z'⟩ := pn5.evo.dom a o z
        by_cases q : a = D
        ·exact ⟨_, by rw [q]; exact upd_same⟩
        ·exact ⟨o', by rw [upk a q]; exact z'⟩
       ·cases r with
        | s j =>
         have z : j ∈ vs := by simpa [ownR] using hr
         cases e9 : (S5.kills vs).get (.s j) with
         | none => rfl
         | some t => exact absurd (get_inv e9) (kills_in z)
        | a j => cases hr
       ·refine ownL_app (ownL_keep (fun _ _ z => z) acc ws fa a4 fun a ha => ⟨upk a fun q => nDa (by rw [← q]; exact ha), (ownL_fp acc ws fa a4 a ha).1⟩) (own_keep (fun _ _ z => z) t y fy oy fun a ha => ⟨upk a (yfree a ha).2, (own_fp t y fy oy a ha).1⟩)
       ·exact List.nodup_append.mpr ⟨nda, v5.nd, fun a ha b hb q => (yfree b hb).1 (by rw [← q]; exact ha)⟩
       ·intro z
        rcases List.mem_append.mp z with z | z
        ·exact nDa z
        ·exact (yfree D z).2 rfl
       ·have ha' := (killF_sub ha).2
        rcases List.mem_append.mp hm with z | z
        ·exact a5 r a ha' z
        ·exact v5.dj r a ha' z
       ·rcases List.mem_append.mp ha with z | z
        ·exact (newa a z).imp (fun q => Rg.app.mpr (.inl q)) id
        ·rcases v5.new a z with q | q
         ·rcases p4.rg q with w | w
          ·exact rg5 _ a w
          ·exact .inr (p03.evo.none_back w)
         ·exact .inr (p03.evo.none_back (p4.evo.none_back q))
      ·cases ek2
end
end Y
set_option maxRecDepth 100000
set_option maxHeartbeats 4000000
namespace Y
open PySem PySem.Spec L2
section
variable {X : Cx} {EX : Hp → V → Str → Option PyData → Prop} {W : WX} {e a b c elt tg iter : Expr} {es ifs : List Expr} {scope : Scope} {own : List (Str × Nat)} {pos spos : Pos} {fi : DS → Out (List PyData)} {h : PyData → DS → Option DS} {g : TG} {tt : DS → Out Bool} {fe fa fb : DS → Out EV} {fr : DS → Out (List EV)} {C : Cn}
theorem takes_never {X : Cx} : L2N.Takes X never := fun u s' ⟨_, _, _, _, _, _, _, _, _, _, _, _, _, _, _, _, w⟩ => w.elim
theorem lYes_LT : ∀ σ H Q, LT C W lYes σ H Q → tYes σ H Q := fun σ H Q ⟨AV, F, S, fp, st, q⟩ => q F H fp (.refl st)
theorem dts_nil {X : Cx} : PTs X [] (LT (cnOf X EX) W lYes) := ⟨fun pins s σ H Q I q => pts_nil.run pins s σ H Q I (lYes_LT (C := cnOf X EX) σ H Q q)⟩
theorem dts_one {X : Cx} {c : Expr} {t : DS → Out Bool} (h : DT X EX W c t) : PTs X [c] (LT (cnOf X EX) W t) := pts_one h
theorem de_lc (ct : CT (cnOf X EX) (own.map (·.2)) h g) (hc : X.calm = true) (hN : X.N.Nodup) (hi : DI X EX W tg iter fi) (ok : BlkOk X.N X.env.scope scope own)
  (hg : ∀ (s : Shared) (H : Hp) (C : Addr) (cl : List (Str × Addr)) (fp : List Addr), PG (X.blk s H scope (compEnvC scope cl C X.env) fp) tg g)
  (ht : ∀ (s : Shared) (H : Hp) (C : Addr) (cl : List (Str × Addr)) (fp : List Addr), PTs (X.blk s H scope (compEnvC scope cl C X.env) fp) ifs (LT (cnOf X EX) never tt))
  (he : ∀ (s : Shared) (H : Hp) (C : Addr) (cl : List (Str × Addr)) (fp : List Addr), DE (X.blk s H scope (compEnvC scope cl C X.env) fp) EX never elt fe)
  (hs : ∀ x, foldedSetIterable iter X.env x = pure x := by intro _; rfl) : DE X EX W (.ListComp elt [⟨tg, iter, ifs, 0⟩] scope pos) (eLc (own.map (·.2)) fi h tt fe) :=
 pe_of (pe_lc hc hN hi ok hg ht he hs) (tLc_LE (C := cnOf X EX) ct)
theorem ds_setLc {i : Nat} {y : Str} {py : Pos} (ct : CT (cnOf X EX) (own.map (·.2)) h g) (hc : X.calm = true) (hN : X.N.Nodup) (hy : X.N[i]? = some y) (hyl : X.env.scope.names.lookup y = some .local)
  (hsw : swapsWith (.ListComp elt [⟨tg, iter, ifs, 0⟩] scope pos) (some (.Name y py)) spos.line X.env = pure true) (hi : DI X EX W tg iter fi) (ok : BlkOk X.N X.env.scope scope own)
  (hg : ∀ (s : Shared) (H : Hp) (C : Addr) (cl : List (Str × Addr)) (fp : List Addr), PG (X.blk s H scope (compEnvC scope cl C X.env) fp) tg g)
  (ht : ∀ (s : Shared) (H : Hp) (C : Addr) (cl : List (Str × Addr)) (fp : List Addr), PTs (X.blk s H scope (compEnvC scope cl C X.env) fp) ifs (LT (cnOf X EX) never tt))
  (he : ∀ (s : Shared) (H : Hp) (C : Addr) (cl : List (Str × Addr)) (fp : List Addr), DE (X.blk s H scope (compEnvC scope cl C X.env) fp) EX never elt fe)
  (hs : ∀ x, foldedSetIterable iter X.env x = pure x := by intro _; rfl) : DSt X EX W (.Assign [.Name y py] (.ListComp elt [⟨tg, iter, ifs, 0⟩] scope pos) spos) (sAsg (eLc (own.map (·.2)) fi h tt fe) (gSet i)) := by
 refine ps_of (ps_setLc (te := LE (cnOf X EX) never fe) hc hN hy hyl hsw hi ok hg ht he hs) fun D σ H ⟨AV, F, S, fp, st, q⟩ => ?_
 have key : LE (cnOf X EX) W (eLc (own.map (·.2)) fi h tt fe) σ H fun x H1 => gName i x σ H1 D.nx := by
  refine ⟨AV, F, S, fp, st, wp_mono (sw_bind (σ := σ) q) fun e S1 T1 q1 F1 H1 fp1 v fe p1 v1 => ?_⟩
  cases e with
  | pk r p => exact q1.elim
  | sv t =>
   have ev := p1.evA
   refine q1 (σ.set i (some v)) F1 H1 _ (p1.st.setSl v1.val v1.dj v1.nd) ⟨ev.evo, fun a ⟨r, hr⟩ => ?_⟩
   by_cases z : r = .s i
   ·rw [z, updF_same] at hr; exact (v1.new a hr).imp (fun y => y.al) id
   ·rw [updF_ne z] at hr; exact ev.new a ⟨r, hr⟩
 exact tLc_LE (C := cnOf X EX) ct σ H _ key
def fzEs : List EV → Option (List PyData)
 | [] => some []
 | .sv (.fz d) :: es => match fzEs es with
  | some ds => some (d :: ds)
  | none => none
 | _ :: _ => none
def svEs : List EV → Option (List SV)
 | [] => some []
 | .sv t :: es => match svEs es with
  | some ts => some (t :: ts)
  | none => none
 | _ :: _ => none
def eTup (fr : DS → Out (List EV)) : DS → Out EV := fun S => (fr S).bindT fun es S1 _ => match fzEs es with
 | some ds => if ds.length ≤ sizeLine then .ok (.sv (.fz (.tuple ds))) S1 [] else .fail
 | none => .fail
def eLst (fr : DS → Out (List EV)) : DS → Out EV := fun S => (fr S).bindT fun es S1 _ => match svEs es with
 | some ts => if ts.length ≤ sizeLine then .ok (.sv (.lst ts)) S1 [] else .fail
 | none => .fail
theorem fzEs_all {AV : List V} {F H : Hp} {σ : L2.St} {S : DS} : ∀ {es : List EV} {vs : List V} {fe : Nat → List Addr} {ds : List PyData}, vs.length = es.length →
  (∀ (k : Nat) (e : EV), es[k]? = some e → ∃ v, vs[k]? = some v ∧ EOk C AV F H σ v e (fe k) ∧ (e.tree S).isSome = true) → fzEs es = some ds → FzAll F vs ds
 | [], [], fe, ds, _, _, e => by cases e; exact .nil
 | [], _ :: _, _, _, h, _, _ => by simp at h
 | _ :: _, [], _, _, h, _, _ => by simp at h
 | e :: es, v :: vs, fe, ds, hl, h, q => by
  cases e with
  | pk r p => cases q
  | sv t =>
   cases t with
   | fz d =>
    unfold fzEs at q
    cases e2 : fzEs es with
    | none => rw [e2] at q; cases q
    | some ds' =>
     rw [e2] at q
     cases q
     obtain ⟨v', h1, h2, _⟩ := h 0 _ rfl
     simp at h1
     subst h1
     have o : Own C.K F H (.fz d) v (fe 0) := h2
     exact .cons (own_fz o) (fzEs_all (fe := fun k => fe (k + 1)) (by simpa using hl) (fun k e' he' => by
      have := h (k + 1) e' (by simpa using he')
      simpa using this) e2)
   | ro d => cases q
   | lst l => cases q
   | dic b l => cases q
   | fd b l => cases q
   | tb _ _ => cases q
   | gone => cases q
   | nd _ => cases q
   | ob _ _ _ => cases q
   | nq _ => cases q
   | ne _ => cases q
theorem de_tup {k : Nat} (ha : DA X EX W es fr) : DE X EX W (.Tuple es k pos) (eTup fr) := by
 refine pe_of (pe_tupN ha) fun σ H Q ⟨AV, F, S, fp, st, q⟩ => ?_
 unfold eTup at q
 refine ⟨AV, F, S, fp, st, wp_mono (wp_bindT q) fun es S1 T1 q1 F1 H1 fp1 vs fe p1 v1 => ?_⟩
 have q1' := q1 F1 H1 fp1 p1.evA
 cases e1 : fzEs es with
 | none => rw [e1] at q1'; exact q1'.elim
 | some ds =>
  rw [e1] at q1'
  dsimp only at q1'
  split at q1'
  ·rename_i hl
   have fz := fzEs_all v1.ln v1.val e1
   refine ⟨by rw [fzAll_len fz]; exact hl, fun p o hp ho => ?_⟩
   have n := nv_tup (K := X.K) p1.st.fh hp ho fz
   have v3 := n.vp (C := cnOf X EX) p1.st
   exact q1' _ _ fp1 _ _ (p1.trans (n.post p1.st)) ⟨v3.val, v3.dj, v3.nd, fun a ha => .inr (p1.evo.none_back (n.new a ha)), v3.tr⟩
  ·exact q1'.elim
def flatF (g : Nat → List Addr) : Nat → List Addr
 | 0 => []
 | n + 1 => g 0 ++ flatF (fun k => g (k + 1)) n
theorem flatF_mem {a : Addr} : ∀ {n : Nat} {g : Nat → List Addr}, a ∈ flatF g n → ∃ k, k < n ∧ a ∈ g k
 | 0, g, h => by cases h
 | n + 1, g, h => by
  rcases List.mem_append.mp h with h | h
  ·exact ⟨0, Nat.succ_pos _, h⟩
  ·obtain ⟨k, h1, h2⟩ := flatF_mem h
   exact ⟨k + 1, Nat.succ_lt_succ h1, h2⟩
theorem flatF_nd : ∀ {n : Nat} {g : Nat → List Addr}, (∀ k, (g k).Nodup) → (∀ j k a, a ∈ g j → a ∈ g k → j = k) → (flatF g n).Nodup
 | 0, g, _, _ => .nil
 | n + 1, g, h1, h2 => List.nodup_append.mpr ⟨h1 0, flatF_nd (fun k => h1 (k + 1)) fun j k a x y => by have := h2 _ _ a x y; omega, fun a ha b hb e => by
   subst e
   obtain ⟨k, _, hk⟩ := flatF_mem hb
   have := h2 0 (k + 1) a ha hk
   omega⟩
theorem svEs_all {AV : List V} {F H : Hp} {σ : L2.St} {S : DS} : ∀ {es : List EV} {vs : List V} {fe : Nat → List Addr} {ts : List SV}, vs.length = es.length →
  (∀ (k : Nat) (e : EV), es[k]? = some e → ∃ v, vs[k]? = some v ∧ EOk C AV F H σ v e (fe k) ∧ (e.tree S).isSome = true) → svEs es = some ts → OwnL C.K F H ts vs (flatF fe es.length)
 | [], [], fe, ts, _, _, e => by cases e; unfold OwnL; exact ⟨rfl, rfl⟩
 | [], _ :: _, _, _, h, _, _ => by simp at h
 | _ :: _, [], _, _, h, _, _ => by simp at h
 | e :: es, v :: vs, fe, ts, hl, h, q => by
  cases e with
  | pk r p => cases q
  | sv t =>
   unfold svEs at q
   cases e2 : svEs es with
   | none => rw [e2] at q; cases q
   | some ts' =>
    rw [e2] at q
    cases q
    obtain ⟨v', h1, h2, _⟩ := h 0 _ rfl
    simp at h1
    subst h1
    unfold OwnL
    exact ⟨v, vs, fe 0, flatF (fun k => fe (k + 1)) es.length, rfl, rfl, h2, svEs_all (fe := fun k => fe (k + 1)) (by simpa using hl) (fun k e' he' => by
     have := h (k + 1) e' (by simpa using he')
     simpa using this) e2⟩
theorem de_lst (ha : DA X EX W es fr) : DE X EX W (.List es pos) (eLst fr) := by
 refine pe_of (pe_lst ha) fun σ H Q ⟨AV, F, S, fp, st, q⟩ => ?_
 unfold eLst at q
 refine ⟨AV, F, S, fp, st, wp_mono (wp_bindT q) fun es S1 T1 q1 F1 H1 fp1 vs fe p1 v1 => ?_⟩
 have q1' := q1 F1 H1 fp1 p1.evA
 cases e1 : svEs es with
 | none => rw [e1] at q1'; exact q1'.elim
 | some ts =>
  rw [e1] at q1'
  dsimp only at q1'
  split at q1'
  ·rename_i hl
   have ol := svEs_all v1.ln v1.val e1
   refine ⟨by rw [← ownL_len ol]; exact hl, fun p hp => ?_⟩
   have fp0 : F1 p = none := by
    cases z : F1 p with
    | none => rfl
    | some o => rw [p1.st.fh p o z] at hp; cases hp
   have n := nv_lst (K := X.K) (F := F1) (vs := vs) (ds := []) p1.st.fh hp
   have keep : ∀ a o, H1 a = some o → upd H1 p (.lst vs) a = some o := fun a o z => upd_keep hp z
   have same : ∀ a o, H1 a = some o → upd H1 p (.lst vs) a = H1 a := fun a o z => (keep a o z).trans z.symm
   have st3 : StOk (cnOf X EX) AV F1 (upd H1 p (.lst vs)) σ S1 fp1 := by
    have s1 := p1.st
    have kp : ∀ r a, a ∈ fp1 r → upd H1 p (.lst vs) a = H1 a ∧ F1 a = none := fun r a ha => by
     obtain ⟨m1, o, m2⟩ := s1.mm r a ha
     exact ⟨same a o m2, m1⟩
    refine ⟨fun a o z => keep a o (s1.fh a o z), fun i x hx => ?_, fun j t1 hj => ?_, s1.dj, s1.nd, fun r a ha => ?_, fun r a xs ha z => s1.mt r a xs ha ((kp r a ha).1 ▸ z), s1.ln, s1.la⟩
    ·obtain ⟨v, q1, q2⟩ := s1.sl i x hx
     refine ⟨v, q1, ?_⟩
     cases x with
     | tr t1 => exact own_keep (fun _ _ z => z) t1 v _ q2 (kp _)
     | ar j => exact q2
     | ex c d => exact q2
     | ls js => exact q2
    ·obtain ⟨v, q1, q2⟩ := s1.ar j t1 hj
     exact ⟨v, q1, own_keep (fun _ _ z => z) t1 v _ q2 (kp _)⟩
    ·obtain ⟨m1, o, m2⟩ := s1.mm r a ha
     exact ⟨m1, o, keep a o m2⟩
   have p3 : Post (cnOf X EX) AV F1 H1 σ S1 fp1 [] S1 F1 (upd H1 p (.lst vs)) fp1 := ⟨st3, ⟨fun _ _ z => z, fun a o z _ => keep a o z, fun a o z z' => (by rw [z] at z'; cases z'), fun a o z => ⟨o, keep a o z⟩⟩, fun _ _ => ⟨rfl, rfl⟩, fun _ _ _ => .inr (.inr (by simp))⟩
   have memH : ∀ a ∈ flatF fe es.length, ∃ o, H1 a = some o := fun a ha => (ownL_fp ts vs _ ol a ha).2
   refine q1' F1 _ fp1 (.ref p) (p :: flatF fe es.length) (p1.trans p3) ⟨?_, fun r a ha hm => ?_, List.nodup_cons.mpr ⟨fun z => ?_, flatF_nd v1.nd v1.dd⟩, fun a ha => ?_, rfl⟩
   ·show Own X.K F1 _ (.lst ts) (.ref p) _
    unfold Own
    exact ⟨p, vs, _, rfl, rfl, upd_same, fp0, ownL_keep (fun _ _ z => z) ts vs _ ol fun a ha => by
     obtain ⟨o, ho⟩ := memH a ha
     exact ⟨same a o ho, (ownL_fp ts vs _ ol a ha).1⟩⟩
   ·rcases List.mem_cons.mp hm with z | z
    ·obtain ⟨_, o, m⟩ := p1.st.mm r a ha
     rw [z] at m; rw [m] at hp; cases hp
    ·obtain ⟨k, _, hk⟩ := flatF_mem z
     exact v1.dj r a k ha hk
   ·obtain ⟨o, ho⟩ := memH p z
    rw [ho] at hp; cases hp
   ·rcases List.mem_cons.mp ha with z | z
    ·rw [z]; exact .inr (p1.evo.none_back hp)
    ·obtain ⟨k, _, hk⟩ := flatF_mem z
     have := v1.new k a hk
     simpa using this
  ·exact q1'.elim
theorem de_fn {x : Str} {p : Pos} {k : Nat} {f : Addr} {fd : FuncData} {ps : List Str} {m : List SV → FOut} (Fn : FnOk X.prog X.w X.K X.mg X.base (L2N.CX X.prog X.w) k f fd ps (spOf X.K X.mg m)) (hr : Room k X.A) (hg : Gl X x) (hm : X.mg x = some (.ref f)) (hk : PySem.W.keepIn X.K (.ref f) = true) (hb : Binds X.K fd ps [])
  (tk : L2N.Takes X W) (ha : DA X EX W (e :: es) fr) (hdb : (x == ("__debug__" : Str)) = false := by decide)
  (he : starEach (e :: es) X.env = (false, eval e X.env) :: starEach es X.env := by rfl) (hpl : (backTo pos (starEach es X.env)).any (·.1) = false := by rfl) : DE X EX W (.Call (.Name x p) (e :: es) [] pos) (eFn m fr) :=
 pe_of (pe_callS Fn hr hg hm hk hb (fun σ => L2N.passAt tk σ) ha hdb he hpl) (tCall_LE (C := cnOf X EX))
theorem ds_raise {x m : Str} {j : Nat} {p p2 pos2 : Pos} {Cl : Addr} {bmB : List Value} {B newId initId : String} (hc : X.calm = true) (tk : L2N.Takes X W) (F : ExcBaseFacts B newId initId bmB) (q : PySem.W.excIn X.K Cl bmB newId = true) (gC : X.mg x = some (.ref Cl)) (kC : PySem.W.keepIn X.K (.ref Cl) = true) (r : Raises X (.ref Cl)) (hg : Gl X x) (hdb : (x == ("__debug__" : Str)) = false := by decide) :
  DSt X EX W (.Raise (some (.Call (.Name x p) [.Constant (.str m) j p2] [] pos)) none pos2) (fun S => .exc x none S) :=
 ps_of (L2N.ps_raise hc tk (L2N.pmk_own F q gC kC r hg hdb)) fun D σ H ⟨AV, F, S, fp, st, q⟩ => q σ F H fp (.ref Cl) none st .refl ⟨gC, rfl⟩
end
end Y
set_option maxRecDepth 100000
set_option maxHeartbeats 4000000
namespace Y
open PySem PySem.Spec L2
section
variable {X : Cx} {K : PySem.W.Frag} {F H : Hp} {ts : List SV} {xs : List V}
theorem cg_of {f : Value} {r : List V → Hp → VK → Prop} {g : List SV → Option SV} (h : CallR X f r)
  (k : ∀ F ts z xs H Q, (∀ a o, F a = some o → H a = some o) → OwnA X.K F H ts xs → g ts = some z → (∀ F' H' v fe, NewV X.K F H F' H' v z fe → Q v H') → r xs H Q) : CallR X f (cG X.K g) :=
 fun pins s σ H xs us Q I r ⟨F, ts, z, fh, oa, e, q⟩ => h pins s σ H xs us Q I r (k F ts z xs H Q fh oa e q)
theorem ownA_1 {t : SV} (h : OwnA K F H [t] xs) : ∃ x f, xs = [x] ∧ Own K F H t x f := by
 cases h with
 | cons a b => cases b; exact ⟨_, _, rfl, a⟩
theorem ownA_2 {t u : SV} (h : OwnA K F H [t, u] xs) : ∃ x y f g, xs = [x, y] ∧ Own K F H t x f ∧ Own K F H u y g := by
 cases h with
 | cons a b =>
  obtain ⟨y, g, rfl, c⟩ := ownA_1 b
  exact ⟨_, _, _, _, rfl, a, c⟩
def allScal : List PyData → Bool
 | [] => true
 | d :: ds => isScal d && allScal ds
theorem dpAll_scal : ∀ {ds : List PyData} {vs : List V}, DpAll K F vs ds → allScal ds = true → FzAll F vs ds
 | [], _, h, _ => by cases h; exact .nil
 | d :: ds, _, h, e => by
  cases h with
  | cons a b =>
   unfold allScal at e
   rw [Bool.and_eq_true] at e
   exact .cons (dp_scal a e.1) (dpAll_scal b e.2)
def SV.seqL : SV → Option (List PyData)
 | .fz (.list ds) => some ds
 | .ro (.list ds) => if allScal ds = true then some ds else none
 | .lst xs => allFz xs
 | _ => none
def SV.seqT : SV → Option (List PyData)
 | .fz (.tuple ds) => some ds
 | .ro (.tuple ds) => if allScal ds = true then some ds else none
 | _ => none
theorem own_seqL (fh : ∀ a o, F a = some o → H a = some o) {t : SV} {v : V} {fp : List Addr} {ds : List PyData} (h : Own K F H t v fp) (e : t.seqL = some ds) : ∃ a vs, v = .ref a ∧ SqL K H a vs ∧ FzAll F vs ds := by
 cases t with
 | fz d =>
  cases d with
  | list es => cases e; cases own_fz h with
   | lst a b => exact ⟨_, _, rfl, .inl (.inl (fh _ _ a)), b⟩
  | _ => cases e
 | ro d =>
  cases d with
  | list es =>
   unfold SV.seqL at e
   dsimp only at e
   split at e
   ·rename_i hs
    cases e
    unfold Own at h
    cases h.1 with
    | lst a b =>
     refine ⟨_, _, rfl, ?_, dpAll_scal b hs⟩
     rcases a with a | a
     ·rcases a with a | ⟨o, a⟩
      ·exact .inl (.inl (fh _ _ a))
      ·exact .inl (.inr ⟨o, fh _ _ a⟩)
     ·exact .inr a
   ·cases e
  | _ => cases e
 | lst xs =>
  have e' : allFz xs = some ds := e
  obtain ⟨a, vs, rfl, h1, h2⟩ := own_lis fh h (show SV.lis (.lst xs) = some ds from e')
  exact ⟨a, vs, rfl, (.inl (.inl h1)), h2⟩
 | dic b kvs => cases e
 | fd b kvs => cases e
 | tb _ _ => cases e
 | gone => cases e
 | nd _ => cases e
 | ob _ _ _ => cases e
 | nq _ => cases e
 | ne _ => cases e
theorem own_seqT (fh : ∀ a o, F a = some o → H a = some o) {t : SV} {v : V} {fp : List Addr} {ds : List PyData} (h : Own K F H t v fp) (e : t.seqT = some ds) : ∃ a vs, v = .ref a ∧ SqT K H a vs ∧ FzAll F vs ds := by
 cases t with
 | fz d =>
  cases d with
  | tuple es => cases e; cases own_fz h with
   | tup a b => exact ⟨_, _, rfl, a.sq fh, b⟩
  | _ => cases e
 | ro d =>
  cases d with
  | tuple es =>
   unfold SV.seqT at e
   dsimp only at e
   split at e
   ·rename_i hs
    cases e
    unfold Own at h
    cases h.1 with
    | tup a b =>
     refine ⟨_, _, rfl, ?_, dpAll_scal b hs⟩
     rcases a with a | a
     ·rcases a with a | ⟨o, a⟩
      ·exact .inl (.inl (fh _ _ a))
      ·exact .inl (.inr ⟨o, fh _ _ a⟩)
     ·exact .inr a
   ·cases e
  | _ => cases e
 | lst xs => cases e
 | dic b kvs => cases e
 | fd b kvs => cases e
 | tb _ _ => cases e
 | gone => cases e
 | nd _ => cases e
 | ob _ _ _ => cases e
 | nq _ => cases e
 | ne _ => cases e
def SV.seqS (t : SV) : Option (List PyData) := match t.seqL with
 | some ds => some ds
 | none => t.seqT
theorem own_seqS (fh : ∀ a o, F a = some o → H a = some o) {t : SV} {v : V} {fp : List Addr} {ds : List PyData} (h : Own K F H t v fp) (e : t.seqS = some ds) : ∃ a vs, v = .ref a ∧ (SqL K H a vs ∨ SqT K H a vs) ∧ FzAll F vs ds := by
 unfold SV.seqS at e
 cases e1 : t.seqL with
 | some es => rw [e1] at e; cases e; obtain ⟨a, vs, q, h1, h2⟩ := own_seqL fh h e1; exact ⟨a, vs, q, .inl h1, h2⟩
 | none => rw [e1] at e; obtain ⟨a, vs, q, h1, h2⟩ := own_seqT fh h e; exact ⟨a, vs, q, .inr h1, h2⟩
def intsOf : List PyData → Option (List Int)
 | [] => some []
 | .int i :: ds => match intsOf ds with
  | some ns => some (i :: ns)
  | none => none
 | _ :: _ => none
def boolsOf : List PyData → Option (List Bool)
 | [] => some []
 | .bool i :: ds => match boolsOf ds with
  | some ns => some (i :: ns)
  | none => none
 | _ :: _ => none
theorem intsOf_eq : ∀ {ds : List PyData} {ns : List Int}, intsOf ds = some ns → ds = ns.map .int
 | [], _, h => by cases h; rfl
 | d :: ds, ns, h => by
  cases d with
  | int i =>
   unfold intsOf at h
   cases e : intsOf ds with
   | none => rw [e] at h; cases h
   | some ms => rw [e] at h; cases h; rw [intsOf_eq e]; rfl
  | _ => cases h
theorem boolsOf_eq : ∀ {ds : List PyData} {ns : List Bool}, boolsOf ds = some ns → ds = ns.map .bool
 | [], _, h => by cases h; rfl
 | d :: ds, ns, h => by
  cases d with
  | bool i =>
   unfold boolsOf at h
   cases e : boolsOf ds with
   | none => rw [e] at h; cases h
   | some ms => rw [e] at h; cases h; rw [boolsOf_eq e]; rfl
  | _ => cases h
theorem fzAll_int : ∀ {ns : List Int} {vs : List V}, FzAll F vs (ns.map .int) → vs = ns.map V.int
 | [], _, h => by cases h; rfl
 | n :: ns, _, h => by
  cases h with
  | cons a b => cases a; rw [fzAll_int b]; rfl
theorem fzAll_bool : ∀ {ns : List Bool} {vs : List V}, FzAll F vs (ns.map .bool) → vs = ns.map V.bl
 | [], _, h => by cases h; rfl
 | n :: ns, _, h => by
  cases h with
  | cons a b => cases a; rw [fzAll_bool b]; rfl
def SV.len : SV → Option Nat
 | .fz (.str x) => if x.length ≤ sizeLine then some x.length else none
 | .fz (.list ds) => some ds.length
 | .fz (.tuple ds) => some ds.length
 | .ro (.list ds) => some ds.length
 | .ro (.tuple ds) => some ds.length
 | .lst xs => some xs.length
 | .dic _ kvs => some kvs.length
 | _ => none
def gLen : List SV → Option SV
 | [t] => match t.len with
  | some n => some (.fz (.int n))
  | none => none
 | _ => none
theorem sqL_fh (fh : ∀ a o, F a = some o → H a = some o) {a : Addr} {vs : List V} (h : SqL K F a vs) : SqL K H a vs := by
 rcases h with (h | ⟨o, h⟩) | h
 ·exact .inl (.inl (fh _ _ h))
 ·exact .inl (.inr ⟨o, fh _ _ h⟩)
 ·exact .inr h
theorem sqT_fh (fh : ∀ a o, F a = some o → H a = some o) {a : Addr} {vs : List V} (h : SqT K F a vs) : SqT K H a vs := by
 rcases h with (h | ⟨o, h⟩) | h
 ·exact .inl (.inl (fh _ _ h))
 ·exact .inl (.inr ⟨o, fh _ _ h⟩)
 ·exact .inr h
theorem lenV_of (fh : ∀ a o, F a = some o → H a = some o) {t : SV} {v : V} {fp : List Addr} {n : Nat} (h : Own K F H t v fp) (e : t.len = some n) : LenV K v H n ∨ ∃ b kvs, t = .dic b kvs ∧ n = kvs.length := by
 cases t with
 | fz d =>
  have z := own_fz h
  cases d with
  | str x =>
   unfold SV.len at e
   dsimp only at e
   split at e
   ·cases e; cases z; exact .inl ⟨by assumption, rfl⟩
   ·cases e
  | list ds => cases e; cases z with
   | lst a b => exact .inl (.inl ⟨_, .inl (.inl (fh _ _ a)), (fzAll_len b).symm⟩)
  | tuple ds => cases e; cases z with
   | tup a b => exact .inl (.inr ⟨_, a.sq fh, (fzAll_len b).symm⟩)
  | _ => cases e
 | ro d =>
  unfold Own at h
  have z := h.1
  cases d with
  | list ds => cases e; cases z with
   | lst a b => exact .inl (.inl ⟨_, sqL_fh fh a, (dpAll_len b).symm⟩)
  | tuple ds => cases e; cases z with
   | tup a b => exact .inl (.inr ⟨_, sqT_fh fh a, (dpAll_len b).symm⟩)
  | _ => cases e
 | lst xs =>
  cases e
  unfold Own at h
  obtain ⟨a, vs, fq, rfl, _, h1, _, h2⟩ := h
  exact .inl (.inl ⟨vs, (.inl (.inl h1)), ownL_len h2⟩)
 | dic b kvs => cases e; exact .inr ⟨b, kvs, rfl, rfl⟩
 | fd b kvs => cases e
 | tb _ _ => cases e
 | gone => cases e
 | nd _ => cases e
 | ob _ _ _ => cases e
 | nq _ => cases e
 | ne _ => cases e
theorem cb_len : CallR X (.builtin "len") (cG X.K gLen) := by
 intro pins s σ H xs us Q I r ⟨F, ts, z, fh, oa, e, q⟩
 match ts, e with
 | [t], e =>
  obtain ⟨x, f, rfl, o⟩ := ownA_1 oa
  unfold gLen at e
  dsimp only at e
  cases e1 : t.len with
  | none => rw [e1] at e; cases e
  | some n =>
   rw [e1] at e
   cases e
   have fin := q F H _ [] (nv_fz fh (.int n))
   rcases lenV_of fh o e1 with h | ⟨b, kvs, rfl, rfl⟩
   ·exact call_len pins s σ H _ us Q I r ⟨x, n, rfl, h, fin⟩
   ·unfold Own at o
    obtain ⟨a, us', fq, rfl, _, _, _, ⟨rfl, ws, h1, h2, _⟩ | ⟨rfl, ws, h1, h2, _⟩⟩ := o
    ·refine call_lenD pins s σ H _ us Q I r ⟨a, ws, rfl, h1, ?_⟩
     have := congrArg List.length h2
     rw [List.length_map, List.length_map] at this
     rw [this]; exact fin
    ·refine call_len_dT pins s σ H _ us Q I r ⟨a, ws, rfl, h1, ?_⟩
     have := congrArg List.length h2
     rw [List.length_map, List.length_map] at this
     rw [this]; exact fin
 | [], e => cases e
 | _ :: _ :: _, e => cases e
def gI1 (f : Int → Int) : List SV → Option SV
 | [.fz (.int i)] => some (.fz (.int (f i)))
 | _ => none
theorem gI1_inv {f : Int → Int} {ts : List SV} {z : SV} (e : gI1 f ts = some z) : ∃ i, ts = [.fz (.int i)] ∧ z = .fz (.int (f i)) := by
 unfold gI1 at e
 split at e
 ·cases e; exact ⟨_, rfl, rfl⟩
 ·cases e
def gAbs := gI1 fun i => if i < 0 then -i else i
theorem cb_abs : CallR X (.builtin "abs") (cG X.K gAbs) := cg_of call_abs fun F ts z xs H Q fh oa e q => by
 obtain ⟨i, rfl, rfl⟩ := gI1_inv e
 obtain ⟨x, f, rfl, o⟩ := ownA_1 oa
 exact ⟨i, by rw [fz_int o], q F H _ [] (nv_fz fh (.int _))⟩
def foldI (f : Int → Int → Int) : List Int → Option Int
 | [] => none
 | n :: ns => some (ns.foldl f n)
def iMin (i j : Int) : Int := if j < i then j else i
def iMax (i j : Int) : Int := if j > i then j else i
theorem foldMin_le : ∀ (ns : List Int) (n m : Int), ns.foldl iMin n = m → m ≤ n ∧ (∀ y ∈ ns, m ≤ y) ∧ (m = n ∨ m ∈ ns)
 | [], n, m, h => by cases h; exact ⟨Int.le_refl _, fun _ h => absurd h (by simp), .inl rfl⟩
 | k :: ns, n, m, h => by
  obtain ⟨a, b, c⟩ := foldMin_le ns (iMin n k) m h
  have h1 : iMin n k ≤ n ∧ iMin n k ≤ k ∧ (iMin n k = n ∨ iMin n k = k) := by unfold iMin; split <;> omega
  refine ⟨by omega, fun y hy => ?_, ?_⟩
  ·rcases List.mem_cons.mp hy with rfl | hy
   ·omega
   ·exact b y hy
  ·rcases c with c | c
   ·rcases h1.2.2 with d | d
    ·exact .inl (c.trans d)
    ·exact .inr (by rw [c, d]; exact List.mem_cons_self)
   ·exact .inr (List.mem_cons_of_mem _ c)
theorem foldMax_le : ∀ (ns : List Int) (n m : Int), ns.foldl iMax n = m → n ≤ m ∧ (∀ y ∈ ns, y ≤ m) ∧ (m = n ∨ m ∈ ns)
 | [], n, m, h => by cases h; exact ⟨Int.le_refl _, fun _ h => absurd h (by simp), .inl rfl⟩
 | k :: ns, n, m, h => by
  obtain ⟨a, b, c⟩ := foldMax_le ns (iMax n k) m h
  have h1 : n ≤ iMax n k ∧ k ≤ iMax n k ∧ (iMax n k = n ∨ iMax n k = k) := by unfold iMax; split <;> omega
  refine ⟨by omega, fun y hy => ?_, ?_⟩
  ·rcases List.mem_cons.mp hy with rfl | hy
   ·omega
   ·exact b y hy
  ·rcases c with c | c
   ·rcases h1.2.2 with d | d
    ·exact .inl (c.trans d)
    ·exact .inr (by rw [c, d]; exact List.mem_cons_self)
   ·exact .inr (List.mem_cons_of_mem _ c)
def gOn (f : Int → Int → Int) : List SV → Option SV
 | [.fz (.int i), .fz (.int j)] => some (.fz (.int (f i j)))
 | [t] => match t.seqL with
  | some ds => match intsOf ds with
   | some ns => match foldI f ns with
    | some m => some (.fz (.int m))
    | none => none
   | none => none
  | none => none
 | _ => none
theorem gOn_inv {f : Int → Int → Int} {ts : List SV} {z : SV} (e : gOn f ts = some z) :
  (∃ i j, ts = [.fz (.int i), .fz (.int j)] ∧ z = .fz (.int (f i j))) ∨ ∃ t n ns, ts = [t] ∧ t.seqL = some ((n :: ns).map .int) ∧ z = .fz (.int (ns.foldl f n)) := by
 unfold gOn at e
 split at e
 ·cases e; exact .inl ⟨_, _, rfl, rfl⟩
 ·rename_i t
  split at e
  ·rename_i ds e1
   split at e
   ·rename_i ns e2
    cases ns with
    | nil => cases e
    | cons n ns => cases e; exact .inr ⟨t, n, ns, rfl, by rw [e1, intsOf_eq e2], rfl⟩
   ·cases e
  ·cases e
 ·cases e
def gMin := gOn iMin
def gMax := gOn iMax
theorem cb_min (hc : X.calm = true) : CallR X (.builtin "min") (cG X.K gMin) := by
 intro pins s σ H xs us Q I r ⟨F, ts, z, fh, oa, e, q⟩
 rcases gOn_inv e with ⟨i, j, rfl, rfl⟩ | ⟨t, n, ns, rfl, e1, rfl⟩
 ·obtain ⟨x, y, f, g, rfl, o1, o2⟩ := ownA_2 oa
  exact call_min2 hc pins s σ H _ us Q I r ⟨i, j, by rw [fz_int o1, fz_int o2], q F H _ [] (nv_fz fh (.int _))⟩
 ·obtain ⟨x, f, rfl, o⟩ := ownA_1 oa
  obtain ⟨a, vs, rfl, h1, h2⟩ := own_seqL fh o e1
  rw [fzAll_int h2] at h1
  obtain ⟨m1, m2, m3⟩ := foldMin_le ns n _ rfl
  refine cr_min hc pins s σ H _ us Q I r ⟨a, n :: ns, rfl, h1, by simp, fun m hm hl => ?_⟩
  have : m = ns.foldl iMin n := by
   have a1 : m ≤ ns.foldl iMin n := hl _ (by rcases m3 with h | h; exact List.mem_cons.mpr (.inl h); exact List.mem_cons_of_mem _ h)
   have a2 : ns.foldl iMin n ≤ m := by rcases List.mem_cons.mp hm with h | h; exact h ▸ m1; exact m2 m h
   omega
  rw [this]
  exact q F H _ [] (nv_fz fh (.int _))
theorem cb_max (hc : X.calm = true) : CallR X (.builtin "max") (cG X.K gMax) := by
 intro pins s σ H xs us Q I r ⟨F, ts, z, fh, oa, e, q⟩
 rcases gOn_inv e with ⟨i, j, rfl, rfl⟩ | ⟨t, n, ns, rfl, e1, rfl⟩
 ·obtain ⟨x, y, f, g, rfl, o1, o2⟩ := ownA_2 oa
  exact call_max2 hc pins s σ H _ us Q I r ⟨i, j, by rw [fz_int o1, fz_int o2], q F H _ [] (nv_fz fh (.int _))⟩
 ·obtain ⟨x, f, rfl, o⟩ := ownA_1 oa
  obtain ⟨a, vs, rfl, h1, h2⟩ := own_seqL fh o e1
  rw [fzAll_int h2] at h1
  obtain ⟨m1, m2, m3⟩ := foldMax_le ns n _ rfl
  refine cr_max hc pins s σ H _ us Q I r ⟨a, n :: ns, rfl, h1, by simp, fun m hm hl => ?_⟩
  have : m = ns.foldl iMax n := by
   have a1 : ns.foldl iMax n ≤ m := hl _ (by rcases m3 with h | h; exact List.mem_cons.mpr (.inl h); exact List.mem_cons_of_mem _ h)
   have a2 : m ≤ ns.foldl iMax n := by rcases List.mem_cons.mp hm with h | h; exact h ▸ m1; exact m2 m h
   omega
  rw [this]
  exact q F H _ [] (nv_fz fh (.int _))
def gBs (f : List Bool → Bool) : List SV → Option SV
 | [t] => match t.seqL with
  | some ds => match boolsOf ds with
   | some ns => some (.fz (.bool (f ns)))
   | none => none
  | none => none
 | _ => none
theorem gBs_inv {f : List Bool → Bool} {ts : List SV} {z : SV} (fh : ∀ a o, F a = some o → H a = some o) (oa : OwnA K F H ts xs) (e : gBs f ts = some z) : ∃ a ns, xs = [.ref a] ∧ SqL K H a (ns.map V.bl) ∧ z = .fz (.bool (f ns)) := by
 unfold gBs at e
 split at e
 ·rename_i t
  split at e
  ·rename_i ds e1
   split at e
   ·rename_i ns e2
    cases e
    obtain ⟨x, f, rfl, o⟩ := ownA_1 oa
    obtain ⟨a, vs, rfl, h1, h2⟩ := own_seqL fh o e1
    rw [boolsOf_eq e2] at h2
    rw [fzAll_bool h2] at h1
    exact ⟨a, ns, rfl, h1, rfl⟩
   ·cases e
  ·cases e
 ·cases e
def gAll := gBs fun bs => bs.all id
theorem cb_all (hc : X.calm = true) : CallR X (.builtin "all") (cG X.K gAll) := cg_of (cr_all hc) fun F ts z xs H Q fh oa e q => by
 obtain ⟨a, ns, rfl, h1, rfl⟩ := gBs_inv fh oa e
 exact ⟨a, ns, rfl, h1, q F H _ [] (nv_fz fh (.bl _))⟩
def keyD : DKey → Option PyData
 | .k (.inl i) => some (.int i)
 | .k (.inr x) => some (.str x)
 | .t _ => none
def keysD : List (DKey × SV) → Option (List PyData)
 | [] => some []
 | (k, _) :: r => match keyD k, keysD r with
  | some d, some ds => some (d :: ds)
  | _, _ => none
def gListF : List SV → Option SV
 | [t] => match t.seqS with
  | some ds => some (.lst (fzs ds))
  | none => match t with
   | .dic false kvs => match keysD kvs with
    | some ds => some (.lst (fzs ds))
    | none => none
   | _ => none
 | _ => none
theorem keysD_ok : ∀ {kvs : List (DKey × SV)} {ds : List PyData} {ws : List (Key × V)}, keysD kvs = some ds → ws.map (fun p => DKey.k p.1) = kvs.map (·.1) → FzAll F (ws.map fun kv => kV kv.1) ds
 | [], ds, ws, h, e => by
  cases h
  cases ws with
  | nil => exact .nil
  | cons a b => simp at e
 | (k, x) :: r, ds, ws, h, e => by
  cases ws with
  | nil => simp at e
  | cons p ws =>
   rw [List.map_cons, List.map_cons] at e
   injection e with e1 e2
   unfold keysD at h
   cases h1 : keyD k with
   | none => rw [h1] at h; cases h
   | some d =>
    cases h2 : keysD r with
    | none => rw [h1, h2] at h; cases h
    | some es =>
     rw [h1, h2] at h
     cases h
     dsimp only at e1
     refine .cons ?_ (keysD_ok h2 e2)
     rw [← e1] at h1
     obtain ⟨kp, vp⟩ := p
     cases kp with
     | inl i => cases h1; exact .int i
     | inr i => cases h1; exact .str i
theorem ct_list (hc : X.calm = true) : CallR X (.type "list") (cG X.K gListF) := by
 intro pins s σ H xs us Q I r ⟨F, ts, z, fh, oa, e, q⟩
 unfold gListF at e
 split at e
 ·rename_i t
  obtain ⟨x, f, rfl, o⟩ := ownA_1 oa
  split at e
  ·rename_i ds e1
   cases e
   obtain ⟨a, vs, rfl, h1, h2⟩ := own_seqS fh o e1
   exact call_list_of pins s σ H _ us Q I r ⟨a, vs, rfl, h1, fun l hl => q F _ _ [l] (nv_lst fh hl h2)⟩
  ·split at e
   ·split at e
    ·rename_i kvs ds e1
     cases e
     unfold Own at o
     obtain ⟨a, us', fq, rfl, _, _, _, ⟨_, ws, h1, h2, _⟩ | ⟨z, _⟩⟩ := o
     ·exact call_list_dK hc pins s σ H _ us Q I r ⟨a, ws, rfl, h1, fun l hl => q F _ _ [l] (nv_lst fh hl (keysD_ok e1 h2))⟩
     ·cases z
    ·cases e
   ·cases e
 ·cases e
def gTupF : List SV → Option SV
 | [t] => match t.seqL with
  | some ds => some (.fz (.tuple ds))
  | none => match t with
   | .fz (.tuple ds) => some (.fz (.tuple ds))
   | .ro (.tuple ds) => some (.ro (.tuple ds))
   | _ => none
 | _ => none
theorem nv_ro (fh : ∀ a o, F a = some o → H a = some o) {d : PyData} {v : V} (h : Dp K F v d) : NewV K F H F H v (.ro d) [] where
 hk _ _ h := h
 fk _ _ h := h
 fn a o h1 h2 := by rw [h1] at h2; cases h2
 fh := fh
 own := by unfold Own; exact ⟨h, rfl⟩
 nd := List.nodup_nil
 new a h := by cases h
theorem ct_tuple : CallR X (.type "tuple") (cG X.K gTupF) := by
 refine cg_of call_tupleN fun F ts z xs H Q fh oa e q => ?_
 unfold gTupF at e
 split at e
 ·rename_i t
  obtain ⟨x, f, rfl, o⟩ := ownA_1 oa
  split at e
  ·rename_i ds e1
   cases e
   obtain ⟨a, vs, rfl, h1, h2⟩ := own_seqL fh o e1
   exact ⟨a, vs, rfl, .inl ⟨h1, fun l o hl ho => q _ _ _ [] (nv_tup fh hl ho h2)⟩⟩
  ·split at e
   ·cases e
    have z := own_fz o
    cases z with
    | tup a b => exact ⟨_, _, rfl, .inr ⟨a.sq fh, q F H _ [] (nv_fz fh (.tup a b))⟩⟩
   ·cases e
    unfold Own at o
    have z := o.1
    cases z with
    | tup a b => exact ⟨_, _, rfl, .inr ⟨sqT_fh fh a, q F H _ [] (nv_ro fh (.tup a b))⟩⟩
   ·cases e
 ·cases e
end
end Y
set_option maxRecDepth 100000
set_option maxHeartbeats 4000000
namespace Y
open PySem PySem.Spec L2
section
variable {P : Program} {w : World} {A : Around} {E : Value → Shared → Prop} {s : Shared}
def emptyL : Obj := { cls := .type "list", data := .seq ([] : List Value).toArray }
def collH (h : Heap) (its : Array Value) : Heap := (h.push emptyL).update h.objs.size (Obj.mapSeq (· ++ its))
theorem collH_size (h : Heap) (its : Array Value) : (collH h its).objs.size = h.objs.size + 1 := by
 unfold collH
 rw [Heap.size_update, Heap.size_push]
theorem collH_old {h : Heap} {its : Array Value} {b : Addr} {u : Obj} (q : h.get? b = some u) : (collH h its).get? b = some u := by
 unfold collH
 rw [Heap.get?_update_ne _ _ _ _ (Nat.ne_of_lt (Heap.lt_size q))]
 exact Heap.get?_push_of_some _ q
theorem col_seq {Q : List Value → Shared → Prop} (it : Addr) {T : String} {o : Obj} {its : Array Value} {n : Nat} (hT : T = "list" ∨ T = "tuple") (ho : s.heap.get? it = some o) (hc : o.cls = .type T) (hd : o.data = .seq its n)
  (hz : its.size ≤ sizeLine) (hQ : Q its.toList { s with heap := collH s.heap its }) : wpAny (model P w) A (collect (.ref it)) Q E s := by
 unfold collect
 refine wpAny_bind (wpAny_runValue (codeAny_builtin F.entry_proto_collect ?_))
 rw [Around.under_plainId F.plain_proto_collect _]
 refine wpAny_bind (wpAny_newObj_type ?_)
 refine wpAny_pure ⟨plainId_quiet F.plain_list_iadd _, codeAny_builtin F.entry_list_iadd ?_⟩
 rw [Around.under_plainId F.plain_list_iadd _]
 have g0 : (s.heap.push emptyL).get? s.heap.objs.size = some { cls := .type "list", data := .seq #[] 0 } := Heap.get?_push_size _ rfl
 have g1 := Heap.get?_update_self (Obj.mapSeq (· ++ its)) g0 rfl
 have fin : wpAny (model P w) A (do
   let o ← load s.heap.objs.size
   match o.data with
   | .seq xs _ => pure xs.toList
   | _ => unsupported "internal:collect") Q E { s with heap := collH s.heap its } := by
  refine wpAny_bind (wpAny_load g1 (wpAny_pure ?_))
  show Q (((#[] : Array Value) ++ its).toList) _
  rw [Array.empty_append]
  exact hQ
 refine wpAny_mono (wpAny_extend_seq (hsz := hz) (A := A) (R := fun r s' => r = .ok (.ret (.ref s.heap.objs.size)) ∧ s' = { s with heap := collH s.heap its })
  (s := { s with heap := s.heap.push emptyL }) _ it _ 0 hT g0 (Heap.get?_push_of_some _ ho) hc hd ⟨rfl, rfl⟩) (fun f s' z => ?_) (fun e s' z => absurd z.1 (by simp))
 cases f with
 | done f => obtain ⟨z1, rfl⟩ := z; cases z1; exact fin
 | again c' => exact ⟨z.1, codeAny_mono z.2 fun r s'' y => by obtain ⟨rfl, rfl⟩ := y; exact fin⟩
open PySem.W PyProof.Rows in
theorem srt_seq {β : Type} {vs : List Value} {bs : List β} {enc : β → PyData} {R : Value → β → Prop} {l : Addr} {T : String} {o : Obj} {n : Nat} {Q : Value → Shared → Prop} (hT : T = "list" ∨ T = "tuple")
  (ho : s.heap.get? l = some o) (hc : o.cls = .type T) (hd : o.data = .seq vs.toArray n)
  (e : EachIs R vs bs) (er : EachIs (fun v b => ∃ as, Reads s.heap v (enc b) as) vs bs) (hal : AllAlike (bs.map enc)) (hk : Sortable (bs.map enc)) (hL : bs.length ≤ sizeLine)
  (hu : ∀ b, b ∈ bs → A.units + 2 + (enc b).depth < cLine)
  (h : ∀ (out : List Value) (h' : Heap) (p c : Nat), (∀ b u, s.heap.get? b = some u → h'.get? b = some u) → s.heap.objs.size ≤ p → h'.get? p = some (seqObj "list" out.toArray c) → EachIs R out (bs.mergeSort (dataLe false enc)) → Q (.ref p) { s with heap := h' }) :
  wpAny (model P w) A (call (.builtin "sorted") [.ref l]) Q E s := by
 refine call_function_entry_kw kind_sorted plain_sorted entry_sorted (args_sorted1 _) ?_
 unfold Builtin.«sorted»
 refine wpAny_bind (m := checkCount "sorted" 1 1 _) (wpAny_pure ?_)
 have hvl : vs.toArray.size ≤ sizeLine := by rw [List.size_toArray, e.length]; exact hL
 refine wpAny_bind (col_seq (its := vs.toArray) l hT ho hc hd hvl ?_)
 have k1 : ∀ b u, s.heap.get? b = some u → (collH s.heap vs.toArray).get? b = some u := fun _ _ => collH_old
 have hsz := collH_size s.heap vs.toArray
 generalize collH s.heap vs.toArray = h1 at k1 hsz ⊢
 have evs : vs.toArray.toList = vs := by simp
 rw [evs]
 refine wpAny_bind (wpAny_newList ?_ (by rw [e.length]; exact hL))
 have k2 : ∀ b u, s.heap.get? b = some u → (h1.push (seqObj "list" vs.toArray 0)).get? b = some u := fun b u q => Heap.get?_push_of_some _ (k1 b u q)
 have hle : s.heap.objs.size ≤ h1.objs.size := by omega
 have hoL : (h1.push (seqObj "list" vs.toArray 0)).get? h1.objs.size = some (seqObj "list" vs.toArray 0) := Heap.get?_push_size _ rfl
 have er' : EachIs (fun v b => ∃ as, Reads (sortingHeap (h1.push (seqObj "list" vs.toArray 0)) h1.objs.size vs) v (enc b) as) vs bs :=
  er.mono fun _ _ ⟨as, r⟩ => ⟨as, PyProof.Rows.Reads.keeps (fun b u q => sortingHeap_old (Nat.ne_of_lt (Nat.lt_of_lt_of_le (Heap.lt_size q) hle)) (k2 b u q)) r⟩
 refine wpAny_bind (wpAny_holding (wpAny_call_entry_kw slot_list_sort ⟨_, hoL, rfl⟩ entry_list_sort ?body (args_list_sort _)))
 refine list_sort_vals (s := { s with heap := h1.push (seqObj "list" vs.toArray 0) }) hoL (SortsAt.data (each_map (R := fun v d => ∃ as, Reads (sortingHeap (h1.push (seqObj "list" vs.toArray 0)) h1.objs.size vs) v d as) enc er') hal hk (bound_map hu)) (by rw [e.length]; exact hL) ⟨_, rfl, wpAny_pure ⟨_, rfl, ?_⟩⟩
 obtain ⟨c, hat⟩ := sortedHeap_at (vs := vs) (out := (sortVals (dataKind (sortingHeap (h1.push (seqObj "list" vs.toArray 0)) h1.objs.size vs) (bs.map enc)) false vs vs).toArray) hoL
 refine h _ _ _ c (fun b u q => ?_) hle hat (sortVals_data false e er' hal)
 have hlt := Heap.lt_size (k1 b u q)
 show (sortedHeap _ _ _ _).get? b = some u
 rw [sortedHeap_old (Nat.ne_of_lt hlt) (by rw [size_push']; exact Nat.lt_succ_of_lt hlt)]
 exact k2 b u q
end
section
variable {X : Cx} {K : PySem.W.Frag} {F H : Hp}
open PySem.W (AllAlike Sortable dataLe alike)
def allAlikeB (ds : List PyData) : Bool := ds.all fun d => ds.all fun d' => alike d d'
def tupNe : PyData → Bool
 | .tuple (_ :: _) => true
 | _ => false
def notTN : PyData → Bool
 | .none => false
 | .tuple _ => false
 | _ => true
def sortOk (ds : List PyData) : Bool := allAlikeB ds && (ds.all tupNe || ds.all notTN) && ds.all (fun d => decide (d.depth ≤ 32)) && decide (ds.length ≤ sizeLine)
def sortD (ds : List PyData) : List PyData := ds.mergeSort (dataLe false id)
theorem allAlike_of {ds : List PyData} (h : allAlikeB ds = true) : AllAlike ds := fun d hd d' hd' => by
 unfold allAlikeB at h
 exact List.all_eq_true.mp (List.all_eq_true.mp h d hd) d' hd'
theorem sortable_of {ds : List PyData} (h : (ds.all tupNe || ds.all notTN) = true) : Sortable ds := by
 rw [Bool.or_eq_true] at h
 rcases h with h | h
 ·refine .inl fun d hd => ?_
  have := List.all_eq_true.mp h d hd
  unfold tupNe at this
  split at this
  ·exact ⟨_, _, rfl⟩
  ·cases this
 ·refine .inr fun d hd => ?_
  have := List.all_eq_true.mp h d hd
  unfold notTN at this
  split at this
  ·cases this
  ·cases this
  ·rename_i h1 h2
   exact ⟨h1, fun xs e => h2 xs e⟩
def gSortF : List SV → Option SV
 | [t] => match t.seqS with
  | some ds => if sortOk ds = true then some (.lst (fzs (sortD ds))) else none
  | none => none
 | _ => none
theorem eachPairs {s : Shared} : ∀ {vs : List V} {ds : List PyData} {us : List Value}, FzAll F vs ds → Vals vs us → PySem.W.EachIs (fun u (p : V × PyData) => RelV p.1 u ∧ Fz F p.1 p.2) us (vs.zip ds)
 | _, _, _, .nil, .nil => .nil
 | _, _, _, .cons a b, .cons r t => .cons ⟨r, a⟩ (eachPairs (s := s) b t)
theorem pairs_back : ∀ {us : List Value} {ps : List (V × PyData)}, PySem.W.EachIs (fun u (p : V × PyData) => RelV p.1 u ∧ Fz F p.1 p.2) us ps → Vals (ps.map (·.1)) us ∧ FzAll F (ps.map (·.1)) (ps.map (·.2))
 | _, _, .nil => ⟨.nil, .nil⟩
 | _, _, .cons a b => ⟨.cons a.1 (pairs_back b).1, .cons a.2 (pairs_back b).2⟩
theorem zip_snd : ∀ {vs : List V} {ds : List PyData}, FzAll F vs ds → (vs.zip ds).map (·.2) = ds
 | _, _, .nil => rfl
 | _, _, .cons a b => by rw [List.zip_cons_cons, List.map_cons, zip_snd b]
theorem cb_sorted (hu : X.A.units + 64 < cLine) : CallR X (.builtin "sorted") (cG X.K gSortF) := by
 intro pins s σ H xs us Q I r ⟨F, ts, z, fh, oa, e, q⟩
 unfold gSortF at e
 split at e
 ·rename_i t
  split at e
  ·rename_i ds e1
   split at e
   ·rename_i hs
    cases e
    obtain ⟨x, f, rfl, o⟩ := ownA_1 oa
    obtain ⟨a, vs, rfl, h1, h2⟩ := own_seqS fh o e1
    unfold sortOk at hs
    rw [Bool.and_eq_true, Bool.and_eq_true, Bool.and_eq_true] at hs
    obtain ⟨⟨⟨s1, s2⟩, s3⟩, s4⟩ := hs
    have hlen : ds.length ≤ sizeLine := of_decide_eq_true s4
    have hz2 := zip_snd h2
    have hdp : DpAll X.K H vs ds := by
     have := dpAll_mono (K := X.K) fh _ _ (fzAll_dp (K := X.K) _ _ h2)
     exact this
    rw [Vals.ref1 r]
    have key : ∀ (T : String) (o : Obj) (its : List Value) (n : Nat), T = "list" ∨ T = "tuple" → s.heap.get? a = some o → o.cls = .type T → o.data = .seq its.toArray n → Vals vs its →
      wpAny (model X.prog X.w) X.A (call (.builtin "sorted") [.ref a]) (EP X pins σ Q) X.xe s := by
     intro T o its n hT ho hc hd rv
     have er : PySem.W.EachIs (fun u (p : V × PyData) => ∃ as, Reads s.heap u p.2 as) its (vs.zip ds) := by
      have : ∀ {vs : List V} {ds : List PyData} {its : List Value}, DpAll X.K H vs ds → Vals vs its → PySem.W.EachIs (fun u (p : V × PyData) => ∃ as, Reads s.heap u p.2 as) its (vs.zip ds) := by
       intro vs ds its hd hv
       induction hv generalizing ds with
       | nil => exact .nil
       | cons a b ih =>
        cases hd with
        | cons d1 d2 => exact .cons (Dp.reads I _ _ _ d1 a) (ih d2)
      exact this hdp rv
     refine srt_seq (R := fun u (p : V × PyData) => RelV p.1 u ∧ Fz F p.1 p.2) (enc := fun p : V × PyData => p.2) hT ho hc hd (eachPairs (s := s) h2 rv) er (by rw [hz2]; exact allAlike_of s1) (by rw [hz2]; exact sortable_of s2)
      (by rw [List.length_zip, fzAll_len h2, Nat.min_self]; exact hlen) (fun b hb => ?_) fun out h' p c k hle hat ho => ?_
     ·have hm : b.2 ∈ ds := by rw [← hz2]; exact List.mem_map.mpr ⟨b, hb, rfl⟩
      have := of_decide_eq_true (List.all_eq_true.mp s3 _ hm)
      omega
     ·obtain ⟨b1, b2⟩ := pairs_back ho
      have hd2 : ((vs.zip ds).mergeSort (dataLe false fun p : V × PyData => p.2)).map (·.2) = sortD ds := by
       unfold sortD
       refine (List.map_mergeSort (f := fun p : V × PyData => p.2) (r := dataLe false fun p : V × PyData => p.2) (s := dataLe false id) (l := vs.zip ds) (fun _ _ _ _ => rfl)).trans ?_
       rw [hz2]
      rw [hd2] at b2
      have hl2 : (((vs.zip ds).mergeSort (dataLe false fun p : V × PyData => p.2)).map (·.1)).length ≤ sizeLine := by
       rw [List.length_map, List.length_mergeSort, List.length_zip, fzAll_len h2, Nat.min_self]; exact hlen
      have hfresh := I.hok.fresh hle
      exact ⟨.ref p, upd H p (.lst (((vs.zip ds).mergeSort (dataLe false fun p : V × PyData => p.2)).map (·.1))), I.laid (t' := s.toks) k hle ⟨hl2, out, c, b1, hat⟩, rfl, q F _ _ [p] (nv_lst fh hfresh b2)⟩
    rcases h1 with h1 | h1
    ·obtain ⟨its, rv, ⟨o, n, ho, hc, _, hd⟩, _⟩ := I.list h1
     exact key "list" o its n (.inl rfl) ho hc hd rv
    ·obtain ⟨its, rv, ⟨o, ho, hc, n, hd⟩, _⟩ := I.tuple h1
     exact key "tuple" o its n (.inr rfl) ho hc hd rv
   ·cases e
  ·cases e
 ·cases e
end
section
variable {P : Program} {w : World} {A : Around} {E : Value → Shared → Prop} {s : Shared}
end
end Y
set_option maxRecDepth 100000
set_option maxHeartbeats 4000000
namespace Y
open PySem PySem.Spec L2
section
variable {C : Cn} {AV : List V} {F F1 H H1 : Hp} {σ : L2.St} {S S1 : DS} {fp fp1 : Rt → List Addr} {T1 : List Rt} {r : Rt} {t u : SV} {v0 w : V} {fe : List Addr} {p : List Nat}
theorem StOk.write (st1 : StOk C AV F1 H1 σ S1 fp1) (e : S1.get r = some t) (hs : t.sub p = some u) (hv : rootV σ AV r = some v0) (hw : Walk H1 v0 p w) (dje : ∀ r a, a ∈ fp1 r → a ∉ fe) :
  ∃ fu, Own C.K F1 H1 u w fu ∧ fu.Nodup ∧ (∀ a ∈ fu, a ∈ fp1 r) ∧ ∀ (H' : Hp) (u' : SV) (fu' : List Addr), (∀ a o, H1 a = some o → a ∉ fu → H' a = some o) → (∀ a o, H1 a = some o → ∃ o', H' a = some o') →
   Own C.K F1 H' u' w fu' → fu'.Nodup → (∀ a ∈ fu', a ∈ fu ∨ a ∈ fe) →
   ∃ fr, StOk C AV F1 H' σ (S1.put r (t.setAt p u')) (updF fp1 r fr) ∧ Evo (Rg [r] fp1) F1 H1 F1 H' ∧ (∀ a ∈ fr, (a ∈ fp1 r ∧ a ∉ fu) ∨ a ∈ fu') ∧ ∀ r' a, r' ≠ r → a ∈ fp1 r' → a ∉ fu := by
 obtain ⟨v1, hv1, o⟩ := st1.root e
 rw [hv] at hv1
 cases hv1
 obtain ⟨w', fu, c1, c2, c3, c4, c5⟩ := own_sub p o (st1.nd r) hs
 cases walk_fun hw c1
 refine ⟨fu, c2, c3, c4, fun H' u' fu' k dom ou nd hf => ?_⟩
 have notF : ∀ a o, F1 a = some o → a ∉ fu := fun a o h z => by rw [(st1.mm r a (c4 a z)).1] at h; cases h
 have same : ∀ r' a, a ∈ fp1 r' → a ∉ fu → H' a = H1 a ∧ F1 a = none := fun r' a ha hn => by
  obtain ⟨m1, ob, m2⟩ := st1.mm r' a ha
  exact ⟨by rw [m2]; exact k a ob m2 hn, m1⟩
 obtain ⟨fr, d1, d2, d3⟩ := c5 F1 H' u' fu' (fun _ _ h => h) (fun a ha hn => same r a ha hn) ou nd fun a ha => by
  rcases hf a ha with z | z
  ·exact .inl z
  ·exact .inr fun y => dje r a y z
 have other : ∀ r' a, r' ≠ r → a ∈ fp1 r' → a ∉ fu := fun r' a hr ha hf => hr (st1.dj r' r a ha (c4 a hf))
 have st := st1.upd (F' := F1) (H' := H') e hv (fun _ _ h => h) (fun a o h => k a o (st1.fh a o h) (notF a o h)) (fun r' a hr ha => same r' a ha (other r' a hr ha)) d1 d2 fun r' a hr ha hf' => by
  rcases d3 a hf' with ⟨z, _⟩ | z
  ·exact hr (st1.dj r' r a ha z)
  ·rcases hf a z with y | y
   ·exact other r' a hr ha y
   ·exact dje r' a ha y
 exact ⟨fr, st, ⟨fun _ _ h => h, fun a o h hn => k a o h fun z => hn ⟨r, List.mem_singleton.mpr rfl, c4 a z⟩, fun a o h1 h2 => (by rw [h1] at h2; cases h2), dom⟩, d3, other⟩
theorem Post.rgr (p1 : Post C AV F H σ S fp T1 S1 F1 H1 fp1) (r : Rt) : ∀ a, a ∈ fp1 r → Rg (T1 ++ [r]) fp a ∨ H a = none := fun a ha => by
 rcases p1.new r a ha with z | z | z
 ·exact .inl (Rg.app.mpr (.inl z))
 ·exact .inr z
 ·exact .inl (Rg.app.mpr (.inr ⟨r, List.mem_singleton.mpr rfl, by rw [← (p1.same r z).1]; exact ha⟩))
theorem Post.write (p1 : Post C AV F H σ S fp T1 S1 F1 H1 fp1) (e : S1.get r = some t) (hs : t.sub p = some u) (hv : rootV σ AV r = some v0) (hw : Walk H1 v0 p w) (dje : ∀ r a, a ∈ fp1 r → a ∉ fe) (newe : ∀ a ∈ fe, Rg T1 fp a ∨ H a = none) :
  ∃ fu, Own C.K F1 H1 u w fu ∧ fu.Nodup ∧ (∀ a ∈ fu, a ∈ fp1 r) ∧ ∀ (H' : Hp) (u' : SV) (fu' : List Addr), (∀ a o, H1 a = some o → a ∉ fu → H' a = some o) → (∀ a o, H1 a = some o → ∃ o', H' a = some o') →
   Own C.K F1 H' u' w fu' → fu'.Nodup → (∀ a ∈ fu', a ∈ fu ∨ a ∈ fe) →
   ∃ fp', Post C AV F H σ S fp (T1 ++ [r]) (S1.put r (t.setAt p u')) F1 H' fp' ∧ ∀ r' a, a ∈ fp' r' → (a ∈ fp1 r' ∧ a ∉ fu) ∨ a ∈ fu' := by
 obtain ⟨fu, c2, c3, c4, c5⟩ := p1.st.write (fe := fe) e hs hv hw dje
 refine ⟨fu, c2, c3, c4, fun H' u' fu' k dom ou nd hf => ?_⟩
 obtain ⟨fr, st, evo2, d3, other⟩ := c5 H' u' fu' k dom ou nd hf
 have rgr := p1.rgr r
 refine ⟨updF fp1 r fr, ⟨st, p1.evo.mono (fun a h => Rg.app.mpr (.inl h)) |>.trans evo2 fun a h => ?_, fun r' hr => ?_, fun r' a ha => ?_⟩, fun r' a ha => ?_⟩
 ·obtain ⟨r', h1, h2⟩ := h
  cases List.mem_singleton.mp h1
  exact rgr a h2
 ·have h1 : r' ∉ T1 := fun z => hr (List.mem_append.mpr (.inl z))
  have h2 : r' ≠ r := fun z => hr (List.mem_append.mpr (.inr (List.mem_singleton.mpr z)))
  rw [updF_ne h2, put_get_ne h2]
  exact p1.same r' h1
 ·by_cases z : r' = r
  ·subst z
   rw [updF_same] at ha
   rcases d3 a ha with ⟨y, _⟩ | y
   ·rcases rgr a y with q | q
    ·exact .inl q
    ·exact .inr (.inl q)
   ·rcases hf a y with q | q
    ·rcases rgr a (c4 a q) with q | q
     ·exact .inl q
     ·exact .inr (.inl q)
    ·rcases newe a q with q | q
     ·exact .inl (Rg.app.mpr (.inl q))
     ·exact .inr (.inl q)
  ·rw [updF_ne z] at ha
   rcases p1.new r' a ha with y | y | y
   ·exact .inl (Rg.app.mpr (.inl y))
   ·exact .inr (.inl y)
   ·exact .inr (.inr fun q => by
     rcases List.mem_append.mp q with q | q
     ·exact y q
     ·exact z (List.mem_singleton.mp q))
 ·by_cases z : r' = r
  ·subst z
   rw [updF_same] at ha
   exact d3 a ha
  ·rw [updF_ne z] at ha
   exact .inl ⟨ha, other r' a z ha⟩
theorem own_written {K : PySem.W.Frag} {a : Addr} {xs' : List SV} {vs' : List V} {fq' : List Addr} (hF : F1 a = none) (o : OwnL K F1 H1 xs' vs' fq') (ha : a ∉ fq') : Own K F1 (upd H1 a (.lst vs')) (.lst xs') (.ref a) (a :: fq') := by
 unfold Own
 refine ⟨a, vs', fq', rfl, rfl, upd_same, hF, ownL_keep (fun _ _ h => h) _ _ _ o fun b hb => ⟨?_, (ownL_fp _ _ _ o b hb).1⟩⟩
 exact upd_ne fun z => ha (by rw [← z]; exact hb)
end
def rM (K : PySem.W.Frag) (g : SV → List SV → Option (SV × SV)) : V → List V → Hp → VK → Prop := fun x xs H Q => ∃ F u fu ts z u', (∀ a o, F a = some o → H a = some o) ∧ Own K F H u x fu ∧ fu.Nodup ∧ OwnA K F H ts xs ∧ g u ts = some (z, u') ∧
 ∀ H' v fu' fz, (∀ a o, H a = some o → a ∉ fu → H' a = some o) → (∀ a o, H a = some o → ∃ o', H' a = some o') → Own K F H' u' x fu' → Own K F H' z v fz → (fu' ++ fz).Nodup → (∀ a ∈ fu' ++ fz, a ∈ fu) → Q v H'
def rA1 (K : PySem.W.Frag) : V → List V → Hp → VK → Prop := fun x xs H Q => ∃ F us fu t ft, (∀ a o, F a = some o → H a = some o) ∧ Own K F H (.lst us) x fu ∧ fu.Nodup ∧ us.length < sizeLine ∧ (∃ y, xs = [y] ∧ Own K F H t y ft) ∧ ft.Nodup ∧ (∀ a ∈ fu, a ∉ ft) ∧
 ∀ H' fu', (∀ a o, H a = some o → a ∉ fu → H' a = some o) → (∀ a o, H a = some o → ∃ o', H' a = some o') → Own K F H' (.lst (us ++ [t])) x fu' → fu'.Nodup → (∀ a ∈ fu', a ∈ fu ∨ a ∈ ft) → Q .non H'
section
variable {X : Cx} {K : PySem.W.Frag} {F H : Hp}
theorem ownA_1' {t : SV} {xs : List V} (h : OwnA K F H [t] xs) : ∃ x f, xs = [x] ∧ Own K F H t x f := by
 cases h with
 | cons a b => cases b; exact ⟨_, _, rfl, a⟩
theorem upd_off {a : Addr} {o ob : HO} {b : Addr} {fq : List Addr} (h : H b = some ob) (hn : b ∉ a :: fq) : upd H a o b = some ob := by
 rw [upd_ne fun z => hn (by rw [z]; exact List.mem_cons_self)]
 exact h
theorem upd_dom {a : Addr} {o ob : HO} {b : Addr} (h : H b = some ob) : ∃ o', upd H a o b = some o' := by
 by_cases z : b = a
 ·subst z; exact ⟨_, upd_same⟩
 ·exact ⟨ob, by rw [upd_ne z]; exact h⟩
theorem mm_append : MtM X "list.append" (rA1 X.K) := by
 intro pins s σ H x vs v us Q I rx rv ⟨F, xs, fu, t, ft, fh, o, nd, hz, ⟨y, ey, oy⟩, ndt, dj, q⟩
 unfold Own at o
 obtain ⟨a, ws, fq, rfl, rfl, h1, h2, h3⟩ := o
 obtain ⟨na, nq⟩ := List.nodup_cons.mp nd
 subst ey
 refine mt_append pins s σ H _ _ v us Q I rx rv ⟨a, ws, y, rfl, rfl, h1, by rw [← ownL_len h3]; exact hz, ?_⟩
 have hl := ownL_app h3 oy
 have nin : a ∉ fq ++ ft := fun z => by
  rcases List.mem_append.mp z with z | z
  ·exact na z
  ·exact dj a List.mem_cons_self z
 refine q _ (a :: (fq ++ ft)) (fun b ob hb hn => upd_off hb hn) (fun b ob hb => upd_dom hb) (own_written h2 hl nin) (List.nodup_cons.mpr ⟨nin, List.nodup_append.mpr ⟨nq, ndt, fun b hb c hc e => dj b (List.mem_cons_of_mem _ hb) (by rw [e]; exact hc)⟩⟩) fun b hb => ?_
 rcases List.mem_cons.mp hb with z | z
 ·exact .inl (by rw [z]; exact List.mem_cons_self)
 ·rcases List.mem_append.mp z with z | z
  ·exact .inl (List.mem_cons_of_mem _ z)
  ·exact .inr z
theorem ownL_erase : ∀ {xs : List SV} {vs : List V} {f : List Addr} {k : Nat} {x : SV}, OwnL K F H xs vs f → xs[k]? = some x → f.Nodup → ∃ v fx f', vs[k]? = some v ∧ Own K F H x v fx ∧ OwnL K F H (xs.eraseIdx k) (vs.eraseIdx k) f' ∧ (f' ++ fx).Nodup ∧ ∀ a ∈ f' ++ fx, a ∈ f
 | [], _, _, k, x, h, e, _ => by simp at e
 | y :: ys, vs, f, 0, x, h, e, nd => by
  unfold OwnL at h
  obtain ⟨v, r, f1, g1, rfl, rfl, h1, h2⟩ := h
  have e' : y = x := by simpa using e
  subst e'
  obtain ⟨n1, n2, n3⟩ := List.nodup_append.mp nd
  exact ⟨v, f1, g1, rfl, h1, h2, List.nodup_append.mpr ⟨n2, n1, fun a ha b hb z => n3 b hb a ha z.symm⟩, fun a ha => by rcases List.mem_append.mp ha with z | z <;> simp [z]⟩
 | y :: ys, vs, f, k + 1, x, h, e, nd => by
  unfold OwnL at h
  obtain ⟨v, r, f1, g1, rfl, rfl, h1, h2⟩ := h
  obtain ⟨n1, n2, n3⟩ := List.nodup_append.mp nd
  obtain ⟨w, fx, f', a1, a2, a3, a4, a5⟩ := ownL_erase h2 (by simpa using e) n2
  refine ⟨w, fx, f1 ++ f', by simpa using a1, a2, ?_, ?_, fun a ha => ?_⟩
  ·show OwnL K F H (y :: ys.eraseIdx k) (v :: r.eraseIdx k) _
   unfold OwnL
   exact ⟨v, _, f1, f', rfl, rfl, h1, a3⟩
  ·rw [List.append_assoc]
   exact List.nodup_append.mpr ⟨n1, a4, fun a ha b hb z => n3 a ha b (a5 b hb) z⟩
  ·rw [List.append_assoc] at ha
   rcases List.mem_append.mp ha with z | z
   ·exact List.mem_append.mpr (.inl z)
   ·exact List.mem_append.mpr (.inr (a5 a z))
def gPopAt : SV → List SV → Option (SV × SV)
 | .lst xs, [.fz (.int i)] => if -(2 ^ 63) ≤ i ∧ i < 2 ^ 63 then match seqIndex? i xs.length with
  | some k => match xs[k]? with
   | some x => some (x, .lst (xs.eraseIdx k))
   | none => none
  | none => none
  else none
 | _, _ => none
theorem pop_core {a : Addr} {xs : List SV} {ws : List V} {fq : List Addr} {k : Nat} {x : SV} {Q : VK} (h2 : F a = none) (h3 : OwnL K F H xs ws fq) (nd : (a :: fq).Nodup) (e : xs[k]? = some x)
  (q : ∀ H' v fu' fz, (∀ b o, H b = some o → b ∉ a :: fq → H' b = some o) → (∀ b o, H b = some o → ∃ o', H' b = some o') → Own K F H' (.lst (xs.eraseIdx k)) (.ref a) fu' → Own K F H' x v fz → (fu' ++ fz).Nodup → (∀ b ∈ fu' ++ fz, b ∈ a :: fq) → Q v H') :
  ∃ y, ws[k]? = some y ∧ Q y (upd H a (.lst (ws.eraseIdx k))) := by
 obtain ⟨na, nq⟩ := List.nodup_cons.mp nd
 obtain ⟨w, fx, f', a1, a2, a3, a4, a5⟩ := ownL_erase h3 e nq
 have n1 : a ∉ f' := fun z => na (a5 a (List.mem_append.mpr (.inl z)))
 have n2 : a ∉ fx := fun z => na (a5 a (List.mem_append.mpr (.inr z)))
 refine ⟨w, a1, q _ w (a :: f') fx (fun b ob hb hn => upd_off hb hn) (fun b ob hb => upd_dom hb) (own_written h2 a3 n1) (own_keep (fun _ _ h => h) _ _ _ a2 fun b hb => ⟨upd_ne fun z => n2 (by rw [← z]; exact hb), (own_fp _ _ _ a2 b hb).1⟩) ?_ fun b hb => ?_⟩
 ·show (a :: (f' ++ fx)).Nodup
  exact List.nodup_cons.mpr ⟨fun z => na (a5 a z), a4⟩
 ·rcases List.mem_cons.mp (show b ∈ a :: (f' ++ fx) from hb) with z | z
  ·rw [z]; exact List.mem_cons_self
  ·exact List.mem_cons_of_mem _ (a5 b z)
theorem mm_popAt : MtM X "list.pop" (rM X.K gPopAt) := by
 intro pins s σ H x vs v us Q I rx rv ⟨F, u, fu, ts, z, u', fh, o, nd, oa, e, q⟩
 unfold gPopAt at e
 split at e
 ·rename_i xs i
  split at e
  ·rename_i hi
   split at e
   ·rename_i k hk
    split at e
    ·rename_i y hy
     cases e
     unfold Own at o
     obtain ⟨a, ws, fq, rfl, rfl, h1, h2, h3⟩ := o
     obtain ⟨iv, f, rfl, oi⟩ := ownA_1' oa
     obtain ⟨w, hw, fin⟩ := pop_core h2 h3 nd hy q
     exact mt_popAt pins s σ H _ _ v us Q I rx rv ⟨a, ws, i, k, w, rfl, by rw [fz_int oi], h1, hi.1, hi.2, by rw [← ownL_len h3]; exact hk, hw, fin⟩
    ·cases e
   ·cases e
  ·cases e
 ·cases e
end
section
variable {X : Cx} {EX : Hp → V → Str → Option PyData → Prop} {W : WX} {e a b c o : Expr} {es : List Expr} {pos apos cpos : Pos} {fo fa fb fc : DS → Out EV} {fr : DS → Out (List EV)} {C : Cn}
def EV.isL (S : DS) (e : EV) : Bool := match e.tree S with
 | some (.lst _) => true
 | _ => false
def eApp (fo fa : DS → Out EV) : DS → Out EV := fun S =>
 (fo S).bindT fun eo S1 _ => if eo.isL S1 = true then (fa S1).bindT fun ea S2 T2 => match eo, ea with
  | .pk r p, .sv y => if eo.stable T2 = true then match S2.get r with
   | some t => match t.sub p with
    | some (.lst xs) => if xs.length < sizeLine then .ok (.sv (.fz .none)) (S2.put r (t.setAt p (.lst (xs ++ [y])))) [r] else .fail
    | _ => .fail
   | none => .fail
   else .fail
  | _, _ => .fail
  else .fail
def eMut (g : SV → List SV → Option (SV × SV)) (fo : DS → Out EV) (fr : DS → Out (List EV)) : DS → Out EV := fun S =>
 (fo S).bindT fun eo S1 _ => if eo.isL S1 = true then (fr S1).bindT fun es S2 T2 => match eo with
  | .pk r p => if eo.stable T2 = true then match S2.get r, trees S2 es with
   | some t, some ts => match t.sub p with
    | some u => match g u ts with
     | some (z, u') => .ok (.sv z) (S2.put r (t.setAt p u')) [r]
     | none => .fail
    | none => .fail
   | _, _ => .fail
   else .fail
  | _ => .fail
  else .fail
theorem isL_ty {AV : List V} {F H : Hp} {σ : L2.St} {S : DS} {fp : Rt → List Addr} {v : V} {e : EV} {fe : List Addr} (st : StOk C AV F H σ S fp) (o : EOk C AV F H σ v e fe) (h : e.isL S = true) : tyV C.K "list" v H := by
 unfold EV.isL at h
 split at h
 ·rename_i xs ht
  obtain ⟨f, ow⟩ := o.tree st ht
  unfold Own at ow
  obtain ⟨a, vs, fq, rfl, _, h1, _⟩ := ow
  exact .inl ⟨rfl, vs, .inl (.inl h1)⟩
 ·cases h
theorem tApp_LE : ∀ σ H Q, LE C W (eApp fo fa) σ H Q → tBM C.K "list" (rA1 C.K) (LE C W fo) (tCons (LE C W fa) tNil) σ H Q := by
 intro σ H Q ⟨AV, F, S, fp, st, q⟩
 unfold eApp at q
 refine ⟨AV, F, S, fp, st, wp_mono (wp_bindT q) fun eo S1 T1 q1 F1 H1 fp1 v fe p1 v1 => ?_⟩
 have q1' := q1 F1 H1 fp1 p1.evA
 split at q1'
 ·rename_i hL
  refine ⟨isL_ty p1.st v1.val hL, AV, F1, S1, fp1, p1.st, wp_mono (wp_bindT q1') fun ea S2 T2 q2 F2 H2 fp2 y fy p2 v2 => ?_⟩
  have q2' := q2 F2 H2 fp2 p2.evA
  split at q2'
  ·rename_i r p t
   split at q2'
   ·rename_i hst
    split at q2'
    ·rename_i tr ht
     split at q2'
     ·rename_i xs hs
      split at q2'
      ·rename_i hz
       have v1' := v1.later p1 p2 hst (by show (EV.tree S2 (.pk r p)).isSome = true; unfold EV.tree; dsimp only; rw [ht]; dsimp only; rw [hs]; rfl)
       have p12 := p1.trans p2
       obtain ⟨_, v0, hv0, hw⟩ := v1'.val
       have oy : Own C.K F2 H2 t y fy := v2.val
       have newy : ∀ a ∈ fy, Rg (T1 ++ T2) fp a ∨ H a = none := fun a ha => by
        rcases v2.new a ha with z | z
        ·exact p1.rg z
        ·exact .inr (p1.evo.none_back z)
       obtain ⟨fu, c1, c2, c3, c4⟩ := p12.write ht hs hv0 hw v2.dj newy
       refine ⟨F2, xs, fu, t, fy, p2.st.fh, c1, c2, hz, ⟨y, rfl, oy⟩, v2.nd, fun a ha => v2.dj r a (c3 a ha), fun H' fu' k dom ou nd hf => ?_⟩
       obtain ⟨fp', P, _⟩ := c4 H' _ fu' k dom ou nd hf
       rw [List.append_assoc] at P
       exact q2' F2 H' fp' .non [] P (vp_fz .non)
      ·exact q2'.elim
     ·exact q2'.elim
    ·exact q2'.elim
   ·exact q2'.elim
  ·exact q2'.elim
 ·exact q1'.elim
theorem tMut_LE {g : SV → List SV → Option (SV × SV)} : ∀ σ H Q, LE C W (eMut g fo fr) σ H Q → tBM C.K "list" (rM C.K g) (LE C W fo) (LA C W fr) σ H Q := by
 intro σ H Q ⟨AV, F, S, fp, st, q⟩
 unfold eMut at q
 refine ⟨AV, F, S, fp, st, wp_mono (wp_bindT q) fun eo S1 T1 q1 F1 H1 fp1 v fe p1 v1 => ?_⟩
 have q1' := q1 F1 H1 fp1 p1.evA
 split at q1'
 ·rename_i hL
  refine ⟨isL_ty p1.st v1.val hL, AV, F1, S1, fp1, p1.st, wp_mono (wp_bindT q1') fun es S2 T2 q2 F2 H2 fp2 ys fy p2 v2 => ?_⟩
  have q2' := q2 F2 H2 fp2 p2.evA
  split at q2'
  ·rename_i r p
   split at q2'
   ·rename_i hst
    split at q2'
    ·rename_i tr ts ht hts
     split at q2'
     ·rename_i u hs
      split at q2'
      ·rename_i z u' hg
       have v1' := v1.later p1 p2 hst (by show (EV.tree S2 (.pk r p)).isSome = true; unfold EV.tree; dsimp only; rw [ht]; dsimp only; rw [hs]; rfl)
       have p12 := p1.trans p2
       obtain ⟨_, v0, hv0, hw⟩ := v1'.val
       obtain ⟨fu, c1, c2, c3, c4⟩ := p12.write (fe := []) ht hs hv0 hw (fun _ _ _ h => by cases h) (fun a h => by cases h)
       refine ⟨F2, u, fu, ts, z, u', p2.st.fh, c1, c2, ownA_of p2.st v2.ln v2.val hts, hg, fun H' w fu' fz k dom ou oz nd hf => ?_⟩
       obtain ⟨n1, n2, n3⟩ := List.nodup_append.mp nd
       obtain ⟨fp', P, P2⟩ := c4 H' u' fu' k dom ou n1 fun a ha => .inl (hf a (List.mem_append.mpr (.inl ha)))
       rw [List.append_assoc] at P
       refine q2' F2 H' fp' w fz P ⟨oz, fun r' a ha hz => ?_, n2, fun a ha => ?_, rfl⟩
       ·have hu := hf a (List.mem_append.mpr (.inr hz))
        rcases P2 r' a ha with ⟨_, y⟩ | y
        ·exact y hu
        ·exact n3 a y a hz rfl
       ·have hu := c3 a (hf a (List.mem_append.mpr (.inr ha)))
        rcases p12.new r a hu with y | y | y
        ·rw [← List.append_assoc]; exact .inl (Rg.app.mpr (.inl y))
        ·exact .inr y
        ·rw [← List.append_assoc]; exact .inl (Rg.app.mpr (.inr ⟨r, List.mem_singleton.mpr rfl, by rw [← (p12.same r y).1]; exact hu⟩))
      ·exact q2'.elim
     ·exact q2'.elim
    ·exact q2'.elim
   ·exact q2'.elim
  ·exact q2'.elim
 ·exact q1'.elim
theorem de_append (ho : DE X EX W o fo) (ha : DE X EX W e fa) (hbase : attributeBase o "append" X.env (eval o X.env) = eval o X.env := by rfl)
  (hfew : ((backTo cpos (starEach [e] X.env)).all (fun x => !x.1) && (backToKw cpos (keywordEach [] X.env)).all (fun x => x.1.isSome) && decide (([e] : List Expr).length + ([] : List Keyword).length + (if ([] : List Keyword).isEmpty then 0 else 1) < 30)) = true := by rfl)
  (hline : (apos.endLine == cpos.line) = true := by rfl) (hs : starEach [e] X.env = (false, eval e X.env) :: starEach [] X.env := by rfl) (hplain : (backTo cpos (starEach [] X.env)).any (·.1) = false := by rfl) :
  DE X EX W (.Call (.Attribute o "append" apos) [e] [] cpos) (eApp fo fa) :=
 pe_of (pe_bm PySem.F.plainAttrs_list PySem.F.slot_list_append (by with_unfolding_all rfl) (mm_append) ho (pa_cons ha pa_nil hs) hbase hfew hline hs hplain) (tApp_LE (C := cnOf X EX))
theorem de_mut {name : Str} {id : String} {g : SV → List SV → Option (SV × SV)} (hm : MtM X id (rM X.K g)) (slot : Slot "list" name id) (hty : typeOf (.builtin id) = pure (.type "method_descriptor")) (ho : DE X EX W o fo) (ha : DA X EX W (e :: es) fr) (hbase : attributeBase o name X.env (eval o X.env) = eval o X.env := by rfl)
  (hfew : ((backTo cpos (starEach (e :: es) X.env)).all (fun x => !x.1) && (backToKw cpos (keywordEach [] X.env)).all (fun x => x.1.isSome) && decide ((e :: es).length + ([] : List Keyword).length + (if ([] : List Keyword).isEmpty then 0 else 1) < 30)) = true := by rfl)
  (hline : (apos.endLine == cpos.line) = true := by rfl) (hs : starEach (e :: es) X.env = (false, eval e X.env) :: starEach es X.env := by rfl) (hplain : (backTo cpos (starEach es X.env)).any (·.1) = false := by rfl) :
  DE X EX W (.Call (.Attribute o name apos) (e :: es) [] cpos) (eMut g fo fr) :=
 pe_of (pe_bm PySem.F.plainAttrs_list slot hty hm ho ha hbase hfew hline hs hplain) (tMut_LE (C := cnOf X EX))
end
section
variable {X : Cx} {K : PySem.W.Frag} {F H : Hp}
end
end Y
set_option maxRecDepth 100000
set_option maxHeartbeats 4000000
namespace Y
open PySem PySem.Spec L2
section
variable {κ : Type} [DecidableEq κ] {K : PySem.W.Frag} {F H : Hp}
theorem putK_ne {p : κ × V} {r : List (κ × V)} {k : κ} {v : V} (h : p.1 ≠ k) : putK (p :: r) k v = p :: putK r k v := by
 unfold putK
 rw [List.any_cons, decide_eq_false h, Bool.false_or]
 split
 ·rw [List.map_cons, if_neg h]
 ·rfl
theorem putK_eq {p : κ × V} {r : List (κ × V)} {k : κ} {v : V} (h : p.1 = k) (hn : ∀ q ∈ r, q.1 ≠ k) : putK (p :: r) k v = (p.1, v) :: r := by
 unfold putK
 rw [List.any_cons, decide_eq_true h, Bool.true_or, if_pos rfl, List.map_cons, if_pos h]
 congr 1
 have : r.map (fun kv => if kv.1 = k then (kv.1, v) else kv) = r.map id := List.map_congr_left fun q hq => by rw [if_neg (hn q hq)]; rfl
 rw [this, List.map_id]
theorem ownD_put (c : κ → DKey) (inj : ∀ a b, c a = c b → a = b) {t : SV} {v : V} {ft : List Addr} (ot : Own K F H t v ft) (ndt : ft.Nodup) (k : κ) : ∀ {kvs : List (DKey × SV)} {fq : List Addr} {ws : List (κ × V)}, OwnD K F H kvs (ws.map (·.2)) fq → ws.map (fun p => c p.1) = kvs.map (·.1) → (kvs.map (·.1)).Nodup →
  fq.Nodup → (∀ a ∈ fq, a ∉ ft) → ∃ fq', OwnD K F H (dput kvs (c k) t) ((putK ws k v).map (·.2)) fq' ∧ (putK ws k v).map (fun p => c p.1) = (dput kvs (c k) t).map (·.1) ∧ fq'.Nodup ∧ ∀ a ∈ fq', a ∈ fq ∨ a ∈ ft
 | [], fq, ws, h, e, _, nq, dj => by
  cases ws with
  | cons p r => simp at e
  | nil =>
   unfold OwnD at h
   refine ⟨ft, ?_, rfl, ndt, fun a ha => .inr ha⟩
   show OwnD K F H [(c k, t)] [v] ft
   unfold OwnD
   exact ⟨v, [], ft, [], rfl, by simp, ot, by unfold OwnD; exact ⟨rfl, rfl⟩⟩
 | (k0, x) :: kvs, fq, ws, h, e, nk, nq, dj => by
  cases ws with
  | nil => simp at e
  | cons p r =>
   rw [List.map_cons, List.map_cons] at e
   injection e with e1 e2
   rw [List.map_cons] at nk
   obtain ⟨nk1, nk2⟩ := List.nodup_cons.mp nk
   unfold OwnD at h
   obtain ⟨v1, r1, f1, g1, e3, rfl, h1, h2⟩ := h
   rw [List.map_cons] at e3
   injection e3 with e3 e4
   subst e4
   obtain ⟨n1, n2, n3⟩ := List.nodup_append.mp nq
   dsimp only at e1
   by_cases z : k0 = c k
   ·have pk : p.1 = k := inj _ _ (by rw [← z]; exact e1)
    have hn : ∀ q ∈ r, q.1 ≠ k := fun q hq hz => nk1 (by
     dsimp only
     rw [z, ← hz, ← e2]
     exact List.mem_map.mpr ⟨q, hq, rfl⟩)
    refine ⟨ft ++ g1, ?_, ?_, List.nodup_append.mpr ⟨ndt, n2, fun a ha b hb y => dj b (List.mem_append.mpr (.inr hb)) (by rw [← y]; exact ha)⟩, fun a ha => ?_⟩
    ·rw [putK_eq pk hn]
     unfold dput
     rw [if_pos z]
     unfold OwnD
     exact ⟨v, _, ft, g1, rfl, rfl, ot, h2⟩
    ·rw [putK_eq pk hn]
     unfold dput
     rw [if_pos z, List.map_cons, List.map_cons, e2]
     dsimp only
     rw [e1]
    ·rcases List.mem_append.mp ha with y | y
     ·exact .inr y
     ·exact .inl (List.mem_append.mpr (.inr y))
   ·have pk : p.1 ≠ k := fun y => z (by rw [← e1, y])
    obtain ⟨fq', a1, a2, a3, a4⟩ := ownD_put c inj ot ndt k (ws := r) h2 e2 nk2 n2 fun a ha => dj a (List.mem_append.mpr (.inr ha))
    refine ⟨f1 ++ fq', ?_, ?_, List.nodup_append.mpr ⟨n1, a3, fun a ha b hb y => ?_⟩, fun a ha => ?_⟩
    ·rw [putK_ne pk]
     unfold dput
     rw [if_neg z]
     unfold OwnD
     exact ⟨v1, _, f1, fq', by rw [List.map_cons, e3], rfl, h1, a1⟩
    ·rw [putK_ne pk]
     unfold dput
     rw [if_neg z, List.map_cons, List.map_cons, a2]
     dsimp only
     rw [e1]
    ·rcases a4 b hb with q | q
     ·exact n3 a ha b q y
     ·exact dj a (List.mem_append.mpr (.inl ha)) (by rw [y]; exact q)
    ·rcases List.mem_append.mp ha with y | y
     ·exact .inl (List.mem_append.mpr (.inl y))
     ·rcases a4 a y with q | q
      ·exact .inl (List.mem_append.mpr (.inr q))
      ·exact .inr q
end
section
variable {X : Cx} {K : PySem.W.Frag} {F H : Hp}
def gSetIx (u ti t : SV) : Option SV := match u with
 | .lst xs => match ti with
  | .fz (.int i) => match ixN xs.length i with
   | some k => some (.lst (xs.set k t))
   | none => none
  | _ => none
 | .dic b kvs => match toKey b ti with
  | some k => if kvs.length < sizeLine ∧ (kvs.map (·.1)).Nodup then some (.dic b (dput kvs k t)) else none
  | none => none
 | _ => none
def rSetG (K : PySem.W.Frag) : V → V → V → Hp → (Hp → Prop) → Prop := fun o i v H Q => ∃ F u ti t u' fu fi ft, (∀ a o, F a = some o → H a = some o) ∧ Own K F H u o fu ∧ fu.Nodup ∧ Own K F H ti i fi ∧ Own K F H t v ft ∧ ft.Nodup ∧ (∀ a ∈ fu, a ∉ ft) ∧ gSetIx u ti t = some u' ∧
 ∀ H' fu', (∀ a o, H a = some o → a ∉ fu → H' a = some o) → (∀ a o, H a = some o → ∃ o', H' a = some o') → Own K F H' u' o fu' → fu'.Nodup → (∀ a ∈ fu', a ∈ fu ∨ a ∈ ft) → Q H'
theorem own_dwritten {b : Bool} {a : Addr} {kvs : List (DKey × SV)} {us : List V} {fq : List Addr} {ob : HO} (hF : F a = none) (o : OwnD K F H kvs us fq) (ha : a ∉ fq)
  (hob : (b = false ∧ ∃ ws, ob = .dK ws ∧ ws.map (fun p => DKey.k p.1) = kvs.map (·.1) ∧ us = ws.map (·.2)) ∨ (b = true ∧ ∃ ws, ob = .dT ws ∧ ws.map (fun p => DKey.t p.1) = kvs.map (·.1) ∧ us = ws.map (·.2))) : Own K F (upd H a ob) (.dic b kvs) (.ref a) (a :: fq) := by
 unfold Own
 refine ⟨a, us, fq, rfl, rfl, hF, ownD_keep (fun _ _ h => h) _ _ _ o fun c hc => ⟨upd_ne fun z => ha (by rw [← z]; exact hc), (ownD_fp _ _ _ o c hc).1⟩, ?_⟩
 rcases hob with ⟨h1, ws, h2, h3, h4⟩ | ⟨h1, ws, h2, h3, h4⟩
 ·exact .inl ⟨h1, ws, by rw [← h2]; exact upd_same, h3, h4⟩
 ·exact .inr ⟨h1, ws, by rw [← h2]; exact upd_same, h3, h4⟩
theorem set_all (hu : X.A.units + 1 < cLine) : PSet X (rSetG X.K) := by
 intro pins s σ H o i v ov iv u Q I ro ri rv ⟨F, tu, ti, t, u', fu, fi, ft, fh, ou, nu, oi, ot, nt, dj, e, q⟩
 cases tu with
 | fz d => cases e
 | ro d => cases e
 | fd _ _ => cases e
 | tb _ _ => cases e
 | gone => cases e
 | nd _ => cases e
 | ob _ _ _ => cases e
 | nq _ => cases e
 | ne _ => cases e
 | lst xs =>
  unfold gSetIx at e
  dsimp only at e
  split at e
  ·rename_i k
   split at e
   ·rename_i j hj
    cases e
    unfold Own at ou
    obtain ⟨a, ws, fq, rfl, rfl, h1, h2, h3⟩ := ou
    obtain ⟨na, nq⟩ := List.nodup_cons.mp nu
    have hjl : j < xs.length := (ixN_seq hj).2.1
    obtain ⟨w, f1, fx, f2, c1, c2, c3, c4⟩ := ownL_at h3 (List.getElem?_eq_getElem hjl)
    subst c2
    have ol := c4 F H t v ft (fun _ _ h => h) (fun b hb => ⟨rfl, (ownL_fp _ _ _ h3 b (by rcases List.mem_append.mp hb with z | z <;> simp [z])).1⟩) ot
    refine set_list pins s σ H _ i v ov iv u Q I ro ri rv ⟨a, ws, k, j, rfl, fz_int oi, h1, by rw [← ownL_len h3]; exact hj, ?_⟩
    obtain ⟨m1, m2, m3⟩ := List.nodup_append.mp nq
    obtain ⟨m4, m5, m6⟩ := List.nodup_append.mp m2
    have nin : a ∉ f1 ++ (ft ++ f2) := fun z => by
     rcases List.mem_append.mp z with z | z
     ·exact na (by simp [z])
     ·rcases List.mem_append.mp z with z | z
      ·exact dj a List.mem_cons_self z
      ·exact na (by simp [z])
    refine q _ (a :: (f1 ++ (ft ++ f2))) (fun b ob hb hn => upd_off hb hn) (fun b ob hb => upd_dom hb) (own_written h2 ol nin) (List.nodup_cons.mpr ⟨nin, ?_⟩) fun b hb => ?_
    ·refine List.nodup_append.mpr ⟨m1, List.nodup_append.mpr ⟨nt, m5, fun b hb c hc y => dj c (by simp [hc]) (by rw [← y]; exact hb)⟩, fun b hb c hc y => ?_⟩
     rcases List.mem_append.mp hc with z | z
     ·exact dj b (by simp [hb]) (by rw [y]; exact z)
     ·exact m3 b hb c (by simp [z]) y
    ·rcases List.mem_cons.mp hb with z | z
     ·exact .inl (by rw [z]; exact List.mem_cons_self)
     ·rcases List.mem_append.mp z with z | z
      ·exact .inl (by simp [z])
      ·rcases List.mem_append.mp z with z | z
       ·exact .inr z
       ·exact .inl (by simp [z])
   ·cases e
  ·cases e
 | dic b kvs =>
  unfold gSetIx at e
  dsimp only at e
  split at e
  ·rename_i k hk
   split at e
   ·rename_i hz
    cases e
    obtain ⟨hz, hnd⟩ := hz
    unfold Own at ou
    obtain ⟨a, us, fq, rfl, rfl, h2, h3, h4⟩ := ou
    obtain ⟨na, nq⟩ := List.nodup_cons.mp nu
    have fin : ∀ (ob : HO) (kvs' : List (DKey × SV)) (us' : List V) (fq' : List Addr), OwnD X.K F H kvs' us' fq' → fq'.Nodup → (∀ c ∈ fq', c ∈ fq ∨ c ∈ ft) →
      ((b = false ∧ ∃ ws, ob = .dK ws ∧ ws.map (fun p => DKey.k p.1) = kvs'.map (·.1) ∧ us' = ws.map (·.2)) ∨ (b = true ∧ ∃ ws, ob = .dT ws ∧ ws.map (fun p => DKey.t p.1) = kvs'.map (·.1) ∧ us' = ws.map (·.2))) →
      kvs' = dput kvs k t → Q (upd H a ob) := by
     intro ob kvs' us' fq' o1 n1 n2 n3 n4
     subst n4
     have nin : a ∉ fq' := fun z => by
      rcases n2 a z with y | y
      ·exact na y
      ·exact dj a List.mem_cons_self y
     refine q _ (a :: fq') (fun b ob hb hn => upd_off hb hn) (fun b ob hb => upd_dom hb) (own_dwritten h2 o1 nin n3) (List.nodup_cons.mpr ⟨nin, n1⟩) fun c hc => ?_
     rcases List.mem_cons.mp hc with z | z
     ·exact .inl (by rw [z]; exact List.mem_cons_self)
     ·rcases n2 c z with y | y
      ·exact .inl (List.mem_cons_of_mem _ y)
      ·exact .inr y
    have djq : ∀ c ∈ fq, c ∉ ft := fun c hc => dj c (List.mem_cons_of_mem _ hc)
    refine set_dict hu pins s σ H _ i v ov iv u Q I ro ri rv ?_
    cases ti with
    | ro d => cases hk
    | lst _ => cases hk
    | dic _ _ => cases hk
    | fd _ _ => cases hk
    | tb _ _ => cases hk
    | gone => cases hk
    | nd _ => cases hk
    | ob _ _ _ => cases hk
    | nq _ => cases hk
    | ne _ => cases hk
    | fz d =>
     have hd := own_fz oi
     rcases h4 with ⟨rfl, ws, q1, q2, q3⟩ | ⟨rfl, ws, q1, q2, q3⟩
     ·have hk' : (match keyAt d with | some k => some (DKey.k k) | none => none) = some k := hk
      cases ek : keyAt d with
      | none => rw [ek] at hk'; cases hk'
      | some k' =>
       rw [ek] at hk'
       cases hk'
       have ey := keyAt_ok hd ek
       subst ey
       subst q3
       have hl : ws.length < sizeLine := by have := congrArg List.length q2; rw [List.length_map, List.length_map] at this; omega
       obtain ⟨fq', a1, a2, a3, a4⟩ := ownD_put DKey.k injK ot nt k' h3 q2 hnd nq djq
       exact ⟨a, _, rfl, DPut.k q1 hl, fin _ _ _ fq' a1 a3 a4 (.inl ⟨rfl, _, rfl, a2, rfl⟩) rfl⟩
     ·cases d with
      | _ => cases hk
   ·cases e
  ·cases e
end
section
variable {X : Cx} {EX : Hp → V → Str → Option PyData → Prop} {W : WX} {o i : Expr} {pos : Pos} {fo fi : DS → Out EV} {C : Cn}
def oSt (fo fi : DS → Out EV) (t : SV) : DS → Out Unit := fun S => (fo S).bindT fun eo S1 _ => (fi S1).bindT fun ei S2 T2 => match eo with
 | .pk r p => if eo.stable T2 = true then match S2.get r, ei.tree S2 with
  | some tr, some ti => match tr.sub p with
   | some u => match gSetIx u ti t with
    | some u' => .ok () (S2.put r (tr.setAt p u')) [r]
    | none => .fail
   | none => .fail
  | _, _ => .fail
  else .fail
 | _ => .fail
def gSt (fo fi : DS → Out EV) : SV → DS → SOut := fun t S => sBind (oSt fo fi t S) fun _ S' => .nx S'
theorem tSt_LG : ∀ v σ H Q, LG C W (gSt fo fi) v σ H Q → L2.gSub (LE C W fo) (LE C W fi) (rSetG C.K) v σ H Q := by
 intro v σ H Q ⟨AV, F, S, fp, t, fe, st, ot, dj, nd, q⟩
 have w : Wp C W AV F H σ fp (oSt fo fi t S) fun _ S' T => ∀ σ' F' H' fp', StOk C AV F' H' σ' S' fp' → Evo (fun a => Al fp a ∨ a ∈ fe) F H F' H' → (∀ a, Al fp' a → (Al fp a ∨ a ∈ fe) ∨ H a = none) → Q σ' H' := by
  unfold gSt sBind at q
  generalize oSt fo fi t S = z at q ⊢
  cases z with
  | fail => exact q.elim
  | ok x S' T => exact q
  | exc c d S' => exact fun F' H' fp' cls dd s1 ev ex => q σ F' H' fp' cls dd s1 (ev.evo.mono fun a h => .inl h) (fun a h => (ev.new a h).imp .inl id) ex
 clear q
 unfold oSt at w
 refine ⟨AV, F, S, fp, st, wp_mono (wp_bindT w) fun eo S1 T1 q1 F1 H1 fp1 x fx p1 v1 => ?_⟩
 have q1' := q1 F1 H1 fp1 p1.evA
 refine ⟨AV, F1, S1, fp1, p1.st, wp_mono (wp_bindT q1') fun ei S2 T2 q2 F2 H2 fp2 y fy p2 v2 => ?_⟩
 have q2' := q2 F2 H2 fp2 p2.evA
 split at q2'
 ·rename_i r p
  split at q2'
  ·rename_i hst
   split at q2'
   ·rename_i tr ti ht hti
    split at q2'
    ·rename_i u hs
     split at q2'
     ·rename_i u' hg
      have v1' := v1.later p1 p2 hst (by show (EV.tree S2 (.pk r p)).isSome = true; unfold EV.tree; dsimp only; rw [ht]; dsimp only; rw [hs]; rfl)
      have p12 := p1.trans p2
      obtain ⟨_, v0, hv0, hw⟩ := v1'.val
      obtain ⟨fi', oi⟩ := v2.val.tree p2.st hti
      have fk : ∀ a ∈ fe, H2 a = H a ∧ F2 a = none ∧ ∀ r, a ∉ fp2 r := fun a ha => by
       obtain ⟨f1, ob, f2⟩ := own_fp _ _ _ ot a ha
       exact free_keep st p12 f2 (own_nt _ _ _ ot a ha) f1 fun r hr => dj r a hr ha
      have ot2 : Own C.K F2 H2 t v fe := own_keep p12.evo.fsub _ _ _ ot fun a ha => ⟨(fk a ha).1, (fk a ha).2.1⟩
      obtain ⟨fu, c1, c2, c3, c4⟩ := p2.st.write (fe := fe) ht hs hv0 hw (fun r a ha hf => (fk a hf).2.2 r ha)
      refine ⟨F2, u, ti, t, u', fu, fi', fe, p2.st.fh, c1, c2, oi, ot2, nd, fun a ha hf => (fk a hf).2.2 r (c3 a ha), hg, fun H' fu' k dom ou nd' hf => ?_⟩
      obtain ⟨fr, st3, evo2, d3, _⟩ := c4 H' u' fu' k dom ou nd' hf
      have rgr : ∀ r a, a ∈ fp2 r → Al fp a ∨ H a = none := fun r a ha => (p12.rgr r a ha).imp (fun h => h.al) id
      refine q2' σ F2 H' _ st3 ((p12.evo.mono fun a h => .inl h.al).trans evo2 fun a h => ?_) fun a ⟨r', ha⟩ => ?_
      ·obtain ⟨r', h1, h2⟩ := h
       exact (rgr r' a h2).imp .inl id
      ·by_cases z : r' = r
       ·subst z
        rw [updF_same] at ha
        rcases d3 a ha with ⟨y, _⟩ | y
        ·exact (rgr r' a y).imp .inl id
        ·rcases hf a y with q | q
         ·exact (rgr r' a (c3 a q)).imp .inl id
         ·exact .inl (.inr q)
       ·rw [updF_ne z] at ha
        exact (rgr r' a ha).imp .inl id
     ·exact q2'.elim
    ·exact q2'.elim
   ·exact q2'.elim
  ·exact q2'.elim
 ·exact q2'.elim
theorem dg_st (hu : X.A.units + 1 < cLine) (ho : DE X EX W o fo) (hi : DE X EX W i fi)
  (ha : ∀ v, assign (.Subscript o i pos) X.env v = (do
   let ov ← holding [v] (eval o X.env)
   let iv ← holding [v, ov] (eval i X.env)
   standAt pos
   holding [v, ov, iv] (setItem ov iv v)
   release [v, ov, iv] []) := by intro _; rfl) : DG X EX W (.Subscript o i pos) (gSt fo fi) :=
 pg_of (pg_sub ho hi (set_all hu) ha) (tSt_LG (C := cnOf X EX))
end
end Y
set_option maxRecDepth 100000
set_option maxHeartbeats 4000000
namespace Y
open PySem PySem.Spec L2
inductive Ty where
 | non | bool | int | str | list | tuple | dict
 deriving DecidableEq
def Ty.name : Ty → String
 | .non => "NoneType"
 | .bool => "bool"
 | .int => "int"
 | .str => "str"
 | .list => "list"
 | .tuple => "tuple"
 | .dict => "dict"
def Ty.isa : Ty → Ty → Bool
 | .non, .non => true
 | .bool, .bool => true
 | .bool, .int => true
 | .int, .int => true
 | .str, .str => true
 | .list, .list => true
 | .tuple, .tuple => true
 | .dict, .dict => true
 | _, _ => false
theorem kit_isa (a b : Ty) : kitB a.name b.name = some (a.isa b) := by
 cases a <;> cases b <;> decide +kernel
def tyD : PyData → Option Ty
 | .none => some .non
 | .bool _ => some .bool
 | .int _ => some .int
 | .str _ => some .str
 | .list _ => some .list
 | .tuple _ => some .tuple
 | _ => none
def SV.ty : SV → Option Ty
 | .fz d => tyD d
 | .ro d => tyD d
 | .lst _ => some .list
 | .dic _ _ => some .dict
 | .fd _ _ => none
 | .tb _ _ => none
 | .gone => none
 | .nd _ => none
 | .ob _ _ _ => none
 | .nq _ => none
 | .ne _ => none
section
variable {K : PySem.W.Frag} {F H : Hp}
theorem dp_ty {d : PyData} {v : V} {t : Ty} (h : Dp K H v d) (e : tyD d = some t) : TyX K H v (.type t.name) := by
 cases h with
 | non => cases e; exact .base .non
 | bl b => cases e; exact .base (.bl b)
 | int b => cases e; exact .base (.int b)
 | str b => cases e; exact .base (.str b)
 | lst a b =>
  cases e
  rcases a with (a | ⟨o, a⟩) | ⟨o, its, n, a, c, _⟩
  ·exact .base (.lst a)
  ·exact .base (.frz a)
  ·exact .kList a c
 | tup a b =>
  cases e
  rcases a with (a | ⟨o, a⟩) | ⟨o, its, n, a, c, _⟩
  ·exact .base (.tup a)
  ·exact .fTuple a
  ·exact .kTuple a c
theorem own_ty (fh : ∀ a o, F a = some o → H a = some o) {t : SV} {v : V} {fp : List Addr} {n : Ty} (h : Own K F H t v fp) (e : t.ty = some n) : TyX K H v (.type n.name) := by
 cases t with
 | fz d => exact dp_ty (dp_mono fh d v (fz_dp d v (own_fz h))) e
 | ro d => unfold Own at h; exact dp_ty (dp_mono fh d v h.1) e
 | lst xs =>
  cases e
  unfold Own at h
  obtain ⟨a, vs, fq, rfl, _, h1, _⟩ := h
  exact .base (.lst h1)
 | dic b kvs =>
  cases e
  unfold Own at h
  obtain ⟨a, us, fq, rfl, _, _, _, ⟨_, ws, h1, _⟩ | ⟨_, ws, h1, _⟩⟩ := h
  ·exact .base (.dK h1)
  ·exact .base (.dT h1)
 | fd b kvs => cases e
 | tb _ _ => cases e
 | gone => cases e
 | nd _ => cases e
 | ob _ _ _ => cases e
 | nq _ => cases e
 | ne _ => cases e
end
section
variable {X : Cx} {EX : Hp → V → Str → Option PyData → Prop} {W : WX} {e a b c o : Expr} {es : List Expr} {p p2 pos : Pos} {fo fa fb fc : DS → Out EV} {fr : DS → Out (List EV)} {C : Cn}
def eIsi (T : Ty) (fa : DS → Out EV) : DS → Out EV := fun S => (fa S).bindT fun ea S1 _ => match ea.tree S1 with
 | some t => match t.ty with
  | some n => .ok (.sv (.fz (.bool (n.isa T)))) S1 []
  | none => .fail
 | none => .fail
theorem de_isi (T : Ty) {x : Str} (ha : DE X EX W a fa) (hg : Gl X "isinstance") (hm : X.mg "isinstance" = none) (hgT : Gl X x) (hmT : X.mg x = none) (hvT : bootBuiltins x = some (.type T.name))
  (hn : x ≠ "__name__" := by decide) (hd : (x == ("__debug__" : Str)) = false := by decide) (hs : starEach [a, .Name x p2] X.env = (false, eval a X.env) :: starEach [.Name x p2] X.env := by rfl)
  (hs2 : starEach [.Name x p2] X.env = (false, eval (.Name x p2) X.env) :: starEach [] X.env := by rfl) (hpl : (backTo pos (starEach [.Name x p2] X.env)).any (·.1) = false := by rfl) : DE X EX W (.Call (.Name "isinstance" p) [a, .Name x p2] [] pos) (eIsi T fa) := by
 refine pe_of (pe_callB call_isi hg hm (by with_unfolding_all rfl) (pa_cons ha (pa_cons (pe_bltn (v := .ty T.name) hgT hmT hvT rfl hn hd) pa_nil hs2) hs) (he := hs) (hpl := hpl)) fun σ H Q ⟨AV, F, S, fp, st, q⟩ => ?_
 unfold eIsi at q
 refine ⟨AV, F, S, fp, st, wp_mono (wp_bindT q) fun ea S1 T1 q1 F1 H1 fp1 v fe p1 v1 => ?_⟩
 have q1' := q1 F1 H1 fp1 p1.evA
 split at q1'
 ·rename_i t ht
  split at q1'
  ·rename_i n hn'
   obtain ⟨f, ot⟩ := v1.val.tree p1.st ht
   exact ⟨v, .ty T.name, .type n.name, .type T.name, n.isa T, rfl, .ty _, own_ty p1.st.fh ot hn', kit_ty (kit_isa n T), by have := q1' F1 H1 fp1 (.bl (n.isa T)) [] (by simpa using p1) (vp_fz (.bl _)); exact this⟩
  ·exact q1'.elim
 ·exact q1'.elim
theorem eok_int {AV : List V} {F H : Hp} {σ : L2.St} {v : V} {j : Int} {fe : List Addr} (h : EOk C AV F H σ v (.sv (.fz (.int j))) fe) : v = .int j := by
 have h' : Own C.K F H (.fz (.int j)) v fe := h
 exact fz_int h'
def rgB (a b : Int) : Bool := rgOk a b && decide ((b - a).toNat ≤ 16777216)
theorem rgB_ok {a b : Int} (h : rgB a b = true) : RgOk a b := by
 unfold rgB at h
 rw [Bool.and_eq_true, decide_eq_true_eq] at h
 obtain ⟨h1, h2, h3, h4⟩ := rgOk_ok h.1
 exact ⟨h1, h2, h3, h4, h.2⟩
theorem rgV_fz {F : Hp} (a b : Int) : FzAll F (rgV a b) (rangeL a (b - a).toNat) := by
 unfold rgV rangeL
 induction (List.range (b - a).toNat) with
 | nil => exact .nil
 | cons x r ih => exact .cons (.int _) ih
def iR1 (fa : DS → Out EV) : DS → Out (Int × Int) := fun S => (fa S).bindT fun ea S1 _ => match ea with
 | .sv (.fz (.int j)) => .ok (0, j) S1 []
 | _ => .fail
def LR (C : Cn) (W : WX) (f : DS → Out (Int × Int)) : L2.St → Hp → (Int → Int → Hp → Prop) → Prop := fun σ H Q => ∃ AV F S fp, StOk C AV F H σ S fp ∧
 Wp C W AV F H σ fp (f S) fun e S' T => ∀ F' H' fp', Post C AV F H σ S fp T S' F' H' fp' → Q e.1 e.2 H'
theorem prg_of {t t' : L2.St → Hp → (Int → Int → Hp → Prop) → Prop} {e : Expr} (h : PRg X e t) (k : ∀ σ H Q, t' σ H Q → t σ H Q) : PRg X e t' := fun pins s σ H Q I q => h pins s σ H Q I (k σ H Q q)
theorem dr_1 (hg : Gl X "range") (hm : X.mg "range" = none) (ha : DE X EX W a fa) (na : starEach [a] X.env = (false, eval a X.env) :: starEach [] X.env := by rfl) : PRg X (.Call (.Name "range" p) [a] [] pos) (LR (cnOf X EX) W (iR1 fa)) := by
 refine prg_of (prg_1 hg hm ha na) fun σ H Q ⟨AV, F, S, fp, st, q⟩ => ?_
 unfold iR1 at q
 refine ⟨AV, F, S, fp, st, wp_mono (wp_bindT q) fun ea S1 T1 q1 F1 H1 fp1 v fe p1 v1 => ?_⟩
 have q1' := q1 F1 H1 fp1 p1.evA
 split at q1'
 ·rename_i j
  exact ⟨j, eok_int v1.val, by have := q1' F1 H1 fp1 (by simpa using p1); exact this⟩
 ·exact q1'.elim
def eLR (fr : DS → Out (Int × Int)) : DS → Out EV := fun S => (fr S).bindT fun r S1 _ => if rgB r.1 r.2 = true then .ok (.sv (.lst (fzs (rangeL r.1 (r.2 - r.1).toNat)))) S1 [] else .fail
theorem new_ok {AV : List V} {F H F1 H1 F2 H2 : Hp} {σ : L2.St} {S S1 : DS} {fp fp1 : Rt → List Addr} {T1 : List Rt} {v : V} {z : SV} {fe : List Addr} {Q : VK} (p1 : Post C AV F H σ S fp T1 S1 F1 H1 fp1) (n : NewV C.K F1 H1 F2 H2 v z fe)
  (q : Wp C W AV F1 H1 σ fp1 (.ok (.sv z) S1 []) fun e S' T => ∀ F' H' fp' v fe, Post C AV F H σ S fp (T1 ++ T) S' F' H' fp' → VP C AV F H σ fp (T1 ++ T) S' F' H' fp' v e fe → Q v H') : Q v H2 := by
 have p3 := n.post p1.st
 have v3 := n.vp p1.st
 exact q F2 H2 fp1 v fe (p1.trans p3) ⟨v3.val, v3.dj, v3.nd, fun a ha => .inr (p1.evo.none_back (n.new a ha)), v3.tr⟩
theorem de_listRg {e : Expr} {fr : DS → Out (Int × Int)} (hc : X.calm = true) (hg : Gl X "list") (hm : X.mg "list" = none) (he : PRg X e (LR (cnOf X EX) W fr)) (na : starEach [e] X.env = (false, eval e X.env) :: starEach [] X.env := by rfl) : DE X EX W (.Call (.Name "list" p) [e] [] pos) (eLR fr) := by
 refine pe_of (pe_listRg hc hg hm he na) fun σ H Q ⟨AV, F, S, fp, st, q⟩ => ?_
 unfold eLR at q
 refine ⟨AV, F, S, fp, st, wp_mono (wp_bindT q) fun r S1 T1 q1 F1 H1 fp1 p1 => ?_⟩
 have q1' := q1 F1 H1 fp1 p1.evA
 split at q1'
 ·rename_i hr
  exact ⟨rgB_ok hr, fun l hl => new_ok p1 (nv_lst p1.st.fh hl (rgV_fz _ _)) q1'⟩
 ·exact q1'.elim
def cutL {α : Type} (xs : List α) (lo hi : Option Int) : List α := (xs.drop (HT.sIx xs.length 0 lo)).take (HT.sIx xs.length xs.length hi - HT.sIx xs.length 0 lo)
def LO (C : Cn) (W : WX) (f : DS → Out (Option Int)) : TO := fun σ H Q => ∃ AV F S fp, StOk C AV F H σ S fp ∧
 Wp C W AV F H σ fp (f S) fun e S' T => ∀ F' H' fp', Post C AV F H σ S fp T S' F' H' fp' → Q e H'
abbrev DO (X : Cx) (EX : Hp → V → Str → Option PyData → Prop) (W : WX) (e : Option Expr) (f : DS → Out (Option Int)) : Prop := PO X e (LO (cnOf X EX) W f)
def pNo : DS → Out (Option Int) := fun S => .ok none S []
def pAt (fa : DS → Out EV) : DS → Out (Option Int) := fun S => (fa S).bindT fun ea S1 _ => match ea with
 | .sv (.fz (.int i)) => .ok (some i) S1 []
 | _ => .fail
theorem do_none : DO X EX W none pNo := ⟨fun pins s σ H Q I ⟨AV, F, S, fp, st, q⟩ => po_none.run pins s σ H Q I (q F H fp (.refl st))⟩
theorem do_some (ha : DE X EX W a fa) : DO X EX W (some a) (pAt fa) := by
 refine ⟨fun pins s σ H Q I ⟨AV, F, S, fp, st, q⟩ => (po_some ha).run pins s σ H Q I ?_⟩
 unfold pAt at q
 refine ⟨AV, F, S, fp, st, wp_mono (wp_bindT q) fun ea S1 T1 q1 F1 H1 fp1 v fe p1 v1 => ?_⟩
 have q1' := q1 F1 H1 fp1 p1.evA
 split at q1'
 ·rename_i i
  exact ⟨i, eok_int v1.val, by have := q1' F1 H1 fp1 (by simpa using p1); exact this⟩
 ·exact q1'.elim
def gSl (t : SV) (lo hi : Option Int) : Option SV := match t with
 | .fz (.str x) => if x.length ≤ sizeLine then some (.fz (.str (cutS x lo hi))) else none
 | .fz (.tuple ds) => some (.fz (.tuple (cutL ds lo hi)))
 | t => match t.seqL with
  | some ds => some (.lst (fzs (cutL ds lo hi)))
  | none => none
def eSl (fa : DS → Out EV) (fl fh : DS → Out (Option Int)) : DS → Out EV := fun S => (fa S).bindT fun ea S1 _ => (fl S1).bindT fun l S2 T2 => (fh S2).bindT fun h S3 T3 =>
 match ea.stable (T2 ++ T3), ea.tree S3 with
 | true, some t => match gSl t l h with
  | some z => .ok (.sv z) S3 []
  | none => .fail
 | _, _ => .fail
def rSlAll (K : PySem.W.Frag) : V → Option Int → Option Int → Hp → VK → Prop := fun x lo hi H Q => (rSlL K x lo hi H Q ∨ rSlN K x lo hi H Q) ∨ rSlS x lo hi H Q
theorem sl_all : SlR X (rSlAll X.K) := SlR.or (SlR.or sl_list sl_tupN) sl_str
theorem fzAll_cut {F : Hp} {ds : List PyData} {vs : List V} (h : FzAll F vs ds) (lo hi : Option Int) : FzAll F (cutV vs lo hi) (cutL ds lo hi) := by
 unfold cutV cutL
 rw [fzAll_len h]
 exact fzAll_take _ (fzAll_drop _ h)
theorem cut_whole {α : Type} {xs : List α} {lo hi : Option Int} (h : HT.sIx xs.length 0 lo = 0 ∧ HT.sIx xs.length xs.length hi = xs.length) : cutL xs lo hi = xs := by
 unfold cutL
 rw [h.1, h.2]
 simp
theorem gSl_ok {K : PySem.W.Frag} {F H : Hp} (fh : ∀ a o, F a = some o → H a = some o) {t z : SV} {v : V} {fp : List Addr} {lo hi : Option Int} {Q : VK} (o : Own K F H t v fp) (e : gSl t lo hi = some z) (q : ∀ F' H' v fe, NewV K F H F' H' v z fe → Q v H') : rSlAll K v lo hi H Q := by
 have lis : ∀ ds, t.seqL = some ds → z = .lst (fzs (cutL ds lo hi)) → rSlAll K v lo hi H Q := by
  intro ds h1 h2
  subst h2
  obtain ⟨a, vs, rfl, h3, h4⟩ := own_seqL fh o h1
  exact .inl (.inl ⟨a, vs, rfl, h3, fun l hl => q _ _ _ [l] (nv_lst fh hl (fzAll_cut h4 lo hi))⟩)
 unfold gSl at e
 split at e
 ·split at e
  ·cases e
   exact .inr ⟨_, fz_str o, by assumption, q F H _ [] (nv_fz fh (.str _))⟩
  ·cases e
 ·rename_i ds
  cases e
  have z := own_fz o
  cases z with
  | @tup a xs _ h1 h2 =>
   refine .inl (.inr ⟨_, _, rfl, h1.sq fh, fun hw => ?_, fun _ l o hl ho => q _ _ _ [] (nv_tup fh hl ho (fzAll_cut h2 lo hi))⟩)
   rw [fzAll_len h2] at hw
   rw [cut_whole hw] at q
   exact q F H _ [] (nv_fz fh (.tup h1 h2))
 ·split at e
  ·cases e; exact lis _ (by assumption) rfl
  ·cases e
theorem de_sl {lo hi : Option Expr} {fl fh : DS → Out (Option Int)} (ha : DE X EX W a fa) (hl : DO X EX W lo fl) (hh : DO X EX W hi fh) : DE X EX W (.Subscript a (.Slice lo hi none p2) pos) (eSl fa fl fh) := by
 refine pe_of (pe_slice sl_all ha hl hh) fun σ H Q ⟨AV, F, S, fp, st, q⟩ => ?_
 unfold eSl at q
 refine ⟨AV, F, S, fp, st, wp_mono (wp_bindT q) fun ea S1 T1 q1 F1 H1 fp1 v fe p1 v1 => ?_⟩
 refine ⟨AV, F1, S1, fp1, p1.st, wp_mono (wp_bindT (q1 F1 H1 fp1 p1.evA)) fun l S2 T2 q2 F2 H2 fp2 p2 => ?_⟩
 refine ⟨AV, F2, S2, fp2, p2.st, wp_mono (wp_bindT (q2 F2 H2 fp2 p2.evA)) fun h S3 T3 q3 F3 H3 fp3 p3 => ?_⟩
 have q3' := q3 F3 H3 fp3 p3.evA
 split at q3'
 ·rename_i t hst ht
  split at q3'
  ·rename_i z hz
   have p23 := p2.trans p3
   have v1' := v1.later p1 p23 hst (by rw [ht]; rfl)
   obtain ⟨f, ot⟩ := v1'.val.tree p3.st ht
   have p123 := p1.trans p23
   refine gSl_ok p3.st.fh ot hz fun F4 H4 w fw n => new_ok (W := W) p123 n ?_
   refine wp_mono q3' fun y S' T' k F' H' fp' v fe P V => ?_
   have e : T1 ++ (T2 ++ (T3 ++ T')) = (T1 ++ (T2 ++ T3)) ++ T' := by simp
   rw [e] at k
   exact k F' H' fp' v fe P V
  ·exact q3'.elim
 ·exact q3'.elim
def mG (K : PySem.W.Frag) (g : List SV → Option SV) : V → List V → Hp → VK → Prop := fun x xs H Q => cG K g (x :: xs) H Q
end
end Y
set_option maxRecDepth 100000
set_option maxHeartbeats 4000000
namespace Y
open PySem PySem.Spec L2
def slOf (i : Nat) : Option SV → Option Sl
 | some (.fz d) => some (.tr (.fz d))
 | some (.ro d) => some (.tr (.ro d))
 | some (.fd b d) => some (.tr (.fd b d))
 | some _ => some (.ar i)
 | none => none
def initDS (n : Nat) (ts : List SV) : DS := { sl := (List.range n).map fun i => slOf i ts[i]?, ar := ts }
def runFn (n np : Nat) (fb : DS → SOut) : List SV → FOut := fun ts => if ts.length = np ∧ np ≤ n then match fb (initDS n ts) with
 | .nx S => .ret (.fz .none) S.ar
 | .rt t A => .ret t A
 | .exc c d S => .exc c d S.ar
 | _ => .fail
 else .fail
def argF (g : Nat → List Addr) : Rt → List Addr
 | .s _ => []
 | .a j => g j
theorem al_arg {g : Nat → List Addr} {a : Addr} : Al (argF g) a ↔ Ag g a := by
 constructor
 ·rintro ⟨r, h⟩
  cases r with
  | s i => cases h
  | a j => exact ⟨j, h⟩
 ·rintro ⟨j, h⟩
  exact ⟨.a j, h⟩
theorem start_at {N : List Str} {vs : List V} {i : Nat} {v : V} (h : vs[i]? = some v) : (L2.start N vs)[i]? = some (some v) := by
 unfold L2.start
 have hi : i < vs.length := (List.getElem?_eq_some_iff.mp h).1
 rw [List.getElem?_append_left (by rw [List.length_map]; exact hi), List.getElem?_map, h]
 rfl
theorem start_st {C : Cn} {N : List Str} {vs : List V} {F H : Hp} {ts : List SV} {g : Nat → List Addr} (h : ArOk C.K vs F H ts g) (hn : vs.length ≤ N.length) : StOk C vs F H (L2.start N vs) (initDS N.length ts) (argF g) where
 fh := h.fh
 sl i x e := by
  unfold initDS at e
  dsimp only at e
  rw [List.getElem?_map] at e
  cases e1 : (List.range N.length)[i]? with
  | none => rw [e1] at e; simp at e
  | some j =>
   rw [e1] at e
   obtain ⟨hj, e2⟩ := List.getElem?_eq_some_iff.mp e1
   rw [List.getElem_range] at e2
   subst e2
   have e' : slOf i ts[i]? = some x := by simpa using e
   cases e3 : ts[i]? with
   | none => rw [e3] at e'; cases e'
   | some t =>
    rw [e3] at e'
    obtain ⟨v, h1, h2⟩ := h.ar i t e3
    refine ⟨v, start_at h1, ?_⟩
    cases t with
    | fz d => cases e'; exact own_of_fz (K := C.K) (H := H) (own_fz h2)
    | ro d =>
     cases e'
     show Own C.K F H (.ro d) v []
     unfold Own at h2 ⊢
     exact ⟨h2.1, rfl⟩
    | fd b d =>
     cases e'
     show Own C.K F H (.fd b d) v []
     unfold Own at h2 ⊢
     exact ⟨rfl, h2.2⟩
    | lst xs => cases e'; exact ⟨h1, rfl⟩
    | dic b kvs => cases e'; exact ⟨h1, rfl⟩
    | tb _ _ => cases e'; exact ⟨h1, rfl⟩
    | gone => cases e'; exact ⟨h1, rfl⟩
    | nd _ => cases e'; exact ⟨h1, rfl⟩
    | ob _ _ _ => cases e'; exact ⟨h1, rfl⟩
    | nq _ => cases e'; exact ⟨h1, rfl⟩
    | ne _ => cases e'; exact ⟨h1, rfl⟩
 ar j t e := h.ar j t e
 dj r r' a ha hb := by
  cases r with
  | s i => cases ha
  | a j => cases r' with
   | s i => cases hb
   | a k => rw [h.dj j k a ha hb]
 nd r := by
  cases r with
  | s i => exact .nil
  | a j => exact h.nd j
 mm r a ha := by
  cases r with
  | s i => cases ha
  | a j => exact h.mm j a ha
 mt r a xs ha := by
  cases r with
  | s i => cases ha
  | a j => exact h.mt j a xs ha
 ln := by
  unfold initDS L2.start
  simp
  omega
 la := h.ln
section
variable {P : Program} {w : World} {K : PySem.W.Frag} {mg : Str → Option Value} {base : Heap} {f : Addr} {fd : FuncData} {x qual : Str} {params : Arguments} {body : List Stmt} {scope : Scope} {N ps : List Str} {k : Nat} {fb : DS → SOut}
abbrev CxF (P : Program) (w : World) (K : PySem.W.Frag) (mg : Str → Option Value) (base : Heap) (N : List Str) (qual : Str) (scope : Scope) (f : Addr) (cdv : Value) (A : Around) (outer : List Env) (s : Shared) (H : Hp) (E : XK) : Cx := cxOf (L2N.CX P w) P w K mg base N qual scope f cdv A outer s H E
theorem fn_ok (F : FunD K x qual params body scope [] [] f fd) (S : FnScope N ps scope) (EX : Hp → V → Str → Option PyData → Prop)
  (hb : ∀ (cdv : Value) (A : Around) (outer : List Env) (s : Shared) (H : Hp) (E : XK), Room k (A.deeper (PyProof.Rows.envOfC qual scope s.heap.objs.size f cdv)) → DSs (CxF P w K mg base N qual scope f cdv A outer s H E) EX (fun cls d _ H => E cls d H) body fb) :
  FnOk P w K mg base (L2N.CX P w) (k + 1) f fd ps (spOf K mg (runFn N.length ps.length fb)) := by
 refine F.ok S (fun vs H Q E h => ?_) fun cdv A outer s H vs Q E hr h => ⟨_, hb cdv A outer s H E hr, ?_⟩
 ·obtain ⟨F0, ts, g, ha, hm⟩ := h
  unfold runFn at hm
  split at hm
  ·exact hm.elim
  all_goals
   rename_i e
   split at e
   ·rename_i hl; rw [← ha.ln]; exact hl.1
   ·cases e
 ·obtain ⟨F0, ts, g, ha, hm⟩ := h
  unfold runFn at hm
  by_cases hl : ts.length = ps.length ∧ ps.length ≤ N.length
  ·rw [if_pos hl] at hm
   have hn : vs.length ≤ N.length := by rw [← ha.ln]; omega
   have st : StOk (cnOf (CxF P w K mg base N qual scope f cdv A outer s H E) EX) vs F0 H (L2.start N vs) (initDS N.length ts) (argF g) := start_st ha hn
   refine ⟨vs, F0, _, _, st, ?_⟩
   generalize fb (initDS N.length ts) = o at hm ⊢
   have ret : ∀ (S' : DS) (σ' : L2.St) (F' H' : Hp) (fp' : Rt → List Addr), StOk (cnOf (CxF P w K mg base N qual scope f cdv A outer s H E) EX) vs F' H' σ' S' fp' → EvA F0 H F' H' (argF g) fp' → RetOk K vs F0 H g S'.ar F' H' (arF fp') := by
    intro S' σ' F' H' fp' s1 ev
    refine ⟨s1.args, ev.evo.mono fun a h => al_arg.mp h, fun a ⟨j, hj⟩ => ?_⟩
    exact (ev.new a ⟨.a j, hj⟩).imp al_arg.mp id
   cases o with
   | fail => exact hm.elim
   | bk S' => exact hm.elim
   | ct S' => exact hm.elim
   | nx S' =>
    intro σ' F' H' fp' s1 ev
    exact hm F' H' (arF fp') .non [] (ret S' σ' F' H' fp' s1 ev) (own_of_fz .non) .nil (fun _ h => by cases h) (fun _ _ h => by cases h)
   | rt t A' =>
    intro F' H' g' v fe r
    exact hm F' H' g' v fe ⟨r.ar, r.evo.mono fun a h => al_arg.mp h, fun a h => (r.newa a h).imp al_arg.mp id⟩ r.own r.nd (fun a h => (r.newv a h).imp al_arg.mp id) r.dj
   | exc c d S' =>
    intro σ' F' H' fp' cls dd s1 ev ex
    exact hm F' H' (arF fp') cls dd (ret S' σ' F' H' fp' s1 ev) ex
  ·rw [if_neg hl] at hm
   exact hm.elim
end
end Y
set_option maxRecDepth 100000
set_option maxHeartbeats 4000000
namespace Y
open PySem PySem.Spec L2
def spLaw (K : PySem.W.Frag) (n : Nat) : Sp := fun vs H Q _ => ∃ (a : Addr) (ns : List Int), vs = [.ref a] ∧ SqL K H a (ns.map V.int) ∧ ns.length ≤ n ∧ ∀ H', Q (.bl true) H'
def script (ns : List Int) : SV := .ro (.list (ns.map .int))
theorem dp_ints {K : PySem.W.Frag} {H : Hp} : ∀ ns : List Int, DpAll K H (ns.map V.int) (ns.map .int)
 | [] => .nil
 | n :: ns => .cons (.int n) (dp_ints ns)
theorem law_fn {P : Program} {w : World} {K : PySem.W.Frag} {mg : Str → Option Value} {base : Heap} {f : Addr} {fd : FuncData} {x : Str} {k n : Nat} {m : List SV → FOut} (G : FnOk P w K mg base (L2N.CX P w) k f fd [x] (spOf K mg m))
  (hm : ∀ ns : List Int, ns.length ≤ n → ∃ A, m [script ns] = .ret (.fz (.bool true)) A) : FnOk P w K mg base CX0 k f fd [x] (spLaw K n) where
 len vs H Q E h := by obtain ⟨a, ns, rfl, _⟩ := h; rfl
 run A outer s H args us vs Q E hr e0 hb hv h := by
  obtain ⟨a, ns, rfl, hS, hn, hQ⟩ := h
  obtain ⟨A', hA⟩ := hm ns hn
  have sp : spOf K mg m [.ref a] H Q (fun _ _ _ => False) := by
   refine ⟨H, [script ns], fun _ => [], ⟨fun _ _ h => h, rfl, fun j t e => ?_, fun _ _ _ h => (by cases h), fun _ => .nil, fun _ _ h => (by cases h), fun _ _ _ h => (by cases h)⟩, ?_⟩
   ·cases j with
    | zero =>
     cases e
     refine ⟨.ref a, rfl, ?_⟩
     unfold script Own
     exact ⟨.lst hS (dp_ints ns), rfl⟩
    | succ j => simp at e
   ·rw [hA]
    intro F' H' g' v fe _ o _ _ _
    rw [fz_bl o]
    exact hQ H'
  refine codeAny_mono (G.run A outer s H args us _ Q _ hr e0 hb hv sp) fun r s' h => ?_
  unfold CR at h ⊢
  cases r with
  | ok fl => cases fl <;> exact h
  | error e =>
   obtain ⟨_, _, _, _, _, h'⟩ := h
   obtain ⟨_, _, _, _, _, _, _, z⟩ := h'
   exact z.elim
end Y
set_option maxRecDepth 100000
set_option maxHeartbeats 4000000
namespace Y
open PySem PySem.Spec L2
section
variable {X : Cx} {EX : Hp → V → Str → Option PyData → Prop} {W : WX} {e a : Expr} {st : Stmt} {sts : List Stmt} {fa : DS → Out EV} {C : Cn}
def eRo (d : PyData) : DS → Out EV := fun S => .ok (.sv (.ro d)) S []
theorem de_ro {v : V} {d : PyData} (h : PE X e (tC v)) (hd : ∀ F, Dp X.K F v d) : DE X EX W e (eRo d) :=
 pe_of h fun σ H Q ⟨AV, F, S, fp, st, q⟩ => q F H fp v [] (.refl st) (vp_ro (hd F))
def eView (i : Nat) (fa : DS → Out EV) : DS → Out EV := fun S => match eVar i S with
 | .ok (.pk r []) _ _ => match S.get r with
  | some t => match t.frz with
   | some d => match fa (S.put r (.fz d)) with
    | .ok (.sv (.fz c)) _ [] => if isScal c = true then .ok (.sv (.fz c)) S [] else .fail
    | _ => .fail
   | none => .fail
  | none => .fail
 | .ok (.sv _) _ _ => fa S
 | _ => .fail
theorem fz_scal {F F' : Hp} {v : V} {c : PyData} (h : Fz F v c) (s : isScal c = true) : Fz F' v c := by
 cases h with
 | non => exact .non
 | bl b => exact .bl b
 | int b => exact .int b
 | str b => exact .str b
 | lst a b => cases s
 | tup a b => cases s
theorem de_view (i : Nat) (ha : DE X EX W a fa) : DE X EX W a (eView i fa) := by
 refine pe_of ha fun σ H Q ⟨AV, F, S, fp, st, q⟩ => ?_
 unfold eView at q
 split at q
 ·rename_i r _ _ _
  split at q
  ·rename_i t ht
   split at q
   ·rename_i d hd
    obtain ⟨v0, hv0, o⟩ := st.root ht
    obtain ⟨F1, fp1, p1, hf⟩ := st.freeze (p := []) ht (by unfold SV.sub; cases t <;> rfl) hd hv0 rfl
    have eput : t.setAt [] (.fz d) = .fz d := by unfold SV.setAt; cases t <;> rfl
    rw [eput] at p1
    refine ⟨AV, F1, _, fp1, p1.st, ?_⟩
    split at q
    ·rename_i c S2 hfa
     split at q
     ·rename_i hs
      rw [hfa]
      intro F2 H2 fp2 v fe p2 v2
      have k : ∀ a o, H a = some o → H2 a = some o := fun a o h => p2.evo.keep a o h fun ⟨r, h1, _⟩ => by cases h1
      have kp : ∀ r a, a ∈ fp r → H2 a = H a ∧ F a = none := fun r a ha => by
       obtain ⟨m1, ob, m2⟩ := st.mm r a ha
       exact ⟨by rw [m2]; exact k a ob m2, m1⟩
      have st2 : StOk (cnOf X EX) AV F H2 σ S fp := by
       refine ⟨fun a o h => k a o (st.fh a o h), fun i x e => ?_, fun j t e => ?_, st.dj, st.nd, fun r a ha => ?_, fun r a xs ha z => st.mt r a xs ha ((kp r a ha).1 ▸ z), st.ln, st.la⟩
       ·obtain ⟨v, h1, h2⟩ := st.sl i x e
        refine ⟨v, h1, ?_⟩
        cases x with
        | tr t => exact own_keep (fun _ _ h => h) _ _ _ h2 (kp _)
        | ar j => exact h2
        | ex c d => exact h2
        | ls js => exact h2
       ·obtain ⟨v, h1, h2⟩ := st.ar j t e
        exact ⟨v, h1, own_keep (fun _ _ h => h) _ _ _ h2 (kp _)⟩
       ·obtain ⟨m1, ob, m2⟩ := st.mm r a ha
        exact ⟨m1, ob, k a ob m2⟩
      have fz2 : Fz F v c := by
       have h' : Own (cnOf X EX).K F2 H2 (.fz c) v fe := v2.val
       exact fz_scal (own_fz h') hs
      exact q F H2 fp v [] ⟨st2, ⟨fun _ _ h => h, fun a o h _ => k a o h, fun a o h1 h2 => (by rw [h1] at h2; cases h2), fun a o h => ⟨o, k a o h⟩⟩, fun _ _ => ⟨rfl, rfl⟩, fun r a _ => .inr (.inr List.not_mem_nil)⟩ (vp_fz fz2)
     ·exact q.elim
    ·exact q.elim
   ·exact q.elim
  ·exact q.elim
 ·exact ⟨AV, F, S, fp, st, q⟩
 ·exact q.elim
end
section
variable {X : Cx}
theorem hu65 {A : Around} {k : Nat} (hr : Room k A) : A.units + 65 < cLine := by have := hr.un; omega
theorem hu1 {A : Around} {k : Nat} (hr : Room k A) : A.units + 1 < cLine := by have := hr.un; omega
end
end Y
set_option maxRecDepth 100000
set_option maxHeartbeats 4000000
namespace Y
open PySem PySem.Spec L2
section
variable {X : Cx} {EX : Hp → V → Str → Option PyData → Prop} {W : WX} {a : Expr} {fa : DS → Out EV} {x : Str} {pos pos' : Pos}
theorem yv (i : Nat) (hN : X.N[i]? = some x := by rfl) (hv : Vis X.env.scope x := by first | exact Or.inl rfl | exact Or.inr (Or.inl rfl) | exact Or.inr (Or.inr rfl)) (hd : (x == ("__debug__" : Str)) = false := by decide) (hcd : (x == ("__classdict__" : Str)) = false := by decide) : DE X EX W (.Name x pos) (eVar i) := de_var hN hv hd hcd
theorem yglobI {z : Int} (h : ∃ t, X.mg x = some (.int z t)) (hg : Gl X x := by rfl) (hd : (x == ("__debug__" : Str)) = false := by decide) : DE X EX W (.Name x pos) (eC (.int z)) := by
 obtain ⟨t, h⟩ := h
 exact de_c (v := .int z) (pe_glob hg h ⟨t, rfl⟩ hd) fun F => .int z
theorem yglobT {p : Addr} {d : PyData} (h : X.mg x = some (.ref p)) (hD : ∀ F, Dp X.K F (.ref p) d) (hg : Gl X x := by rfl) (hd : (x == ("__debug__" : Str)) = false := by decide) : DE X EX W (.Name x pos) (eRo d) :=
 de_ro (pe_glob (v := .ref p) hg h rfl hd) hD
theorem yset (i : Nat) (hN : X.N.Nodup) (ha : DE X EX W a fa) (hi : X.N[i]? = some x := by rfl) (hx : Loc X.env.scope x := by first | exact Or.inl rfl | exact Or.inr rfl)
  (hs : swapsWith a (some (.Name x pos')) pos.line X.env = pure false := by rfl) (hf : X.fn x = true ∨ X.env.scope.names.lookup x = some .local := by first | exact .inl rfl | exact .inr rfl) : DSt X EX W (.Assign [.Name x pos'] a pos) (sAsg fa (gSet i)) := ds_set hN hi hx ha hs hf
theorem ysetg (i : Nat) (hN : X.N.Nodup) (hi : X.N[i]? = some x := by rfl) (hx : Loc X.env.scope x := by first | exact Or.inl rfl | exact Or.inr rfl) (hf : X.fn x = true ∨ X.env.scope.names.lookup x = some .local := by first | exact .inl rfl | exact .inr rfl) : DG X EX W (.Name x pos) (gSet i) := dg_name hN hi hx hf
theorem yg (i : Nat) (hN : X.N.Nodup) (hi : X.N[i]? = some x := by rfl) (hx : Loc X.env.scope x := by first | exact Or.inl rfl | exact Or.inr rfl) (hf : X.fn x = true ∨ X.env.scope.names.lookup x = some .local := by first | exact .inl rfl | exact .inr rfl) : PG X (.Name x pos) (gName i) := pg_name hN hi hx hf
end
end Y
set_option maxRecDepth 100000
set_option maxHeartbeats 4000000
namespace Y
open PySem PySem.Spec L2 RZ
section
variable {X : Cx} {EX : Hp → V → Str → Option PyData → Prop} {W : WX} {e a b c : Expr} {pos : Pos} {fa fb fc : DS → Out EV}
def zipD (ds es : List PyData) : List PyData := (ds.zip es).map fun p => .tuple [p.1, p.2]
theorem zip_at {ds es : List PyData} {i : Nat} {d : PyData} (h : (zipD ds es)[i]? = some d) : ∃ x y, ds[i]? = some x ∧ es[i]? = some y ∧ d = .tuple [x, y] := by
 unfold zipD at h
 rw [List.getElem?_map] at h
 cases e : (ds.zip es)[i]? with
 | none => rw [e] at h; cases h
 | some p =>
  rw [e] at h
  obtain ⟨h1, h2⟩ := List.getElem?_zip_eq_some.mp e
  exact ⟨p.1, p.2, h1, h2, by simpa using h.symm⟩
theorem zip_end {ds es : List PyData} {i : Nat} (h : (zipD ds es)[i]? = none) : ds.length ≤ i ∨ es.length ≤ i := by
 have := List.getElem?_eq_none_iff.mp h
 unfold zipD at this
 rw [List.length_map, List.length_zip] at this
 omega
def ItzP (K : PySem.W.Frag) (a b : Addr) : It :=
 ⟨fun i H => ∃ (xs ys : List V) (x y : V), SqT K H a xs ∧ SqT K H b ys ∧ xs[i]? = some x ∧ ys[i]? = some y,
  fun i H v H' => ∃ (T : Addr) (o : Obj) (x y : V), v = .ref T ∧ H T = none ∧ o.dict = none ∧ H' = upd H T (.frz o (.tup [x, y])) ∧ (∀ xs, SqT K H a xs → xs[i]? = some x) ∧ ∀ ys, SqT K H b ys → ys[i]? = some y,
  fun i H => ∃ xs ys : List V, SqT K H a xs ∧ SqT K H b ys ∧ (xs.length ≤ i ∨ ys.length ≤ i)⟩
open PyProof.Rows in
theorem turn_zipP {P : Program} {w : World} {K : PySem.W.Frag} {elts : List Expr} {kk : Nat} {tpos : Pos} {a b z TI TO i1 i2 : Addr} (D : ZipApart z TI TO i1 i2 a b) :
  Turn P w K (.Tuple elts kk tpos) (ItzP K a b) [z, TI, TO, i1, i2] z (fun i h => IsZip h z TI TO .none ∧ IsPair h TI (.ref i1) (.ref i2) ∧ (∃ x y, IsPair h TO x y) ∧ h.IsTupleIter i1 a i ∧ h.IsTupleIter i2 b i) where
 mem := (turn_zipT (P := P) (w := w) (K := K) (elts := elts) (kk := kk) (tpos := tpos) D).mem
 obj := (turn_zipT (P := P) (w := w) (K := K) (elts := elts) (kk := kk) (tpos := tpos) D).obj
 keep := (turn_zipT (P := P) (w := w) (K := K) (elts := elts) (kk := kk) (tpos := tpos) D).keep
 item := by
  intro X hP hw hK hc i pins s σ H E I hf st hg
  subst hP hw hK
  obtain ⟨hz, hTI, ⟨x0, y0, hTO⟩, h1, h2⟩ := st
  obtain ⟨xs, ys, x, y, hqx, hqy, hx, hy⟩ := hg
  obtain ⟨its, rv, p, _⟩ := I.tuple hqx
  obtain ⟨its2, rv2, p2, _⟩ := I.tuple hqy
  obtain ⟨u, hu, ru⟩ := rv.get hx
  obtain ⟨u2, hu2, ru2⟩ := rv2.get hy
  have hzl : z < s.heap.objs.size := Heap.lt_size hz
  refine pyNext_zipT_item D hz hTI hTO h1 h2 p p2 (x := u) (y := u2) (by simpa using hu) (by simpa using hu2) fun h' z' TO' h1' h2' hT hsz hk => ?_
  refine ⟨_, rfl, wpAny_letOwnedTupleGo_zip (s := { s with heap := h' }) z' fun h'' z'' sb => ?_⟩
  have hT2 : h''.get? s.heap.objs.size = some { cls := .type "tuple", data := .seq #[u, u2] } := (sb.2 _ (Nat.ne_of_gt hzl)).trans hT
  have new : ObjOk X.prog X.w (upd H s.heap.objs.size (.frz { cls := .type "tuple", data := .seq #[u, u2] } (.tup [x, y]))) h'' s.heap.objs.size (.frz { cls := .type "tuple", data := .seq #[u, u2] } (.tup [x, y])) :=
   ⟨hT2, by show 2 ≤ sizeLine; decide, [u, u2], .cons ru (.cons ru2 .nil), ⟨_, hT2, rfl, _, rfl⟩⟩
  have I1 : Inv X pins σ (upd H s.heap.objs.size (.frz { cls := .type "tuple", data := .seq #[u, u2] } (.tup [x, y]))) { s with heap := h'' } :=
   I.turnedNew (t' := s.toks) (ch := [z, TI, TO, i1, i2]) (fun c o hb q => (sb.2 c (fun q' => hb (by simp [q']))).trans (hk c o (fun q' => hb (by simp [q'])) (fun q' => hb (by simp [q'])) (fun q' => hb (by simp [q'])) (fun q' => hb (by simp [q'])) q)) hf (Nat.le_refl _) new
  refine ⟨.ref s.heap.objs.size, _, I1, rfl, ⟨_, _, x, y, rfl, I.hok.fresh (Nat.le_refl _), rfl, rfl, fun l hl => by rw [I.tuple_inj hl hqx]; exact hx, fun l hl => by rw [I.tuple_inj hl hqy]; exact hy⟩, ⟨z'', ?_, ⟨u, u2, ?_⟩, ?_, ?_⟩, fun c hcm => ?_⟩
  ·exact (sb.2 _ D.TIz).trans (hk _ _ D.TIz D.TITO D.TIi1 D.TIi2 hTI)
  ·exact (sb.2 _ D.TOz).trans TO'
  ·exact h1'.at fun o q => (sb.2 _ D.i1z).trans q
  ·exact h2'.at fun o q => (sb.2 _ D.i2z).trans q
  ·have hlt : c < s.heap.objs.size := by
    have e' : c = z ∨ c = TI ∨ c = TO ∨ c = i1 ∨ c = i2 := by simpa using hcm
    rcases e' with q | q | q | q | q
    ·rw [q]; exact hzl
    ·rw [q]; exact Heap.lt_size hTI
    ·rw [q]; exact Heap.lt_size hTO
    ·rw [q]; obtain ⟨_, e1, _⟩ := h1; exact Heap.lt_size e1
    ·rw [q]; obtain ⟨_, e2, _⟩ := h2; exact Heap.lt_size e2
   rw [upd_ne (Nat.ne_of_lt hlt)]
   exact (hf c hcm).1
 done := (turn_zipT (P := P) (w := w) (K := K) (elts := elts) (kk := kk) (tpos := tpos) D).done
 self := (turn_zipT (P := P) (w := w) (K := K) (elts := elts) (kk := kk) (tpos := tpos) D).self
def iZipP (K : PySem.W.Frag) (ta : TA) : TI := fun σ H R => ta σ H fun vs H1 => ∃ a b xs ys, vs = [.ref a, .ref b] ∧ SqT K H1 a xs ∧ SqT K H1 b ys ∧ R (ItzP K a b) H1
open PyProof.Rows in
theorem pi_zipP {X : Cx} {e e2 : Expr} {ta : TA} {p pos tpos : Pos} {elts : List Expr} {kk : Nat} (hg : Gl X "zip") (hm : X.mg "zip" = none) (ha : PA X [e, e2] ta)
  (hs : starEach [e, e2] X.env = (false, eval e X.env) :: starEach [e2] X.env := by rfl) (hpl : (backTo pos (starEach [e2] X.env)).any (·.1) = false := by rfl) :
  PI X (.Tuple elts kk tpos) (.Call (.Name "zip" p) [e, e2] [] pos) (iZipP X.K ta) := by
 refine ⟨fun pins s σ H R I h => ?_⟩
 refine Call_ (ld_blt I hg hm PyProof.Rows.boot_zip (PyProof.Rows.callWith_type1 (thn (ha.run pos pins s σ H _ I h) fun us s1 ⟨vs, H1, I1, r1, q1⟩ => ?_) hs hpl))
 obtain ⟨a, b, xs, ys, ex, hqx, hqy, q⟩ := q1
 subst ex
 cases r1 with
 | cons r rr =>
  cases rr with
  | cons r' rr =>
   cases rr
   cases r
   cases r'
   have fresh5 : ∀ c, c ∈ [s1.heap.objs.size + 4, s1.heap.objs.size + 2, s1.heap.objs.size + 3, s1.heap.objs.size, s1.heap.objs.size + 1] → FpOk X pins H1 c := fun c hcm => by
    have e' : c = s1.heap.objs.size + 4 ∨ c = s1.heap.objs.size + 2 ∨ c = s1.heap.objs.size + 3 ∨ c = s1.heap.objs.size ∨ c = s1.heap.objs.size + 1 := by simpa using hcm
    have hle : s1.heap.objs.size ≤ c := by
     rcases e' with z | z | z | z | z
     ·rw [z]; exact Nat.le_add_right _ _
     ·rw [z]; exact Nat.le_add_right _ _
     ·rw [z]; exact Nat.le_add_right _ _
     ·rw [z]; exact Nat.le_refl _
     ·rw [z]; exact Nat.le_add_right _ _
    exact I1.fpOk hle (I1.hok.fresh hle)
   obtain ⟨its, rv, p1, _⟩ := I1.tuple hqx
   obtain ⟨its2, rv2, p2, _⟩ := I1.tuple hqy
   obtain ⟨o1, ho1, _⟩ := id p1
   obtain ⟨o2, ho2, _⟩ := id p2
   refine call_zipT (show s1.heap.IsTuple a its.toArray from p1) (show s1.heap.IsTuple b its2.toArray from p2) fun h' hz hTI hTO h1 h2 hsz hk => wpAny_pyIter_zip hz ?_
   have I2 : Inv X pins σ H1 { s1 with heap := h' } := I1.kept (t' := s1.toks) hk
   exact ⟨s1.heap.objs.size + 4, [s1.heap.objs.size + 4, s1.heap.objs.size + 2, s1.heap.objs.size + 3, s1.heap.objs.size, s1.heap.objs.size + 1], _, _, H1, rfl, I2, turn_zipP (PySem.W.ktu_apart s1.heap.objs.size a b (Heap.lt_size ho1) (Heap.lt_size ho2)), ⟨hz, hTI, ⟨_, _, hTO⟩, h1, h2⟩, fresh5, q⟩
theorem itOk_zipT {K : PySem.W.Frag} {F : Hp} {p r : Addr} {vs ws : List V} {ds es : List PyData} (h : TupF F p vs) (h' : TupF F r ws) (g : FzAll F vs ds) (g' : FzAll F ws es) : ItOk K F (ItzP K p r) (zipD ds es) := fun i F1 H1 k1 k2 =>
 ⟨fun d hd => by
  obtain ⟨x, y, h1, h2, rfl⟩ := zip_at hd
  obtain ⟨v, e1, e2⟩ := fzAll_at g h1
  obtain ⟨w, e3, e4⟩ := fzAll_at g' h2
  have hs := TupF.sq (K := K) (h.mono k1) k2
  have hs' := TupF.sq (K := K) (h'.mono k1) k2
  refine ⟨⟨vs, ws, v, w, hs, hs', e1, e3⟩, fun u H' hy => ?_⟩
  obtain ⟨T, o, v1, w1, rfl, hT, ho, rfl, q, q'⟩ := hy
  have a1 := q vs hs
  have a2 := q' ws hs'
  rw [e1] at a1
  rw [e3] at a2
  cases a1
  cases a2
  exact ⟨_, nv_tup k2 hT ho (.cons (fz_mono k1 _ _ e2) (.cons (fz_mono k1 _ _ e4) .nil))⟩, fun hn => ⟨vs, ws, (h.mono k1).sq k2, (h'.mono k1).sq k2, by
   rw [fzAll_len g, fzAll_len g']; exact zip_end hn⟩⟩
def iZip (fr : DS → Out (List EV)) : DS → Out (List PyData) := fun S => (fr S).bindT fun es S1 _ => match es with
 | [.sv (.fz (.tuple ds)), .sv (.fz (.tuple es))] => .ok (zipD ds es) S1 []
 | _ => .fail
theorem di_zip {elts : List Expr} {kk : Nat} {tpos p : Pos} {fr : DS → Out (List EV)} (hm : X.mg "zip" = none) (ha : DA X EX W [a, b] fr) (hg : Gl X "zip" := by rfl)
  (hs : starEach [a, b] X.env = (false, eval a X.env) :: starEach [b] X.env := by rfl) (hpl : (backTo pos (starEach [b] X.env)).any (·.1) = false := by rfl) : DI X EX W (.Tuple elts kk tpos) (.Call (.Name "zip" p) [a, b] [] pos) (iZip fr) := by
 refine pi_of (pi_zipP hg hm ha hs hpl) fun σ H Q ⟨AV, F, S, fp, st, q⟩ => ?_
 unfold iZip at q
 refine ⟨AV, F, S, fp, st, wp_mono (wp_bindT q) fun es S1 T1 q1 F1 H1 fp1 vs fe p1 v1 => ?_⟩
 have q1' := q1 F1 H1 fp1 p1.evA
 have two : ∀ {t u : SV}, es = [.sv t, .sv u] → ∃ x y f g, vs = [x, y] ∧ Own X.K F1 H1 t x f ∧ Own X.K F1 H1 u y g := by
  rintro t u rfl
  obtain ⟨v, h1, h2, _⟩ := v1.val 0 _ rfl
  obtain ⟨v', h1', h2', _⟩ := v1.val 1 _ rfl
  have hl := v1.ln
  match vs, hl, h1, h1' with
  | [w, w'], _, h1, h1' => simp at h1 h1'; subst h1; subst h1'; exact ⟨_, _, _, _, rfl, h2, h2'⟩
 split at q1'
 ·rename_i ds es'
  obtain ⟨x, y, f, g, rfl, o1, o2⟩ := two rfl
  have h1 := own_fz o1
  have h2 := own_fz o2
  cases h1 with
  | tup g1 g2 =>
   cases h2 with
   | tup g3 g4 => exact ⟨_, _, _, _, rfl, g1.sq p1.st.fh, g3.sq p1.st.fh, q1' F1 H1 fp1 _ (by simpa using p1) (itOk_zipT g1 g3 g2 g4)⟩
 ·exact q1'.elim
theorem ygn {x : Str} (i : Nat) (hN : X.N.Nodup) (hi : X.N[i]? = some x := by rfl) (hx : Loc X.env.scope x := by first | exact Or.inl rfl | exact Or.inr rfl) (hf : X.fn x = true ∨ X.env.scope.names.lookup x = some .local := by first | exact .inl rfl | exact .inr rfl) : PG X (.Name x pos) (gName i) := pg_name hN hi hx hf
theorem ygt {es : List Expr} {k : Nat} {is : List Nat} (h : PGs X es (gNs is)) (hc : X.calm = true := by rfl) (hn : (assignEach es X.env).length = is.length := by rfl) (hst : (assignEach es X.env).findIdx? (·.1) = none := by rfl) : PG X (.Tuple es k pos) (gTup X.K is.length (gNs is)) := pg_tup hc h hn hst
end
end Y
set_option maxRecDepth 100000
set_option maxHeartbeats 4000000
namespace Y
open PySem PySem.Spec L2
section
variable {X : Cx} {x : Str} {pos : Pos} {e : Expr} {es : List Expr} {C : Addr} {cv : Value} {cvs : List Value}
end
section
variable {X : Cx} {W : WX} {n x : Str} {p p1 p2 pos : Pos} {i : Nat} {a : Addr} {oe : Obj} {cls : Value} {d : Option Addr} {pn : List (Addr × Obj)} {tab : List (Str × Bool)} {cv : Value} {cvs : List Value} {ce : Expr} {ces : List Expr}
end
section
variable {X : Cx} {EX : Hp → V → Str → Option PyData → Prop} {W : WX} {x n : Str} {body suite : List Stmt} {b₀ : Stmt} {np pos pos' : Pos} {cv : Value} {i : Nat} {tab : List (Str × Bool)} {fb fh : DS → SOut}
end
end Y
namespace Y
open PySem PySem.Spec L2
section
variable {K : PySem.W.Frag} {h : Heap} {mg : Str → Option Value} {tab : List (Str × Bool)} {cv : Value} {cvs : List Value}
def RzOk (K : PySem.W.Frag) (mg : Str → Option Value) (x : Str) : Prop := ∃ C, mg x = some (.ref C) ∧ PySem.W.excIn K C He.veBase "ValueError.__new__" = true ∧ PySem.W.keepIn K (.ref C) = true ∧ PySem.W.subIn K (.ref C) (.type "BaseException") = some true ∧ PySem.W.typeIn K (.ref C) = some (.type "type")
theorem rzOk_of {x : Str} (h1 : mg x = some (.ref (He.ga K x))) (h2 : (He.Fa.exc x).ok K = true) : RzOk K mg x := by
 obtain ⟨q1, q2, q3, q4⟩ := He.exc_ok h2
 exact ⟨_, h1, q1, q2, q3, q4⟩
end
section
variable {X : Cx} {EX : Hp → V → Str → Option PyData → Prop} {W : WX}
theorem ds_raiseY {x m : Str} {j : Nat} {p p2 pos2 pos : Pos} (h : RzOk X.K X.mg x) (hc : X.calm = true) (tk : L2N.Takes X W) (hg : Gl X x := by rfl) (hdb : (x == ("__debug__" : Str)) = false := by decide) :
  DSt X EX W (.Raise (some (.Call (.Name x p) [.Constant (.str m) j p2] [] pos)) none pos2) (fun S => .exc x none S) := by
 obtain ⟨C, h1, h2, h3, h4, h5⟩ := h
 exact ds_raise (pos := pos) hc tk PySem.F.excBase_ValueError h2 h1 h3 (raises_own h4 h5) hg hdb
end
end Y
set_option maxRecDepth 100000
set_option maxHeartbeats 4000000
namespace L2
open PySem PySem.Spec PyProof.Rows
variable {X : Cx}
end L2
namespace Y
open PySem PySem.Spec L2
section
variable {X : Cx} {EX : Hp → V → Str → Option PyData → Prop} {W : WX} {e a b c : Expr} {pos : Pos} {fa fb fk fv : DS → Out EV}
def gNotX (t u : SV) : Option SV := match t, u with
 | .fz (.bool a), .fz (.bool b) => some (.fz (.bool (!decide (a = b))))
 | t, u => gNotN t u
theorem og_notX : OpR X (compareOp .IsNot) (rG X.K gNotX) := by
 intro pins s σ H x y v u Q I rx ry ⟨F, t, t', z, fx, fy, fh, ox, oy, e, q⟩
 unfold gNotX at e
 split at e
 ·cases e
  refine op_notBl pins s σ H x y v u Q I rx ry ⟨_, _, ?_, ?_, q F H _ [] (nv_fz fh (.bl _))⟩
  ·cases own_fz ox; rfl
  ·cases own_fz oy; rfl
 ·exact og_notN pins s σ H x y v u Q I rx ry ⟨F, t, t', z, fx, fy, fh, ox, oy, e, q⟩
end
end Y
set_option maxRecDepth 100000
set_option maxHeartbeats 4000000
namespace Y
open PySem PySem.Spec L2
def SV.isL : SV → Bool
 | .lst _ => true
 | _ => false
def DS.free (S : DS) (i : Nat) : Bool := match S.sl[i]? with
 | some none => true
 | _ => false
section
variable {X : Cx} {EX : Hp → V → Str → Option PyData → Prop} {W : WX} {x y : Str} {i j : Nat} {p1 p2 p3 p4 p5 p6 : Pos}
end
end Y
set_option maxRecDepth 100000
set_option maxHeartbeats 4000000
namespace Y
open PySem PySem.Spec L2 PyProof PyProof.Rows
structure LamMk (P : Addr) (q : Str) (F H F1 H1 : Hp) : Prop where
 fh : ∀ a o, F1 a = some o → H1 a = some o
 fsub : ∀ a o, F a = some o → F1 a = some o
 keep : ∀ a o, H a = some o → a ≠ P → H1 a = some o
 fnew : ∀ a o, F1 a = some o → F a = none → H a = none
 tb : TbOk P q F1 H1
theorem LamMk.dom {P : Addr} {q : Str} {F H F1 H1 : Hp} (M : LamMk P q F H F1 H1) : ∀ a o, H a = some o → ∃ o', H1 a = some o' := fun a o e => by
 by_cases z : a = P
 ·obtain ⟨_, ps, h, _⟩ := M.tb
  exact ⟨_, by rw [z]; exact h⟩
 ·exact ⟨o, M.keep a o e z⟩
section
variable {X : Cx} {pins : List (Addr × Obj)} {σ : L2.St} {F H : Hp} {s : Shared}
end
section
variable {X : Cx} {pins : List (Addr × Obj)} {σ : L2.St} {H : Hp} {s : Shared} {W : WX}
end
section
variable {X : Cx} {W : WX} {EX : Hp → V → Str → Option PyData → Prop}
end
end Y
set_option maxRecDepth 100000
set_option maxHeartbeats 4000000
namespace L2
open PySem PySem.Spec PyProof.Rows
section
variable {X : Cx} {pins : List (Addr × Obj)} {σ : St} {H : Hp} {s : Shared} {a b : Addr} {r : Value} {d : V} {k : List Key} {E : Value → Shared → Prop}
end
section
variable {X : Cx} {o e f : Expr} {td ty tx : TE} {apos cpos : Pos}
end
end L2
namespace Y
open PySem PySem.Spec L2 PyProof PyProof.Rows
section
variable {C : Cn} {W : WX} {AV : List V} {F H : Hp} {σ : L2.St} {S : DS} {fp : Rt → List Addr} {r : Rt} {fd fk fv : DS → Out EV}
theorem sub_nil (t : SV) : t.sub [] = some t := by unfold SV.sub; cases t <;> rfl
theorem set_nil (t u : SV) : t.setAt [] u = u := by unfold SV.setAt; cases t <;> rfl
end
section
variable {X : Cx} {EX : Hp → V → Str → Option PyData → Prop} {W : WX} {o e f v : Expr} {fd fk fv : DS → Out EV} {apos cpos apos2 cpos2 lpos : Pos}
end
end Y
set_option maxRecDepth 100000
set_option maxHeartbeats 4000000
namespace PySem
open Sem (wp)
section
variable {prog : Program} {w : World} {K : Type} [DecidableEq K] (knd : KeyKind prog w K)
inductive NItems (h : Heap) : List (List K) → List Value → Prop
 | nil : NItems h [] []
 | cons {k : List K} {b : Addr} {ks : List (List K)} {vs : List Value} : IsTupleKey knd h k b → NItems h ks vs → NItems h (k :: ks) (.ref b :: vs)
def IsNKey (h : Heap) (ks : List (List K)) (a : Addr) : Prop := ∃ o items n, h.get? a = some o ∧ o.cls = .type "tuple" ∧ o.data = .seq items n ∧ NItems knd h ks items.toList
variable {knd}
theorem NItems.inj {h : Heap} {x y : List (List K)} {vs : List Value} (hx : NItems knd h x vs) (hy : NItems knd h y vs) : x = y := by
 induction hx generalizing y with
 | nil => cases hy; rfl
 | cons h1 _ ih =>
  cases hy with
  | cons h2 t2 => rw [h1.inj h2, ih t2]
theorem NItems.length {h : Heap} {x : List (List K)} {vs : List Value} (hx : NItems knd h x vs) : x.length = vs.length := by
 induction hx with
 | nil => rfl
 | cons _ _ ih => simp [ih]
theorem IsNKey.inj {h : Heap} {a : Addr} {x y : List (List K)} (hx : IsNKey knd h x a) (hy : IsNKey knd h y a) : x = y := by
 obtain ⟨o, items, n, ho, _, hd, hi⟩ := hx
 obtain ⟨o', items', n', ho', _, hd', hi'⟩ := hy
 obtain rfl : o = o' := Option.some.inj (ho.symm.trans ho')
 rw [hd] at hd'
 injection hd' with h1 _
 subst h1
 exact hi.inj hi'
theorem NItems.keeps {h h' : Heap} {ks : List (List K)} {vs : List Value} {d : Addr} {o : Obj} {es ep} (x : NItems knd h ks vs) (ho : h.get? d = some o) (hd : o.data = .dict es ep) (hs : Heap.SameBut d h h') : NItems knd h' ks vs := by
 induction x with
 | nil => exact .nil
 | cons h1 _ ih => exact .cons (h1.keeps ho hd hs) ih
theorem IsNKey.keeps {h h' : Heap} {ks : List (List K)} {a d : Addr} {o : Obj} {es ep} (x : IsNKey knd h ks a) (ho : h.get? d = some o) (hd : o.data = .dict es ep) (hs : Heap.SameBut d h h') : IsNKey knd h' ks a := by
 obtain ⟨o', items, n, ho', hc, hd', hi⟩ := x
 have hne : a ≠ d := by
  rintro rfl
  obtain rfl : o' = o := Option.some.inj (ho'.symm.trans ho)
  rw [hd] at hd'; exact nomatch hd'
 exact ⟨o', items, n, (hs.2 a hne).trans ho', hc, hd', hi.keeps ho hd hs⟩
variable {A : Around} {E : Value → Shared → Prop} {s : Shared}
end
end PySem
set_option maxRecDepth 100000
set_option maxHeartbeats 4000000
namespace Y
open PySem PySem.Spec L2
def ndLook (k : List (List Int)) : List (List (List Int) × PyData) → Option PyData
 | [] => none
 | (j, d) :: r => if j = k then some d else ndLook k r
def ndPut (k : List (List Int)) (v : PyData) (kvs : List (List (List Int) × PyData)) : List (List (List Int) × PyData) :=
 if (ndLook k kvs).isSome then kvs.map (fun p => if p.1 = k then (p.1, v) else p) else kvs ++ [(k, v)]
inductive NdZ (F : Hp) : List (List (List Int) × Addr × V) → List (List (List Int) × PyData) → List Value → Prop
 | nil : NdZ F [] [] []
 | cons {k : List (List Int)} {b : Addr} {v : V} {d : PyData} {u : Value} {ws : List (List (List Int) × Addr × V)} {kvs : List (List (List Int) × PyData)} {vs : List Value} : Fz F (.ref b) (netD k) → Fz F v d → RelV v u → NdZ F ws kvs vs → NdZ F ((k, b, v) :: ws) ((k, d) :: kvs) (u :: vs)
section
variable {F : Hp}
theorem NdZ.back {ws : List (List (List Int) × Addr × V)} {kvs : List (List (List Int) × PyData)} {vs : List Value} (h : NdZ F ws kvs vs) : NdR F ws kvs ∧ Vals (ws.map (·.2.2)) vs := by
 induction h with
 | nil => exact ⟨⟨rfl, .nil, .nil⟩, .nil⟩
 | cons a b c _ ih => exact ⟨⟨by rw [List.map_cons, List.map_cons, ih.1.1], .cons a ih.1.2.1, .cons b ih.1.2.2⟩, .cons c ih.2⟩
theorem NdZ.len {ws : List (List (List Int) × Addr × V)} {kvs : List (List (List Int) × PyData)} {vs : List Value} (h : NdZ F ws kvs vs) : ws.length = kvs.length ∧ vs.length = ws.length := by
 induction h with
 | nil => exact ⟨rfl, rfl⟩
 | cons _ _ _ _ ih => exact ⟨by simp [ih.1], by simp [ih.2]⟩
def xsOf (ws : List (List (List Int) × Addr × V)) (vs : List Value) : List (List (List Int) × Addr × Value) := (ws.zip vs).map fun p => (p.1.1, p.1.2.1, p.2)
theorem xs_cons {k : List (List Int)} {b : Addr} {v : V} {u : Value} {ws : List (List (List Int) × Addr × V)} {vs : List Value} : xsOf ((k, b, v) :: ws) (u :: vs) = (k, b, u) :: xsOf ws vs := rfl
theorem NdZ.keys {ws : List (List (List Int) × Addr × V)} {kvs : List (List (List Int) × PyData)} {vs : List Value} (h : NdZ F ws kvs vs) : (xsOf ws vs).map (·.1) = ws.map (·.1) ∧ ws.map (·.1) = kvs.map (·.1) := by
 induction h with
 | nil => exact ⟨rfl, rfl⟩
 | cons _ _ _ _ ih => exact ⟨by rw [xs_cons, List.map_cons, List.map_cons, ih.1], by rw [List.map_cons, List.map_cons, ih.2]⟩
theorem NdZ.look {ws : List (List (List Int) × Addr × V)} {kvs : List (List (List Int) × PyData)} {vs : List Value} (h : NdZ F ws kvs vs) (k : List (List Int)) : (ndLook k kvs = none ∧ atKey (xsOf ws vs) k = none) ∨ ∃ d v b u, ndLook k kvs = some d ∧ atKey (xsOf ws vs) k = some (b, u) ∧ RelV v u ∧ Fz F v d := by
 induction h with
 | nil => exact .inl ⟨rfl, rfl⟩
 | @cons j b v d u ws kvs vs a1 a2 a3 _ ih =>
  rw [xs_cons]
  by_cases q : j = k
  ·right
   refine ⟨d, v, b, u, ?_, ?_, a3, a2⟩
   ·unfold ndLook; rw [if_pos q]
   ·simp [atKey, List.find?_cons, q]
  ·have e1 : ndLook k ((j, d) :: kvs) = ndLook k kvs := by
    show (if j = k then some d else ndLook k kvs) = _
    rw [if_neg q]
   have e2 : atKey ((j, b, u) :: xsOf ws vs) k = atKey (xsOf ws vs) k := by simp [atKey, List.find?_cons, q]
   rw [e1, e2]
   exact ih
theorem NdZ.app {ws : List (List (List Int) × Addr × V)} {kvs : List (List (List Int) × PyData)} {vs : List Value} (h : NdZ F ws kvs vs) {k : List (List Int)} {b : Addr} {v : V} {d : PyData} {u : Value} (a1 : Fz F (.ref b) (netD k)) (a2 : Fz F v d) (a3 : RelV v u) : NdZ F (ws ++ [(k, b, v)]) (kvs ++ [(k, d)]) (vs ++ [u]) ∧ xsOf (ws ++ [(k, b, v)]) (vs ++ [u]) = xsOf ws vs ++ [(k, b, u)] := by
 induction h with
 | nil => exact ⟨.cons a1 a2 a3 .nil, rfl⟩
 | cons b1 b2 b3 _ ih => exact ⟨.cons b1 b2 b3 ih.1, by rw [List.cons_append, List.cons_append, xs_cons, ih.2, xs_cons, List.cons_append]⟩
theorem NdZ.repl {ws : List (List (List Int) × Addr × V)} {kvs : List (List (List Int) × PyData)} {vs : List Value} (h : NdZ F ws kvs vs) {k : List (List Int)} {v : V} {d : PyData} {u : Value} (a2 : Fz F v d) (a3 : RelV v u) : ∃ ws' vs', NdZ F ws' (kvs.map fun p => if p.1 = k then (p.1, d) else p) vs' ∧ xsOf ws' vs' = (xsOf ws vs).map (putAt k u) := by
 induction h with
 | nil => exact ⟨[], [], .nil, rfl⟩
 | @cons j b w e x ws kvs vs b1 b2 b3 _ ih =>
  obtain ⟨ws', vs', h1, h2⟩ := ih
  by_cases q : j = k
  ·refine ⟨(j, b, v) :: ws', u :: vs', ?_, ?_⟩
   ·rw [List.map_cons, if_pos q]
    exact .cons b1 a2 a3 h1
   ·rw [xs_cons, xs_cons, List.map_cons, h2]
    unfold putAt
    rw [if_pos q]
  ·refine ⟨(j, b, w) :: ws', x :: vs', ?_, ?_⟩
   ·rw [List.map_cons, if_neg q]
    exact .cons b1 b2 b3 h1
   ·rw [xs_cons, xs_cons, List.map_cons, h2]
    unfold putAt
    rw [if_neg q]
theorem NdZ.put {ws : List (List (List Int) × Addr × V)} {kvs : List (List (List Int) × PyData)} {vs : List Value} (h : NdZ F ws kvs vs) (hn : (kvs.map (·.1)).Nodup) {k : List (List Int)} {b : Addr} {v : V} {d : PyData} {u : Value} (a1 : Fz F (.ref b) (netD k)) (a2 : Fz F v d) (a3 : RelV v u) : ∃ ws' vs', NdZ F ws' (ndPut k d kvs) vs' ∧ xsOf ws' vs' = storedH (xsOf ws vs) k b u ∧ ((ndPut k d kvs).map (·.1)).Nodup ∧ (ndPut k d kvs).length ≤ kvs.length + 1 := by
 unfold ndPut
 rcases h.look k with ⟨e1, e2⟩ | ⟨d', v', b', u', e1, e2, _, _⟩
 ·obtain ⟨g1, g2⟩ := h.app a1 a2 a3
  refine ⟨_, _, by rw [e1]; exact g1, by rw [g2, storedH_new e2], ?_, by rw [e1]; simp⟩
  rw [e1]
  show ((kvs ++ [(k, d)]).map (·.1)).Nodup
  have nk : k ∉ kvs.map (·.1) := fun hm => by
   have : ∀ {l : List (List (List Int) × PyData)}, k ∈ l.map (·.1) → ndLook k l ≠ none := by
    intro l
    induction l with
    | nil => intro hm; cases hm
    | cons p r ih =>
     intro hm
     obtain ⟨j, x⟩ := p
     unfold ndLook
     by_cases q : j = k
     ·rw [if_pos q]; exact fun z => nomatch z
     ·rw [if_neg q]
      exact ih ((List.mem_cons.mp hm).resolve_left fun z => q z.symm)
   exact this hm e1
  rw [List.map_append]
  exact List.nodup_append.mpr ⟨hn, by simp, fun x hx y hy e => by
   have hy' : y = k := by simpa using hy
   exact nk (hy' ▸ e ▸ hx)⟩
 ·obtain ⟨ws', vs', g1, g2⟩ := h.repl (k := k) a2 a3
  have ek : (kvs.map fun p => if p.1 = k then (p.1, d) else p).map (·.1) = kvs.map (·.1) := by
   rw [List.map_map]
   refine List.map_congr_left fun p _ => ?_
   show (if p.1 = k then (p.1, d) else p).1 = p.1
   split <;> rfl
  refine ⟨ws', vs', by rw [e1]; exact g1, by rw [g2, storedH_old e2], ?_, by rw [e1]; simp⟩
  rw [e1]
  show ((kvs.map fun p => if p.1 = k then (p.1, d) else p).map (·.1)).Nodup
  rw [ek]
  exact hn
end
section
variable {P : Program} {w : World} {F H : Hp} {h : Heap}
end
section
variable {X : Cx} {pins : List (Addr × Obj)} {σ : L2.St} {s : Shared} {F H : Hp}
end
end Y
set_option maxRecDepth 100000
set_option maxHeartbeats 4000000
namespace L2
open PySem PySem.Spec PyProof.Rows
variable {X : Cx}
def rHowOftenT (K : PySem.W.Frag) : V → List V → Hp → VK → Prop := fun x xs H Q => ∃ (a : Addr) (y : V) (d : PyData) (ds : List PyData), x = V.ref a ∧ xs = [y] ∧ Dp K H (V.ref a) (.tuple ds) ∧ Dp K H y d ∧
 SeqAt.shaped (.tuple ds) = true ∧ SeqAt.shaped d = true ∧ Q (.int ((ds.countP fun z => PyData.eqv z d : Nat) : Int)) H
theorem mt_howOftenT (hu : X.A.units + 65 < cLine) : MtR X "tuple.count" (rHowOftenT X.K) := by
 intro pins s σ H x xs v us Q I rx rxs h
 obtain ⟨a, y, d, ds, rfl, rfl, hl, hy, sl, sd, q⟩ := h
 cases rx
 obtain ⟨uy, rfl, ry⟩ := rxs.one
 obtain ⟨bs, r1⟩ := Dp.reads I d y uy hy ry
 have hlay : PyData.canLayAll0 ds = true := SeqAt.canLay_of_shaped sl
 cases hl with
 | tup hs ha =>
  obtain ⟨its, rv, ⟨⟨c1, d1, t1, s1⟩, ho, hc, n, hdt⟩, hlen⟩ := I.tuple hs
  simp only at hc hdt
  subst hc hdt
  obtain ⟨as, h4⟩ := Dp.readsAll I ds _ its ha rv
  have hmap : its.map (SeqAt.readOf s.heap) = ds := SeqAt.readsAll_map ds its as hlay h4
  refine call_meets PySem.F.slot_tuple_count ⟨_, ho, rfl⟩ PySem.F.entry_tuple_count (PySem.F.args_tuple_count_2 _ _)
   (SeqAt.tuple_countAt a its.toArray n d1 s1 uy (fun u => PyData.eqv (SeqAt.readOf s.heap u) d)) ⟨ho, SeqAt.items_eqAt (vs := its.toArray) (show ReadsAll s.heap its.toArray.toList ds as from h4) r1 hlay (SeqAt.canLay_of_shaped sd) (room_in_shaped sd hu), ?_⟩
  have ec : its.toArray.toList.countP (fun u => PyData.eqv (SeqAt.readOf s.heap u) d) = ds.countP fun z => PyData.eqv z d := by
   rw [← hmap, List.countP_map]
   rfl
  refine ⟨.int ((ds.countP fun z => PyData.eqv z d : Nat) : Int), H, I.tok _, ⟨s.toks, ?_⟩, q⟩
  show Value.int ((its.toArray.toList.countP _ : Nat) : Int) s.toks = _
  rw [ec]
end L2
namespace Y
open PySem PySem.Spec L2
def gCntT : List SV → Option SV
 | [t, u] => match t.view, u.view with
  | some (.tuple ds), some d => if SeqAt.shaped (.tuple ds) = true ∧ SeqAt.shaped d = true then some (.fz (.int ((ds.countP fun z => PyData.eqv z d : Nat) : Int))) else none
  | _, _ => none
 | _ => none
section
variable {X : Cx} {EX : Hp → V → Str → Option PyData → Prop} {W : WX} {e a b c : Expr} {pos : Pos} {fa fb fk fv : DS → Out EV}
theorem mm_tcount (hu : X.A.units + 65 < cLine) : MtR X "tuple.count" (mG X.K gCntT) := by
 intro pins s σ H x xs v us Q I rx rv ⟨F, ts, z, fh, oa, e, q⟩
 unfold gCntT at e
 split at e
 ·split at e
  ·rename_i t u ds d h1 h2
   split at e
   ·rename_i hs
    cases e
    obtain ⟨y1, y2, f1, f2, e1, o1, o2⟩ := ownA_2 oa
    cases e1
    have d1 := own_view fh o1 h1
    have d2 := own_view fh o2 h2
    have : ∃ a, x = V.ref a := by cases d1 with | tup _ _ => exact ⟨_, rfl⟩
    obtain ⟨a, rfl⟩ := this
    exact mt_howOftenT hu pins s σ H _ _ v us Q I rx rv ⟨a, y2, d, ds, rfl, rfl, d1, d2, hs.1, hs.2, q F H _ [] (nv_fz fh (.int _))⟩
   ·cases e
  ·cases e
 ·cases e
end
end Y
set_option maxRecDepth 100000
namespace Hd
open PySem PySem.W
def rI (n : Nat) : Value := .int n 0
inductive It where
 | d (i a t : Nat)
 | r (i a t : Nat)
 | e (i a t i2 a2 t2 : Nat)
 | o (os : List Obj) (es : List (Str × Nat × Value)) (ps : List Value)
 | m (v : Value)
end Hd
set_option maxRecDepth 100000
set_option maxHeartbeats 4000000
namespace Y
open PySem PySem.Spec L2
section
variable {C : Cn} {W : WX} {AV : List V} {F F1 H H1 : Hp} {σ : L2.St} {S S1 S2 : DS} {fp fp1 fp2 : Rt → List Addr} {T : List Rt} {vs : List Nat}
theorem EvA.block (st : StOk C AV F H σ S fp) (s2 : StOk C AV F1 H1 (wipe σ vs) S2 fp2) (p : EvA F H F1 H1 (killF vs fp) fp2) (k0 : ∀ r a, ownR vs r = true → a ∉ fp2 r) :
  StOk C AV F1 H1 σ (S2.rest S vs) (restF vs fp2 fp) ∧ EvA F H F1 H1 fp (restF vs fp2 fp) := by
 have ll : S2.sl.length = S.sl.length := by rw [s2.ln, wipe_length, st.ln]
 have alS : ∀ a, Al (killF vs fp) a → Al fp a := fun a ⟨r, h⟩ => ⟨r, (killF_sub h).2⟩
 have notK : ∀ r a, ownR vs r = true → a ∈ fp r → ¬ Al (killF vs fp) a := fun r a hr ha ⟨r', h2⟩ => by
  obtain ⟨q1, q2⟩ := killF_sub h2
  have := st.dj r r' a ha q2
  subst this
  rw [hr] at q1; cases q1
 have own1 : ∀ r a, ownR vs r = true → a ∈ fp r → H1 a = H a ∧ F1 a = none := fun r a hr ha => by
  obtain ⟨m1, o, m2⟩ := st.mm r a ha
  have nr := notK r a hr ha
  refine ⟨(p.evo.keep a o m2 nr).trans m2.symm, ?_⟩
  cases q : F1 a with
  | none => rfl
  | some o1 =>
   rcases p.evo.fnew a o1 q m1 with z | z | ⟨xs, z⟩
   ·exact absurd z nr
   ·rw [m2] at z; cases z
   ·exact absurd z (st.mt r a xs ha)
 have cross : ∀ r r' a, ownR vs r = true → a ∈ fp r → a ∈ fp2 r' → False := fun r r' a hr h1 h2 => by
  rcases p.new a ⟨r', h2⟩ with z | z
  ·exact notK r a hr h1 z
  ·obtain ⟨_, o, m⟩ := st.mm r a h1; rw [m] at z; cases z
 refine ⟨⟨s2.fh, fun i x hx => ?_, fun j t hj => ?_, fun r r' a h1 h2 => ?_, fun r => ?_, fun r a ha => ?_, fun r a xs ha z1 => ?_, by rw [rest_len, ll]; exact st.ln, by rw [rest_ar]; exact s2.la⟩, p.evo.mono alS, fun a ⟨r, ha⟩ => ?_⟩
 ·by_cases z : i ∈ vs
  ·rw [rest_in ll z] at hx
   obtain ⟨v, q1, q2⟩ := st.sl i x hx
   have ho : ownR vs (.s i) = true := by simp [ownR, z]
   refine ⟨v, q1, ?_⟩
   rw [restF_in ho]
   cases x with
   | tr t => exact own_keep p.evo.fsub t v _ q2 fun a ha => own1 _ a ho ha
   | ar j => exact q2
   | ex c d => exact slEx_mono p.evo.fsub q2
   | ls js => exact slLs_mono p.evo.fsub q2
  ·rw [rest_out z] at hx
   obtain ⟨v, q1, q2⟩ := s2.sl i x hx
   rw [wipe_out z] at q1
   exact ⟨v, q1, by rw [restF_out (by simp [ownR, z])]; exact q2⟩
 ·rw [rest_ar] at hj
  obtain ⟨v, q1, q2⟩ := s2.ar j t hj
  exact ⟨v, q1, by rw [restF_out rfl]; exact q2⟩
 ·cases q : ownR vs r with
  | true =>
   rw [restF_in q] at h1
   cases q' : ownR vs r' with
   | true => rw [restF_in q'] at h2; exact st.dj r r' a h1 h2
   | false => rw [restF_out q'] at h2; exact (cross r r' a q h1 h2).elim
  | false =>
   rw [restF_out q] at h1
   cases q' : ownR vs r' with
   | true => rw [restF_in q'] at h2; exact (cross r' r a q' h2 h1).elim
   | false => rw [restF_out q'] at h2; exact s2.dj r r' a h1 h2
 ·cases q : ownR vs r with
  | true => rw [restF_in q]; exact st.nd r
  | false => rw [restF_out q]; exact s2.nd r
 ·cases q : ownR vs r with
  | true =>
   rw [restF_in q] at ha
   obtain ⟨h1, h2⟩ := own1 r a q ha
   obtain ⟨_, o, m⟩ := st.mm r a ha
   exact ⟨h2, o, h1.trans m⟩
  | false => rw [restF_out q] at ha; exact s2.mm r a ha
 ·cases q : ownR vs r with
  | true =>
   rw [restF_in q] at ha
   exact st.mt r a xs ha ((own1 r a q ha).1 ▸ z1)
  | false => rw [restF_out q] at ha; exact s2.mt r a xs ha z1
 ·cases q : ownR vs r with
  | true => rw [restF_in q] at ha; exact .inl ⟨r, ha⟩
  | false =>
   rw [restF_out q] at ha
   rcases p.new a ⟨r, ha⟩ with z | z
   ·exact .inl (alS a z)
   ·exact .inr z
theorem ExcW.block {c : Str} {d : Option PyData} {S5 : DS} {σ3 : L2.St} {F4 H4 : Hp} {f4 : Rt → List Addr} (st : StOk C AV F H σ S fp) (w3 : wipe σ3 vs = wipe σ vs) (e4 : EvA F H F4 H4 (killF vs fp) f4)
  (h : ExcW C W AV F H σ fp c d ((S5.kills vs).rest S vs)) : ExcW C (fun c d _ H => W c d σ H) AV F4 H4 σ3 f4 c d S5 := by
 intro F' H' fp' cls dd s' ev ok
 have sk := s'.killsW (wipe σ vs) w3.symm
 have e5 : EvA F H F' H' (killF vs fp) (killF vs fp') := ⟨(e4.trans ev).evo, fun a ⟨r, ha⟩ => (e4.trans ev).new a ⟨r, (killF_sub ha).2⟩⟩
 obtain ⟨a, b⟩ := EvA.block st sk e5 fun r a hr ha => by rw [killF_in hr] at ha; cases ha
 exact h F' H' _ cls dd a b ok
end
end Y
set_option maxRecDepth 100000
set_option maxHeartbeats 4000000
namespace Y
open PySem PySem.Spec L2
def eMetT (g : List SV → Option SV) (fo : DS → Out EV) (fr : DS → Out (List EV)) : DS → Out EV := fun S =>
 (fo S).bindT fun eo S1 _ => match eo with
  | .sv (.fz (.tuple ds)) => (fr S1).bindT fun es S2 _ => match trees S2 es with
   | some ts => match g (.fz (.tuple ds) :: ts) with
    | some z => .ok (.sv z) S2 []
    | none => .fail
   | none => .fail
  | _ => .fail
section
variable {X : Cx} {C : Cn} {EX : Hp → V → Str → Option PyData → Prop} {W : WX} {o e : Expr} {es : List Expr} {name : Str} {apos cpos : Pos} {id : String} {r : V → List V → Hp → VK → Prop} {fo : DS → Out EV} {fr : DS → Out (List EV)}
def tBMT (r : V → List V → Hp → VK → Prop) (to : TE) (t : TA) : TE := fun σ H Q => to σ H fun x H1 => (∃ (a : Addr) (ob : Obj) (xs : List V), x = .ref a ∧ H1 a = some (.frz ob (.tup xs)) ∧ ob.dict = none) ∧ t σ H1 fun xs H2 => r x xs H2 Q
theorem pe_bmT {to : TE} {t : TA} (pa : PlainAttrs "tuple") (slot : Slot "tuple" name id) (hty : typeOf (.builtin id) = pure (.type "method_descriptor")) (hm : MtR X id r) (ho : PE X o to) (ha : PA X (e :: es) t)
  (hbase : attributeBase o name X.env (eval o X.env) = eval o X.env := by rfl)
  (hfew : ((backTo cpos (starEach (e :: es) X.env)).all (fun x => !x.1) && (backToKw cpos (keywordEach [] X.env)).all (fun x => x.1.isSome)
   && decide ((e :: es).length + ([] : List Keyword).length + (if ([] : List Keyword).isEmpty then 0 else 1) < 30)) = true := by rfl)
  (hline : (apos.endLine == cpos.line) = true := by rfl) (hs : starEach (e :: es) X.env = (false, eval e X.env) :: starEach es X.env := by rfl) (hplain : (backTo cpos (starEach es X.env)).any (·.1) = false := by rfl) :
  PE X (.Call (.Attribute o name apos) (e :: es) [] cpos) (tBMT r to t) := by
 refine ⟨fun pins s σ H Q I h => ?_⟩
 refine wpAny_Call_method_late hbase hfew hline rfl (thn (ho.run pins s σ H _ I h) fun v s1 ⟨x, H1, I1, r1, ⟨a, ob, xs, ex, hx, hd⟩, q1⟩ => ?_)
 subst ex
 cases r1
 obtain ⟨hob, _, its, _, hT⟩ := (show ObjOk X.prog X.w H1 s1.heap a (.frz ob (.tup xs)) from I1.hok a _ hx)
 refine ⟨"tuple", id, pa, slot, hty, hT.typeIs, fun b e => by cases e; exact ⟨ob, hob, hd⟩, ?_⟩
 have hA := ha.run cpos pins s1 σ H1 _ I1 q1
 rw [hs] at hA ⊢
 refine Calls.callWith_builtin (by show (false || (backTo cpos (starEach es X.env)).any (·.1)) = false; rw [hplain] <;> rfl) (Calls.evalArgs_plain ?_)
 exact thn hA fun us s2 ⟨vs, H2, I2, r2, q2⟩ => hm pins s2 σ H2 (.ref a) vs (.ref a) us Q I2 rfl r2 q2
theorem tMetT_LE {g : List SV → Option SV} : ∀ σ H Q, LE C W (eMetT g fo fr) σ H Q → tBMT (mG C.K g) (LE C W fo) (LA C W fr) σ H Q := by
 intro σ H Q ⟨AV, F, S, fp, st, q⟩
 unfold eMetT at q
 refine ⟨AV, F, S, fp, st, wp_mono (wp_bindT q) fun eo S1 T1 q1 F1 H1 fp1 v fe p1 v1 => ?_⟩
 have q1' := q1 F1 H1 fp1 p1.evA
 split at q1'
 ·rename_i ds
  have o1 : Own C.K F1 H1 (.fz (.tuple ds)) v fe := v1.val
  have h1 := own_fz o1
  cases h1 with
  | @tup a xs _ hT ga =>
   obtain ⟨ob, h2, hd⟩ := hT
   refine ⟨⟨a, ob, xs, rfl, p1.st.fh _ _ h2, hd⟩, AV, F1, S1, fp1, p1.st, wp_mono (wp_bindT q1') fun es S2 T2 q2 F2 H2 fp2 ys fy p2 v2 => ?_⟩
   have q2' := q2 F2 H2 fp2 p2.evA
   split at q2'
   ·rename_i ts hts
    split at q2'
    ·rename_i z hg
     have ot : Own C.K F2 H2 (.fz (.tuple ds)) (.ref a) [] := own_of_fz (fz_mono p2.evo.fsub _ _ (.tup ⟨ob, h2, hd⟩ ga))
     refine ⟨F2, _ :: ts, z, p2.st.fh, .cons ot (ownA_of p2.st v2.ln v2.val hts), hg, fun F3 H3 w fw n => new_ok (W := W) (p1.trans p2) n ?_⟩
     refine wp_mono q2' fun y S' T' k F' H' fp' v fe P V => ?_
     rw [← List.append_assoc] at k
     exact k F' H' fp' v fe P V
    ·exact q2'.elim
   ·exact q2'.elim
 ·exact q1'.elim
theorem de_metT {g : List SV → Option SV} (hm : MtR X id (mG X.K g)) (pa : PlainAttrs "tuple") (slot : Slot "tuple" name id) (hty : typeOf (.builtin id) = pure (.type "method_descriptor")) (ho : DE X EX W o fo) (ha : DA X EX W (e :: es) fr)
  (hbase : attributeBase o name X.env (eval o X.env) = eval o X.env := by rfl)
  (hfew : ((backTo cpos (starEach (e :: es) X.env)).all (fun x => !x.1) && (backToKw cpos (keywordEach [] X.env)).all (fun x => x.1.isSome) && decide ((e :: es).length + ([] : List Keyword).length + (if ([] : List Keyword).isEmpty then 0 else 1) < 30)) = true := by rfl)
  (hline : (apos.endLine == cpos.line) = true := by rfl) (hs : starEach (e :: es) X.env = (false, eval e X.env) :: starEach es X.env := by rfl) (hplain : (backTo cpos (starEach es X.env)).any (·.1) = false := by rfl) :
  DE X EX W (.Call (.Attribute o name apos) (e :: es) [] cpos) (eMetT g fo fr) :=
 pe_of (pe_bmT pa slot hty hm ho ha hbase hfew hline hs hplain) (tMetT_LE (C := cnOf X EX))
end
end Y
set_option maxRecDepth 100000
set_option maxHeartbeats 4000000
namespace U
open PySem PySem.Spec Y
open L2 (atI ixN)
inductive R (α : Type) where
 | ok (a : α)
 | exc (c : Str) (d : Option PyData)
 | fail
def R.bind {α β : Type} (r : R α) (f : α → R β) : R β := match r with
 | .ok a => f a
 | .exc c d => .exc c d
 | .fail => .fail
theorem R.bind_ok {α β : Type} {r : R α} {f : α → R β} {b : β} (h : r.bind f = .ok b) : ∃ a, r = .ok a ∧ f a = .ok b := by
 cases r with
 | ok a => exact ⟨a, rfl, h⟩
 | exc c d => cases h
 | fail => cases h
theorem R.ok_bind {α β : Type} {a : α} {f : α → R β} : (R.ok a).bind f = f a := rfl
theorem R.inj {α : Type} {a b : α} (h : R.ok a = R.ok b) : a = b := by cases h; rfl
theorem ite_t {α : Type} {b : Bool} {x y : α} {z : α} (hb : b = true) (h : (if b = true then x else y) = z) : x = z := by rw [if_pos hb] at h; exact h
theorem ite_f {α : Type} {b : Bool} {x y : α} {z : α} (hb : b = false) (h : (if b = true then x else y) = z) : y = z := by rw [if_neg (by simp [hb])] at h; exact h
inductive Ctl (ρ σ : Type) where
 | nx (s : σ)
 | rt (r : ρ)
 | bk (s : σ)
def Ctl.elim {ρ σ β : Type} (c : Ctl ρ σ) (f : σ → β) (g : ρ → β) : β := match c with
 | .nx s => f s
 | .rt r => g r
 | .bk s => f s
def forR {α σ : Type} (body : σ → α → R σ) : List α → σ → R σ
 | [], s => .ok s
 | x :: xs, s => (body s x).bind fun s' => forR body xs s'
def forC {α ρ σ : Type} (body : σ → α → R (Ctl ρ σ)) : List α → σ → R (Ctl ρ σ)
 | [], s => .ok (.nx s)
 | x :: xs, s => (body s x).bind fun c => match c with
  | .nx s' => forC body xs s'
  | .rt r => .ok (.rt r)
  | .bk s' => .ok (.nx s')
def whileR {σ : Type} (cond : σ → R Bool) (body : σ → R σ) : Nat → σ → R σ
 | 0, _ => .fail
 | n + 1, s => (cond s).bind fun b => if b = true then (body s).bind fun s' => whileR cond body n s' else .ok s
def mapR {α β : Type} (body : α → R β) : List α → R (List β)
 | [] => .ok []
 | x :: xs => (body x).bind fun y => (mapR body xs).bind fun ys => .ok (y :: ys)
def fmapR {α β : Type} (body : α → R (Option β)) : List α → R (List β)
 | [] => .ok []
 | x :: xs => (body x).bind fun o => (fmapR body xs).bind fun ys => .ok (match o with
  | some y => y :: ys
  | none => ys)
def smapR {α β σ : Type} (body : σ → α → R (σ × β)) : List α → σ → R (σ × List β)
 | [], s => .ok (s, [])
 | x :: xs, s => (body s x).bind fun r => (smapR body xs r.1).bind fun q => .ok (q.1, r.2 :: q.2)
def lcR {α β : Type} (xs : List α) (body : α → R β) : R (List β) := if xs.length ≤ sizeLine then mapR body xs else .fail
def lcF {α β : Type} (xs : List α) (body : α → R (Option β)) : R (List β) := if xs.length ≤ sizeLine then fmapR body xs else .fail
def lcS {α β σ : Type} (xs : List α) (s : σ) (body : σ → α → R (σ × β)) : R (σ × List β) := if xs.length ≤ sizeLine then smapR body xs s else .fail
section
variable {α β γ : Type}
def dL (c : α → PyData) (xs : List α) : PyData := .list (xs.map c)
def dT (c : α → PyData) (xs : List α) : PyData := .tuple (xs.map c)
def dP (c : α → PyData) (e : β → PyData) (x : α × β) : PyData := .tuple [c x.1, e x.2]
def dN (_ : Unit) : PyData := .none
def sF (c : α → PyData) (x : α) : SV := .fz (c x)
def sL (e : α → SV) (xs : List α) : SV := .lst (xs.map e)
def sR (c : α → PyData) (x : α) : SV := .ro (c x)
end
abbrev tr (v : SV) : Option Sl := some (.tr v)
abbrev ar (j : Nat) : Option Sl := some (.ar j)
def EJ (f : DS → Out EV) (S : DS) (v : EV) (S' : DS) (L : List Rt) : Prop := ∃ T, f S = .ok v S' T ∧ ∀ r ∈ T, r ∈ L
def AJ (f : DS → Out (List EV)) (S : DS) (v : List EV) (S' : DS) (L : List Rt) : Prop := ∃ T, f S = .ok v S' T ∧ ∀ r ∈ T, r ∈ L
def IJ (f : DS → Out (List PyData)) (S : DS) (v : List PyData) (S' : DS) (L : List Rt) : Prop := ∃ T, f S = .ok v S' T ∧ ∀ r ∈ T, r ∈ L
def OJ (f : DS → Out (Option Int)) (S : DS) (v : Option Int) (S' : DS) (L : List Rt) : Prop := ∃ T, f S = .ok v S' T ∧ ∀ r ∈ T, r ∈ L
def RJ (f : DS → Out (Int × Int)) (S : DS) (i j : Int) (S' : DS) (L : List Rt) : Prop := ∃ T, f S = .ok (i, j) S' T ∧ ∀ r ∈ T, r ∈ L
def TJ (f : DS → Out Bool) (S : DS) (b : Bool) (S' : DS) (L : List Rt) : Prop := ∃ T, f S = .ok b S' T ∧ ∀ r ∈ T, r ∈ L
def TR (v : EV) (S : DS) (t : SV) : Prop := v.tree S = some t
def TRs (es : List EV) (S : DS) (ts : List SV) : Prop := trees S es = some ts
def STB (v : EV) (L : List Rt) : Prop := ∀ T, (∀ r ∈ T, r ∈ L) → v.stable T = true
def PB (S : DS) (es : List EV) (A : List SV) (S' : DS) : Prop := putBack S es A = S'
structure Sim (o : SOut) (P : SOut → Prop) : Prop where
 out : P o
section
variable {S S1 S2 S3 S' : DS} {L L1 L2 L3 : List Rt} {e ea eb ec : EV} {es : List EV} {t u z w y : SV} {ts : List SV} {d : PyData} {fa fb fc fo fi fe : DS → Out EV} {fr : DS → Out (List EV)} {i j k : Nat} {r : Rt} {α β σ ρ : Type}
theorem sub_nil (t : SV) : t.sub [] = some t := by unfold SV.sub; cases t <;> rfl
theorem set_nil (t v : SV) : t.setAt [] v = v := by unfold SV.setAt; cases t <;> rfl
theorem sub_one {xs : List SV} {x : SV} (h : xs[k]? = some x) : (SV.lst xs).sub [k] = some x := by
 unfold SV.sub
 rw [h]
 exact sub_nil x
theorem set_one {xs : List SV} {x v : SV} (h : xs[k]? = some x) : (SV.lst xs).setAt [k] v = .lst (xs.set k v) := by
 unfold SV.setAt
 rw [h]
 show SV.lst (xs.set k (x.setAt [] v)) = _
 rw [set_nil]
theorem nil_in : ∀ r ∈ ([] : List Rt), r ∈ L := fun _ h => by cases h
theorem app_in {T1 T2 : List Rt} (h1 : ∀ r ∈ T1, r ∈ L1) (h2 : ∀ r ∈ T2, r ∈ L2) : ∀ r ∈ T1 ++ T2, r ∈ L1 ++ L2 := fun r h => by
 rcases List.mem_append.mp h with h | h
 ·exact List.mem_append.mpr (.inl (h1 r h))
 ·exact List.mem_append.mpr (.inr (h2 r h))
theorem app_nil {T1 : List Rt} (h1 : ∀ r ∈ T1, r ∈ L1) : ∀ r ∈ T1 ++ [], r ∈ L1 := fun r h => by rw [List.append_nil] at h; exact h1 r h
theorem tr_sv : TR (.sv t) S t := rfl
theorem tr_pk (h : S.get r = some t) : TR (.pk r []) S t := by
 unfold TR EV.tree
 dsimp only
 rw [h]
 exact sub_nil t
theorem map_at {f : α → β} {xs : List α} {x : α} (h : xs[k]? = some x) : (xs.map f)[k]? = some (f x) := by rw [List.getElem?_map, h]; rfl
theorem tr_pk1 {en : α → SV} {xs : List α} {x : α} (h : S.get r = some (sL en xs)) (h2 : xs[k]? = some x) : TR (.pk r [k]) S (en x) := by
 unfold TR EV.tree
 dsimp only
 rw [h]
 exact sub_one (map_at h2)
theorem trs_nil : TRs [] S [] := rfl
theorem trs_cons (a : TR e S t) (b : TRs es S ts) : TRs (e :: es) S (t :: ts) := by
 unfold TR TRs at *
 unfold trees
 rw [a, b]
theorem st_sv : STB (.sv t) L := fun _ _ => rfl
theorem st_pk : STB (.pk r []) L := fun _ _ => rfl
theorem st_pk1 {p : List Nat} (h : r ∉ L) : STB (.pk r p) L := fun T hT => by
 have : r ∉ T := fun z => h (hT r z)
 unfold EV.stable
 simp [this]
theorem q_c : EJ (eC d) S (.sv (.fz d)) S [] := ⟨[], rfl, nil_in⟩
theorem q_ro : EJ (eRo d) S (.sv (.ro d)) S [] := ⟨[], rfl, nil_in⟩
theorem q_vf (h : S.sl[i]? = some (some (.tr (.fz d)))) : EJ (eVar i) S (.sv (.fz d)) S [] := ⟨[], by unfold eVar; rw [h], nil_in⟩
theorem q_vr (h : S.sl[i]? = some (some (.tr (.ro d)))) : EJ (eVar i) S (.sv (.ro d)) S [] := ⟨[], by unfold eVar; rw [h], nil_in⟩
theorem q_vl {xs : List SV} (h : S.sl[i]? = some (some (.tr (.lst xs)))) : EJ (eVar i) S (.pk (.s i) []) S [] := ⟨[], by unfold eVar; rw [h], nil_in⟩
theorem q_va {xs : List SV} (h : S.sl[i]? = some (some (.ar j))) (h2 : S.ar[j]? = some (.lst xs)) : EJ (eVar i) S (.pk (.a j) []) S [] := ⟨[], by unfold eVar; rw [h]; dsimp only; rw [h2], nil_in⟩
theorem q_op2 {g : SV → SV → Option SV} (a : EJ fa S ea S1 L1) (b : EJ fb S1 eb S2 L2) (s : STB ea L2) (ta : TR ea S2 t) (tb : TR eb S2 u) (h : g t u = some z) : EJ (eOp2 g fa fb) S (.sv z) S2 (L1 ++ L2) := by
 obtain ⟨T1, e1, n1⟩ := a
 obtain ⟨T2, e2, n2⟩ := b
 unfold TR at ta tb
 refine ⟨T1 ++ (T2 ++ []), ?_, app_in n1 (app_nil n2)⟩
 simp [eOp2, Out.bindT, e1, e2, s T2 n2, ta, tb, h]
theorem q_not {b : Bool} (a : EJ fa S ea S1 L1) (ta : TR ea S1 (.fz (.bool b))) : EJ (eNot fa) S (.sv (.fz (.bool (!b)))) S1 L1 := by
 obtain ⟨T1, e1, n1⟩ := a
 unfold TR at ta
 refine ⟨T1 ++ [], ?_, app_nil n1⟩
 simp [eNot, bnd, Out.bindT, e1, ta, tOf]
theorem q_and {b b2 : Bool} (a : EJ fa S ea S1 L1) (ta : TR ea S1 (.fz (.bool b))) (h1 : b = true → EJ fb S1 (.sv (.fz (.bool b2))) S1 L2) (h0 : b = false → b2 = false) : EJ (eAnd fa fb) S (.sv (.fz (.bool b2))) S1 (L1 ++ L2) := by
 obtain ⟨T1, e1, n1⟩ := a
 unfold TR at ta
 cases b with
 | true =>
  obtain ⟨T2, e2, n2⟩ := h1 rfl
  exact ⟨T1 ++ T2, by simp [eAnd, bnd, Out.bindT, e1, ta, tOf, e2], app_in n1 n2⟩
 | false =>
  rw [h0 rfl]
  exact ⟨T1 ++ [], by simp [eAnd, bnd, Out.bindT, e1, ta, tOf], app_in n1 nil_in⟩
theorem q_andp {b b2 : Bool} (a : EJ fa S ea S1 L1) (ta : TR ea S1 (.fz (.bool b))) (h1 : EJ fb S1 (.sv (.fz (.bool b2))) S1 L2) : EJ (eAnd fa fb) S (.sv (.fz (.bool (b && b2)))) S1 (L1 ++ L2) :=
 q_and a ta (fun hb => by rw [hb, Bool.true_and]; exact h1) fun hb => by rw [hb]; rfl
theorem q_tv {b : Bool} (a : EJ fa S ea S1 L1) (ta : TR ea S1 (.fz (.bool b))) : TJ (tv fa) S b S1 L1 := by
 obtain ⟨T1, e1, n1⟩ := a
 unfold TR at ta
 exact ⟨T1 ++ [], by simp [tv, bnd, Out.bindT, e1, ta, tOf], app_nil n1⟩
section
variable {t1 t2 : DS → Out Bool} {b b2 : Bool}
theorem q_lnot (h : TJ t1 S b S1 L) : TJ (lNot t1) S (!b) S1 L := by
 obtain ⟨T, e, n⟩ := h
 exact ⟨T ++ [], by simp [lNot, Out.bindT, e], app_nil n⟩
theorem q_lor (h : TJ t1 S b S1 L1) (h1 : b = false → TJ t2 S1 b2 S1 L2) (h0 : b = true → b2 = true) : TJ (lOr t1 t2) S b2 S1 (L1 ++ L2) := by
 obtain ⟨T, e, n⟩ := h
 cases b with
 | false => obtain ⟨T2, e2, n2⟩ := h1 rfl; exact ⟨T ++ T2, by simp [lOr, Out.bindT, e, e2], app_in n n2⟩
 | true => rw [h0 rfl]; exact ⟨T ++ [], by simp [lOr, Out.bindT, e], app_in n nil_in⟩
theorem q_lorp (h : TJ t1 S b S1 L1) (h1 : TJ t2 S1 b2 S1 L2) : TJ (lOr t1 t2) S (b || b2) S1 (L1 ++ L2) := q_lor h (fun hb => by rw [hb, Bool.false_or]; exact h1) fun hb => by rw [hb]; rfl
theorem EJ.up (h : EJ fa S ea S1 L1) (k : ∀ r ∈ L1, r ∈ L2) : EJ fa S ea S1 L2 := by
 obtain ⟨T, e, n⟩ := h
 exact ⟨T, e, fun r hr => k r (n r hr)⟩
end
theorem q_nil : AJ aNil S [] S [] := ⟨[], rfl, nil_in⟩
theorem q_cons (a : EJ fa S ea S1 L1) (b : AJ fr S1 es S2 L2) (s : STB ea L2) (ta : TR ea S2 t) : AJ (aCons fa fr) S (ea :: es) S2 (L1 ++ L2) := by
 obtain ⟨T1, e1, n1⟩ := a
 obtain ⟨T2, e2, n2⟩ := b
 unfold TR at ta
 exact ⟨T1 ++ (T2 ++ []), by simp [aCons, Out.bindT, e1, e2, s T2 n2, EV.alive, ta], app_in n1 (app_nil n2)⟩
theorem q_callB {g : List SV → Option SV} (a : AJ fr S es S1 L) (ht : TRs es S1 ts) (h : g ts = some z) : EJ (eCallB g fr) S (.sv z) S1 L := by
 obtain ⟨T1, e1, n1⟩ := a
 unfold TRs at ht
 exact ⟨T1 ++ [], by simp [eCallB, Out.bindT, e1, ht, h], app_nil n1⟩
theorem q_ix (a : EJ fa S ea S1 L1) (b : EJ fb S1 eb S2 L2) (s : STB ea L2) (ta : TR ea S2 t) (tb : TR eb S2 u) (h : gIx t u = some (.inl z)) : EJ (eIx fa fb) S (.sv z) S2 (L1 ++ L2) := by
 obtain ⟨T1, e1, n1⟩ := a
 obtain ⟨T2, e2, n2⟩ := b
 unfold TR at ta tb
 exact ⟨T1 ++ (T2 ++ []), by simp [eIx, Out.bindT, e1, e2, s T2 n2, ta, tb, h], app_in n1 (app_nil n2)⟩
theorem q_ixp (a : EJ fa S (.pk r []) S1 L1) (b : EJ fb S1 eb S2 L2) (ta : S2.get r = some t) (tb : TR eb S2 u) (h : gIx t u = some (.inr k)) : EJ (eIx fa fb) S (.pk r [k]) S2 (L1 ++ L2) := by
 obtain ⟨T1, e1, n1⟩ := a
 obtain ⟨T2, e2, n2⟩ := b
 have ta := tr_pk ta
 unfold TR at ta tb
 have s : EV.stable T2 (.pk r []) = true := rfl
 exact ⟨T1 ++ (T2 ++ []), by simp [eIx, Out.bindT, e1, e2, s, ta, tb, h], app_in n1 (app_nil n2)⟩
theorem q_fzs (a : EJ fa S (.sv t) S1 L) (h : t.frz = some d) : EJ (eFz fa) S (.sv (.fz d)) S1 L := by
 obtain ⟨T1, e1, n1⟩ := a
 exact ⟨T1 ++ [], by simp [eFz, Out.bindT, e1, h], app_nil n1⟩
theorem q_fzp (a : EJ fa S (.pk r []) S1 L) (hg : S1.get r = some t) (h : t.frz = some d) : EJ (eFz fa) S (.sv (.fz d)) (S1.put r (.fz d)) (L ++ [r]) := by
 obtain ⟨T1, e1, n1⟩ := a
 exact ⟨T1 ++ [r], by simp [eFz, Out.bindT, e1, hg, sub_nil, set_nil, h], app_in n1 fun _ h => h⟩
theorem q_mvs (a : EJ fa S (.sv t) S1 L) : EJ (eMv fa) S (.sv t) S1 L := by
 obtain ⟨T1, e1, n1⟩ := a
 exact ⟨T1 ++ [], by simp [eMv, Out.bindT, e1], app_nil n1⟩
theorem q_mvp (a : EJ fa S (.pk (.s i) []) S1 L) (h : S1.get (.s i) = some t) : EJ (eMv fa) S (.sv t) (S1.kill i) (L ++ [.s i]) := by
 obtain ⟨T1, e1, n1⟩ := a
 exact ⟨T1 ++ [.s i], by simp [eMv, Out.bindT, e1, h], app_in n1 fun _ h => h⟩
theorem frz_fz : (SV.fz d).frz = some d := by unfold SV.frz; rfl
theorem frz_F {c : α → PyData} (x : α) : (sF c x).frz = some (c x) := frz_fz
theorem frz_L {en : α → SV} {c : α → PyData} (h : ∀ x, (en x).frz = some (c x)) (xs : List α) : (sL en xs).frz = some (dL c xs) := by
 have : ∀ xs : List α, frzL (xs.map en) = some (xs.map c) := fun xs => by
  induction xs with
  | nil => unfold frzL; rfl
  | cons x xs ih =>
   rw [List.map_cons, List.map_cons]
   unfold frzL
   rw [h x, ih]
 unfold sL SV.frz
 rw [this]
 rfl
theorem pb_nil {A : List SV} : PB S [] A S := by unfold PB putBack; cases A <;> rfl
theorem pb_sv {A : List SV} (h : PB S es A S') : PB S (.sv t :: es) (y :: A) S' := by
 unfold PB at *
 unfold putBack
 exact h
theorem pb_pk {A : List SV} (hg : S.get r = some t) (h : PB (S.put r y) es A S') : PB S (.pk r [] :: es) (y :: A) S' := by
 unfold PB at *
 unfold putBack
 rw [hg]
 dsimp only
 rw [set_nil]
 exact h
theorem q_fn {m : List SV → FOut} {A : List SV} (a : AJ fr S es S1 L) (ht : TRs es S1 ts) (nd : (rootsOf es).Nodup) (h : m ts = .ret t A) (pb : PB S1 es A S2) : EJ (eFn m fr) S (.sv t) S2 (L ++ rootsOf es) := by
 obtain ⟨T1, e1, n1⟩ := a
 unfold TRs at ht
 unfold PB at pb
 exact ⟨T1 ++ rootsOf es, by simp [eFn, Out.bindT, e1, ht, nd, h, pb], app_in n1 fun _ h => h⟩
theorem q_tup {ds : List PyData} (a : AJ fr S es S1 L) (h : fzEs es = some ds) (hl : ds.length ≤ 1000) : EJ (eTup fr) S (.sv (.fz (.tuple ds))) S1 L := by
 obtain ⟨T1, e1, n1⟩ := a
 have hl' : ds.length ≤ sizeLine := by rw [sizeLine_eq]; omega
 exact ⟨T1 ++ [], by simp [eTup, Out.bindT, e1, h, hl'], app_nil n1⟩
theorem q_lst (a : AJ fr S es S1 L) (h : svEs es = some ts) (hl : ts.length ≤ 1000) : EJ (eLst fr) S (.sv (.lst ts)) S1 L := by
 obtain ⟨T1, e1, n1⟩ := a
 have hl' : ts.length ≤ sizeLine := by rw [sizeLine_eq]; omega
 exact ⟨T1 ++ [], by simp [eLst, Out.bindT, e1, h, hl'], app_nil n1⟩
theorem q_isi {T n : Y.Ty} {b : Bool} (a : EJ fa S ea S1 L) (ta : TR ea S1 t) (h : t.ty = some n) (hb : n.isa T = b) : EJ (eIsi T fa) S (.sv (.fz (.bool b))) S1 L := by
 obtain ⟨T1, e1, n1⟩ := a
 unfold TR at ta
 subst hb
 exact ⟨T1 ++ [], by simp [eIsi, Out.bindT, e1, ta, h], app_nil n1⟩
theorem q_viewf (h : EJ (eVar i) S (.sv t) S L) (a : EJ fa S ea S1 L1) : EJ (eView i fa) S ea S1 L1 := by
 obtain ⟨T, e, _⟩ := h
 unfold EJ eView
 rw [e]
 exact a
def rangeI (lo : Int) (n : Nat) : List Int := (List.range n).map fun (i : Nat) => lo + (i : Int)
theorem rangeL_eq {lo : Int} {n : Nat} : rangeL lo n = (rangeI lo n).map .int := by unfold rangeL rangeI; rw [List.map_map]; rfl
def rngL (lo hi : Int) : R (List Int) := if rgB lo hi = true then .ok (rangeI lo (hi - lo).toNat) else .fail
def rngR (lo hi : Int) : R (List Int) := if rgOk lo hi = true then .ok (rangeI lo (hi - lo).toNat) else .fail
theorem q_iR1 {j : Int} (a : EJ fa S (.sv (.fz (.int j))) S1 L) : RJ (iR1 fa) S 0 j S1 L := by
 obtain ⟨T1, e1, n1⟩ := a
 exact ⟨T1 ++ [], by simp [iR1, Out.bindT, e1], app_nil n1⟩
theorem rngL_ok {i j : Int} {xs : List Int} (h : rngL i j = .ok xs) : rgB i j = true ∧ rangeL i (j - i).toNat = xs.map .int := by
 unfold rngL at h
 by_cases q : rgB i j = true
 ·rw [if_pos q] at h; cases h; exact ⟨q, rangeL_eq⟩
 ·rw [if_neg q] at h; cases h
theorem rngR_ok {i j : Int} {xs : List Int} (h : rngR i j = .ok xs) : rgOk i j = true ∧ rangeL i (j - i).toNat = xs.map .int := by
 unfold rngR at h
 by_cases q : rgOk i j = true
 ·rw [if_pos q] at h; cases h; exact ⟨q, rangeL_eq⟩
 ·rw [if_neg q] at h; cases h
theorem fzs_map {c : α → PyData} {xs : List α} : fzs (xs.map c) = xs.map (sF c) := by unfold fzs; rw [List.map_map]; rfl
theorem q_lr {fr : DS → Out (Int × Int)} {i j : Int} {xs : List Int} (a : RJ fr S i j S1 L) (h : rngL i j = .ok xs) : EJ (eLR fr) S (.sv (sL (sF .int) xs)) S1 L := by
 obtain ⟨T1, e1, n1⟩ := a
 obtain ⟨h1, h2⟩ := rngL_ok h
 refine ⟨T1 ++ [], ?_, app_nil n1⟩
 unfold eLR Out.bindT
 rw [e1]
 dsimp only
 rw [if_pos h1, h2, fzs_map]
 rfl
theorem q_ir1 {j : Int} {xs : List Int} (a : AJ fr S [.sv (.fz (.int j))] S1 L) (h : rngR 0 j = .ok xs) : IJ (iRng1 fr) S (xs.map .int) S1 L := by
 obtain ⟨T1, e1, n1⟩ := a
 obtain ⟨h1, h2⟩ := rngR_ok h
 refine ⟨T1 ++ [], ?_, app_nil n1⟩
 unfold iRng1 Out.bindT
 rw [e1]
 dsimp only
 rw [if_pos h1, ← h2, Int.sub_zero]
theorem q_isL {c : α → PyData} {xs : List α} (a : EJ (eFz fa) S (.sv (.fz (dL c xs))) S1 L) : IJ (iSeq fa) S (xs.map c) S1 L := by
 obtain ⟨T1, e1, n1⟩ := a
 refine ⟨T1 ++ [], ?_, app_nil n1⟩
 unfold iSeq
 rw [e1]
 rfl
theorem q_isT {c : α → PyData} {xs : List α} (a : EJ (eFz fa) S (.sv (.fz (dT c xs))) S1 L) : IJ (iSeq fa) S (xs.map c) S1 L := by
 obtain ⟨T1, e1, n1⟩ := a
 refine ⟨T1 ++ [], ?_, app_nil n1⟩
 unfold iSeq
 rw [e1]
 rfl
theorem q_pno : OJ pNo S none S [] := ⟨[], rfl, nil_in⟩
theorem q_pat {j : Int} (a : EJ fa S (.sv (.fz (.int j))) S1 L) : OJ (pAt fa) S (some j) S1 L := by
 obtain ⟨T1, e1, n1⟩ := a
 exact ⟨T1 ++ [], by simp [pAt, Out.bindT, e1], app_nil n1⟩
theorem q_sl {fl fh : DS → Out (Option Int)} {lo hi : Option Int} (a : EJ fa S ea S1 L1) (b : OJ fl S1 lo S2 L2) (c : OJ fh S2 hi S3 L3) (s : STB ea (L2 ++ L3)) (ta : TR ea S3 t) (h : gSl t lo hi = some z) : EJ (eSl fa fl fh) S (.sv z) S3 (L1 ++ (L2 ++ L3)) := by
 obtain ⟨T1, e1, n1⟩ := a
 obtain ⟨T2, e2, n2⟩ := b
 obtain ⟨T3, e3, n3⟩ := c
 unfold TR at ta
 exact ⟨T1 ++ (T2 ++ (T3 ++ [])), by simp [eSl, Out.bindT, e1, e2, e3, s _ (app_in n2 n3), ta, h], app_in n1 (app_in n2 (app_nil n3))⟩
theorem isL_pk {xs : List SV} (h : S.get r = some (.lst xs)) : EV.isL S (.pk r []) = true := by
 have := tr_pk h
 unfold TR at this
 unfold EV.isL
 rw [this]
theorem q_app {en : α → SV} {xs : List α} {x : α} {ys : List SV} (o : EJ fo S (.pk r []) S1 L1) (h1 : S1.get r = some (.lst ys)) (a : EJ fa S1 (.sv (en x)) S2 L2) (h2 : S2.get r = some (sL en xs)) (hl : xs.length < sizeLine) : EJ (eApp fo fa) S (.sv (.fz .none)) (S2.put r (sL en (xs ++ [x]))) (L1 ++ (L2 ++ [r])) := by
 obtain ⟨T1, e1, n1⟩ := o
 obtain ⟨T2, e2, n2⟩ := a
 have q1 := isL_pk h1
 refine ⟨T1 ++ (T2 ++ [r]), ?_, app_in n1 (app_in n2 fun _ h => h)⟩
 unfold sL at h2
 have s : EV.stable T2 (.pk r []) = true := rfl
 unfold eApp Out.bindT
 rw [e1]
 dsimp only
 rw [if_pos q1, e2]
 dsimp only
 rw [if_pos s, h2]
 dsimp only
 rw [sub_nil]
 dsimp only
 rw [if_pos (by rw [List.length_map]; exact hl), set_nil]
 unfold sL
 rw [List.map_append]
 rfl
theorem q_app1 {en : α → SV} {xss : List (List α)} {xs : List α} {x : α} {e0 : α → SV} {ys : List (List α)} {ys0 : List α} (o : EJ fo S (.pk r [k]) S1 L1) (h1 : S1.get r = some (sL (sL e0) ys)) (h1' : ys[k]? = some ys0) (a : EJ fa S1 (.sv (en x)) S2 L2) (s : STB (.pk r [k]) L2) (h2 : S2.get r = some (sL (sL en) xss)) (h2' : xss[k]? = some xs) (hl : xs.length < sizeLine) : EJ (eApp fo fa) S (.sv (.fz .none)) (S2.put r (sL (sL en) (xss.set k (xs ++ [x])))) (L1 ++ (L2 ++ [r])) := by
 obtain ⟨T1, e1, n1⟩ := o
 obtain ⟨T2, e2, n2⟩ := a
 have q1 : EV.isL S1 (.pk r [k]) = true := by
  have := tr_pk1 h1 h1'
  unfold TR at this
  unfold EV.isL
  rw [this]
  rfl
 refine ⟨T1 ++ (T2 ++ [r]), ?_, app_in n1 (app_in n2 fun _ h => h)⟩
 have h3 : (sL (sL en) xss).sub [k] = some (sL en xs) := sub_one (map_at h2')
 have h4 : (sL (sL en) xss).setAt [k] (sL en (xs ++ [x])) = sL (sL en) (xss.set k (xs ++ [x])) := by
  unfold sL
  rw [set_one (map_at h2'), List.map_set]
 have h5 : sL en (xs ++ [x]) = .lst (xs.map en ++ [en x]) := by unfold sL; rw [List.map_append]; rfl
 unfold eApp Out.bindT
 rw [e1]
 dsimp only
 rw [if_pos q1, e2]
 dsimp only
 rw [if_pos (s T2 n2), h2]
 dsimp only
 rw [h3]
 unfold sL at h5 h4 ⊢
 dsimp only
 rw [if_pos (by rw [List.length_map]; exact hl), ← h5, h4]
theorem q_mut {g : SV → List SV → Option (SV × SV)} {ys : List SV} {u' : SV} (o : EJ fo S (.pk r []) S1 L1) (h1 : S1.get r = some (.lst ys)) (a : AJ fr S1 es S2 L2) (ht : TRs es S2 ts) (h2 : S2.get r = some u) (h : g u ts = some (z, u')) : EJ (eMut g fo fr) S (.sv z) (S2.put r u') (L1 ++ (L2 ++ [r])) := by
 obtain ⟨T1, e1, n1⟩ := o
 obtain ⟨T2, e2, n2⟩ := a
 unfold TRs at ht
 have q1 := isL_pk h1
 refine ⟨T1 ++ (T2 ++ [r]), ?_, app_in n1 (app_in n2 fun _ h => h)⟩
 have s : EV.stable T2 (.pk r []) = true := rfl
 unfold eMut Out.bindT
 rw [e1]
 dsimp only
 rw [if_pos q1, e2]
 dsimp only
 rw [if_pos s, h2, ht]
 dsimp only
 rw [sub_nil]
 dsimp only
 rw [h]
 dsimp only
 rw [set_nil]
theorem q_st {u' : SV} (o : EJ fo S (.pk r []) S1 L1) (b : EJ fi S1 eb S2 L2) (tb : TR eb S2 w) (h2 : S2.get r = some u) (h : gSetIx u w t = some u') : gSt fo fi t S = .nx (S2.put r u') := by
 obtain ⟨T1, e1, n1⟩ := o
 obtain ⟨T2, e2, n2⟩ := b
 unfold TR at tb
 have s : EV.stable T2 (.pk r []) = true := rfl
 unfold gSt oSt Out.bindT sBind
 rw [e1]
 dsimp only
 rw [e2]
 dsimp only
 rw [if_pos s, h2, tb]
 dsimp only
 rw [sub_nil]
 dsimp only
 rw [h]
 dsimp only
 rw [set_nil]
theorem q_st1 {en : α → SV} {xss : List (List α)} {xs xs' : List α} (o : EJ fo S (.pk r [k]) S1 L1) (b : EJ fi S1 eb S2 L2) (tb : TR eb S2 w) (s : STB (.pk r [k]) L2) (h2 : S2.get r = some (sL (sL en) xss)) (h2' : xss[k]? = some xs) (h : gSetIx (sL en xs) w t = some (sL en xs')) : gSt fo fi t S = .nx (S2.put r (sL (sL en) (xss.set k xs'))) := by
 obtain ⟨T1, e1, n1⟩ := o
 obtain ⟨T2, e2, n2⟩ := b
 unfold TR at tb
 have h3 : (sL (sL en) xss).sub [k] = some (sL en xs) := sub_one (map_at h2')
 have h4 : (sL (sL en) xss).setAt [k] (sL en xs') = sL (sL en) (xss.set k xs') := by
  unfold sL
  rw [set_one (map_at h2'), List.map_set]
 unfold gSt oSt Out.bindT sBind
 rw [e1]
 dsimp only
 rw [e2]
 dsimp only
 rw [if_pos (s T2 n2), h2, tb]
 dsimp only
 rw [h3]
 dsimp only
 rw [h]
 dsimp only
 rw [h4]
theorem q_asg {hs : SV → DS → SOut} (a : EJ fa S (.sv t) S1 L) (h : hs t S1 = .nx S2) : sAsg fa hs S = .nx S2 := by
 obtain ⟨T1, e1, n1⟩ := a
 unfold sAsg sBind
 rw [e1]
 dsimp only
 rw [h]
theorem q_expr (a : EJ fa S e S1 L) : sExpr fa S = .nx S1 := by
 obtain ⟨T1, e1, n1⟩ := a
 unfold sExpr sBind
 rw [e1]
theorem q_ret (a : EJ fa S (.sv t) S1 L) : sRet fa S = .rt t S1.ar := by
 obtain ⟨T1, e1, n1⟩ := a
 unfold sRet sBind
 rw [e1]
section
variable {P : SOut → Prop} {f g : DS → SOut}
theorem sim_seq (e : f S = .nx S1) (k : Sim (g S1) P) : Sim (sSeq f g S) P := by
 refine ⟨?_⟩
 unfold sSeq
 rw [e]
 exact k.out
theorem sim_rt {A : List SV} (e : f S = .rt t A) (k : P (.rt t A)) : Sim (sSeq f g S) P := by
 refine ⟨?_⟩
 unfold sSeq
 rw [e]
 exact k
theorem sim_if {tt : DS → Out Bool} {b : Bool} (h : TJ tt S b S1 L) (h1 : b = true → Sim (f S1) P) (h0 : b = false → Sim (g S1) P) : Sim (sIf tt f g S) P := by
 obtain ⟨T, e, _⟩ := h
 refine ⟨?_⟩
 unfold sIf sBind
 rw [e]
 cases b with
 | true => exact (h1 rfl).out
 | false => exact (h0 rfl).out
theorem sim_last (e : f S = .nx S1) (k : P (.nx S1)) : Sim (f S) P := by
 refine ⟨?_⟩
 rw [e]
 exact k
theorem sim_ret {A : List SV} (e : f S = .rt t A) (k : P (.rt t A)) : Sim (f S) P := by
 refine ⟨?_⟩
 rw [e]
 exact k
def MidP (g : DS → SOut) (P : SOut → Prop) (o : SOut) : Prop := match o with
 | .nx S1 => Sim (g S1) P
 | o => P o
theorem sim_mid (h : Sim (f S) (MidP g P)) : Sim (sSeq f g S) P := by
 have h := h.out
 refine ⟨?_⟩
 unfold MidP at h
 unfold sSeq
 cases e : f S <;> rw [e] at h <;> first | exact h.out | exact h
theorem mid_nx (k : Sim (g S1) P) : MidP g P (.nx S1) := k
theorem mid_rt {A : List SV} (k : P (.rt t A)) : MidP g P (.rt t A) := k
def JnP (St : σ → DS → Prop) (s : σ) (o : SOut) : Prop := ∃ S', o = .nx S' ∧ St s S'
theorem sim_join {St : σ → DS → Prop} {s : σ} (k : Sim (f S) (JnP St s)) (k2 : ∀ S', St s S' → Sim (g S') P) : Sim (sSeq f g S) P := by
 obtain ⟨S', e, q⟩ := k.out
 exact sim_seq e (k2 S' q)
end
def FinP (t : SV) (A : List SV) (o : SOut) : Prop := o = .rt t A ∨ (t = .fz .none ∧ ∃ S', o = .nx S' ∧ S'.ar = A)
theorem runFn_fin {n np : Nat} {fb : DS → SOut} {ts : List SV} {t : SV} {A : List SV} (h : ts.length = np ∧ np ≤ n) (e : Sim (fb (initDS n ts)) (FinP t A)) : runFn n np fb ts = .ret t A := by
 unfold runFn
 rw [if_pos h]
 rcases e.out with e | ⟨e1, S', e2, e3⟩
 ·rw [e]
 ·rw [e2, e1, ← e3]
def CtlP (St : σ → DS → Prop) (Rt : ρ → SV → List SV → Prop) (c : Ctl ρ σ) (o : SOut) : Prop := match c with
 | .nx s => ∃ S', (o = .nx S' ∨ o = .ct S') ∧ St s S'
 | .rt r => ∃ t A, o = .rt t A ∧ Rt r t A
 | .bk s => ∃ S', o = .bk S' ∧ St s S'
def LoopP (St : σ → DS → Prop) (Rt : ρ → SV → List SV → Prop) (c : Ctl ρ σ) (o : SOut) : Prop := match c with
 | .nx s => ∃ S', o = .nx S' ∧ St s S'
 | .rt r => ∃ t A, o = .rt t A ∧ Rt r t A
 | .bk s => ∃ S', o = .nx S' ∧ St s S'
def NxP (St : σ → DS → Prop) (s : σ) (o : SOut) : Prop := ∃ S', (o = .nx S' ∨ o = .ct S') ∧ St s S'
theorem for_c {St : σ → DS → Prop} {Rt : ρ → SV → List SV → Prop} {h : SV → DS → SOut} {f : DS → SOut} {en : α → PyData} {body : σ → α → R (Ctl ρ σ)}
  (step : ∀ s x c S, St s S → body s x = .ok c → ∃ S1, h (.fz (en x)) S = .nx S1 ∧ Sim (f S1) (CtlP St Rt c)) : ∀ (xs : List α) (s : σ) (c : Ctl ρ σ) (S : DS), St s S → forC body xs s = .ok c → LoopP St Rt c (sFor h f (xs.map en) S)
 | [], s, c, S, hS, e => by
  cases e
  exact ⟨S, rfl, hS⟩
 | x :: xs, s, c, S, hS, e => by
  obtain ⟨c1, e1, e2⟩ := R.bind_ok e
  obtain ⟨S1, q1, ⟨q2⟩⟩ := step s x c1 S hS e1
  rw [List.map_cons]
  unfold sFor
  rw [q1]
  dsimp only
  cases c1 with
  | nx s' =>
   obtain ⟨S', q | q, q3⟩ := q2 <;> rw [q] <;> exact for_c step xs s' c S' q3 e2
  | rt r =>
   cases e2
   obtain ⟨t, A, q, q3⟩ := q2
   rw [q]
   exact ⟨t, A, rfl, q3⟩
  | bk s' =>
   cases e2
   obtain ⟨S', q, q3⟩ := q2
   rw [q]
   exact ⟨S', rfl, q3⟩
theorem for_r {St : σ → DS → Prop} {h : SV → DS → SOut} {f : DS → SOut} {en : α → PyData} {body : σ → α → R σ}
  (step : ∀ s x s' S, St s S → body s x = .ok s' → ∃ S1, h (.fz (en x)) S = .nx S1 ∧ Sim (f S1) (NxP St s')) : ∀ (xs : List α) (s s' : σ) (S : DS), St s S → forR body xs s = .ok s' → ∃ S', sFor h f (xs.map en) S = .nx S' ∧ St s' S'
 | [], s, c, S, hS, e => by
  cases e
  exact ⟨S, rfl, hS⟩
 | x :: xs, s, c, S, hS, e => by
  obtain ⟨c1, e1, e2⟩ := R.bind_ok e
  obtain ⟨S1, q1, ⟨q2⟩⟩ := step s x c1 S hS e1
  rw [List.map_cons]
  unfold sFor
  rw [q1]
  dsimp only
  obtain ⟨S', q | q, q3⟩ := q2 <;> rw [q] <;> exact for_r step xs c1 c S' q3 e2
theorem loop_cases {St : σ → DS → Prop} {Rt : ρ → SV → List SV → Prop} {c : Ctl ρ σ} {o : SOut} (h : LoopP St Rt c o) : (∃ s S', (∀ {β : Type} (f : σ → β) (g : ρ → β), c.elim f g = f s) ∧ o = .nx S' ∧ St s S') ∨ (∃ r t A, (∀ {β : Type} (f : σ → β) (g : ρ → β), c.elim f g = g r) ∧ o = .rt t A ∧ Rt r t A) := by
 cases c with
 | nx s => obtain ⟨S', e, q⟩ := h; exact .inl ⟨s, S', fun _ _ => rfl, e, q⟩
 | rt r => obtain ⟨t, A, e, q⟩ := h; exact .inr ⟨r, t, A, fun _ _ => rfl, e, q⟩
 | bk s => obtain ⟨S', e, q⟩ := h; exact .inl ⟨s, S', fun _ _ => rfl, e, q⟩
theorem forI {fi : DS → Out (List PyData)} {h : SV → DS → SOut} {f : DS → SOut} {ds : List PyData} (i : IJ fi S ds S1 L) : sForI fi h f S = sFor h f ds S1 := by
 obtain ⟨T, e, _⟩ := i
 unfold sForI sBind
 rw [e]
theorem while_r {St : σ → DS → Prop} {t : DS → Out Bool} {f : DS → SOut} {cond : σ → R Bool} {body : σ → R σ}
  (test : ∀ s b S, St s S → cond s = .ok b → ∃ S1 L, TJ t S b S1 L ∧ St s S1) (step : ∀ s s' S, St s S → body s = .ok s' → Sim (f S) (NxP St s')) : ∀ (n : Nat) (s s' : σ) (S : DS), St s S → whileR cond body n s = .ok s' → ∃ S', sWhile t f n S = .nx S' ∧ St s' S'
 | 0, s, s', S, hS, e => by cases e
 | n + 1, s, s', S, hS, e => by
  obtain ⟨b, e1, e2⟩ := R.bind_ok e
  obtain ⟨S1, _, ⟨T, q1, _⟩, q2⟩ := test s b S hS e1
  unfold sWhile sBind
  rw [q1]
  dsimp only
  cases b with
  | true =>
   rw [if_pos rfl] at e2 ⊢
   obtain ⟨s1, e3, e4⟩ := R.bind_ok e2
   obtain ⟨S', q | q, q3⟩ := (step s s1 S1 q2 e3).out <;> rw [q] <;> exact while_r test step n s1 s' S' q3 e4
  | false =>
   rw [if_neg (by simp)] at e2 ⊢
   cases e2
   exact ⟨S1, rfl, q2⟩
theorem lc_go {vs : List Nat} {h : PyData → DS → Option DS} {en : α → PyData} {eo : β → SV} {body : α → R β} {Sk : DS}
  (step : ∀ x y, body x = .ok y → ∃ Sx Sy, h (en x) Sk = some Sx ∧ EJ fe Sx (.sv (eo y)) Sy L2 ∧ Sy.kills vs = Sk) : ∀ (xs : List α) (ys : List β) (acc : List SV), mapR body xs = .ok ys → acc.length + xs.length ≤ sizeLine → ∃ T, lcGo vs h lYes fe (xs.map en) Sk acc = .ok (acc ++ ys.map eo) Sk T ∧ ∀ r ∈ T, r ∈ L2
 | [], ys, acc, e, hl => by cases e; exact ⟨[], by simp [lcGo], nil_in⟩
 | x :: xs, ys, acc, e, hl => by
  obtain ⟨y, e1, e2⟩ := R.bind_ok e
  obtain ⟨ys', e3, e4⟩ := R.bind_ok e2
  cases e4
  obtain ⟨Sx, Sy, q1, ⟨T, q2, q3⟩, q4⟩ := step x y e1
  rw [List.length_cons] at hl
  obtain ⟨T', q5, q6⟩ := lc_go step xs ys' (acc ++ [eo y]) e3 (by rw [List.length_append, List.length_singleton]; omega)
  refine ⟨[] ++ (T ++ T'), ?_, fun r hr => ?_⟩
  ·rw [List.map_cons]
   unfold lcGo
   rw [q1]
   simp only [lYes, Out.bindT, if_true, q2]
   rw [if_pos (by omega), q4, q5]
   simp
  ·rcases List.mem_append.mp (by simpa using hr) with z | z
   ·exact q3 r z
   ·exact q6 r z
theorem lcF_go {vs : List Nat} {h : PyData → DS → Option DS} {tt : DS → Out Bool} {en : α → PyData} {eo : β → SV} {body : α → R (Option β)} {Sk : DS}
  (step : ∀ x y, body x = .ok y → ∃ Sx Sz b, h (en x) Sk = some Sx ∧ TJ tt Sx b Sz L1 ∧ match y with
   | some y => b = true ∧ ∃ Sy, EJ fe Sz (.sv (eo y)) Sy L2 ∧ Sy.kills vs = Sk
   | none => b = false ∧ Sz.kills vs = Sk) : ∀ (xs : List α) (ys : List β) (acc : List SV), fmapR body xs = .ok ys → acc.length + xs.length ≤ sizeLine → ∃ T, lcGo vs h tt fe (xs.map en) Sk acc = .ok (acc ++ ys.map eo) Sk T ∧ ∀ r ∈ T, r ∈ L1 ++ L2
 | [], ys, acc, e, hl => by cases e; exact ⟨[], by simp [lcGo], nil_in⟩
 | x :: xs, ys, acc, e, hl => by
  obtain ⟨y, e1, e2⟩ := R.bind_ok e
  obtain ⟨ys', e3, e4⟩ := R.bind_ok e2
  obtain ⟨Sx, Sz, b, q1, ⟨T1, q5, q7⟩, q6⟩ := step x y e1
  rw [List.length_cons] at hl
  cases y with
  | some y =>
   cases e4
   obtain ⟨rfl, Sy, ⟨T, q2, q3⟩, q4⟩ := q6
   obtain ⟨T', q8, q9⟩ := lcF_go step xs ys' (acc ++ [eo y]) e3 (by rw [List.length_append, List.length_singleton]; omega)
   refine ⟨T1 ++ (T ++ T'), ?_, fun r hr => ?_⟩
   ·rw [List.map_cons]
    unfold lcGo
    rw [q1]
    simp only [Out.bindT, q5, if_true, q2]
    rw [if_pos (by omega), q4, q8]
    simp
   ·rcases List.mem_append.mp hr with z | z
    ·exact List.mem_append.mpr (.inl (q7 r z))
    ·rcases List.mem_append.mp z with z | z
     ·exact List.mem_append.mpr (.inr (q3 r z))
     ·exact q9 r z
  | none =>
   cases e4
   obtain ⟨rfl, q4⟩ := q6
   obtain ⟨T', q8, q9⟩ := lcF_go step xs ys' acc e3 (by omega)
   refine ⟨T1 ++ T', ?_, fun r hr => ?_⟩
   ·rw [List.map_cons]
    unfold lcGo
    rw [q1]
    simp only [Out.bindT, q5]
    rw [if_neg (by simp), q4, q8]
   ·rcases List.mem_append.mp hr with z | z
    ·exact List.mem_append.mpr (.inl (q7 r z))
    ·exact q9 r z
theorem TJ.nil {tt : DS → Out Bool} {b : Bool} (h : TJ tt S b S1 L) (k : ∀ r ∈ L, r ∈ ([] : List Rt)) : tt S = .ok b S1 [] := by
 obtain ⟨T, e, n⟩ := h
 have : T = [] := List.eq_nil_iff_forall_not_mem.mpr fun r hr => by cases k r (n r hr)
 rw [e, this]
theorem lcS_go {vs : List Nat} {h : PyData → DS → Option DS} {en : α → PyData} {eo : β → SV} {body : σ → α → R (σ × β)} {St : σ → DS → Prop}
  (step : ∀ s x r S, St s S → body s x = .ok r → ∃ Sx Sy, h (en x) S = some Sx ∧ EJ fe Sx (.sv (eo r.2)) Sy L ∧ St r.1 (Sy.kills vs)) : ∀ (xs : List α) (s : σ) (q : σ × List β) (acc : List SV) (S : DS), St s S → smapR body xs s = .ok q → acc.length + xs.length ≤ sizeLine → ∃ S' T, lcGo vs h lYes fe (xs.map en) S acc = .ok (acc ++ q.2.map eo) S' T ∧ St q.1 S' ∧ ∀ r ∈ T, r ∈ L
 | [], s, q, acc, S, hS, e, hl => by cases e; exact ⟨S, [], by simp [lcGo], hS, nil_in⟩
 | x :: xs, s, q, acc, S, hS, e, hl => by
  obtain ⟨y, e1, e2⟩ := R.bind_ok e
  obtain ⟨ys', e3, e4⟩ := R.bind_ok e2
  cases e4
  obtain ⟨Sx, Sy, q1, ⟨T, q2, q3⟩, q4⟩ := step s x y S hS e1
  rw [List.length_cons] at hl
  obtain ⟨S', T', q5, q6, q7⟩ := lcS_go step xs y.1 ys' (acc ++ [eo y.2]) _ q4 e3 (by rw [List.length_append, List.length_singleton]; omega)
  refine ⟨S', [] ++ (T ++ T'), ?_, q6, fun r hr => ?_⟩
  ·rw [List.map_cons]
   unfold lcGo
   rw [q1]
   simp only [lYes, Out.bindT, if_true, q2]
   rw [if_pos (by omega), q5]
   simp
  ·rcases List.mem_append.mp (by simpa using hr) with z | z
   ·exact q3 r z
   ·exact q7 r z
theorem lcR_ok {xs : List α} {body : α → R β} {ys : List β} (h : lcR xs body = .ok ys) : xs.length ≤ sizeLine ∧ mapR body xs = .ok ys := by
 unfold lcR at h
 by_cases q : xs.length ≤ sizeLine
 ·rw [if_pos q] at h; exact ⟨q, h⟩
 ·rw [if_neg q] at h; cases h
theorem lcF_ok {xs : List α} {body : α → R (Option β)} {ys : List β} (h : lcF xs body = .ok ys) : xs.length ≤ sizeLine ∧ fmapR body xs = .ok ys := by
 unfold lcF at h
 by_cases q : xs.length ≤ sizeLine
 ·rw [if_pos q] at h; exact ⟨q, h⟩
 ·rw [if_neg q] at h; cases h
theorem lcS_ok {xs : List α} {s : σ} {body : σ → α → R (σ × β)} {q : σ × List β} (h : lcS xs s body = .ok q) : xs.length ≤ sizeLine ∧ smapR body xs s = .ok q := by
 unfold lcS at h
 by_cases z : xs.length ≤ sizeLine
 ·rw [if_pos z] at h; exact ⟨z, h⟩
 ·rw [if_neg z] at h; cases h
theorem q_lc {vs : List Nat} {fi : DS → Out (List PyData)} {h : PyData → DS → Option DS} {en : α → PyData} {eo : β → SV} {body : α → R β} {xs : List α} {ys : List β} {Sk : DS} (i : IJ fi S (xs.map en) S1 L) (hr : lcR xs body = .ok ys) (hk : S1.kills vs = Sk)
  (step : ∀ x y, body x = .ok y → ∃ Sx Sy, h (en x) Sk = some Sx ∧ EJ fe Sx (.sv (eo y)) Sy L2 ∧ Sy.kills vs = Sk) (hq : Sk.rest S1 vs = S2) : EJ (eLc vs fi h lYes fe) S (.sv (sL eo ys)) S2 (L ++ L2) := by
 obtain ⟨T, e, n⟩ := i
 obtain ⟨h1, h2⟩ := lcR_ok hr
 obtain ⟨T', q1, q2⟩ := lc_go step xs ys [] h2 (by simpa using h1)
 refine ⟨T ++ T'.filter fun r => !ownR vs r, ?_, app_in n fun r hr => q2 r (List.mem_filter.mp hr).1⟩
 unfold eLc Out.bindT
 rw [e]
 dsimp only
 rw [hk, q1]
 dsimp only
 rw [hq]
 rfl
theorem q_lcF {vs : List Nat} {fi : DS → Out (List PyData)} {h : PyData → DS → Option DS} {tt : DS → Out Bool} {en : α → PyData} {eo : β → SV} {body : α → R (Option β)} {xs : List α} {ys : List β} {Sk : DS} (i : IJ fi S (xs.map en) S1 L) (hr : lcF xs body = .ok ys) (hk : S1.kills vs = Sk)
  (step : ∀ x y, body x = .ok y → ∃ Sx Sz b, h (en x) Sk = some Sx ∧ TJ tt Sx b Sz L1 ∧ match y with
   | some y => b = true ∧ ∃ Sy, EJ fe Sz (.sv (eo y)) Sy L2 ∧ Sy.kills vs = Sk
   | none => b = false ∧ Sz.kills vs = Sk) (hq : Sk.rest S1 vs = S2) : EJ (eLc vs fi h tt fe) S (.sv (sL eo ys)) S2 (L ++ (L1 ++ L2)) := by
 obtain ⟨T, e, n⟩ := i
 obtain ⟨h1, h2⟩ := lcF_ok hr
 obtain ⟨T', q1, q2⟩ := lcF_go step xs ys [] h2 (by simpa using h1)
 refine ⟨T ++ T'.filter fun r => !ownR vs r, ?_, app_in n fun r hr => q2 r (List.mem_filter.mp hr).1⟩
 unfold eLc Out.bindT
 rw [e]
 dsimp only
 rw [hk, q1]
 dsimp only
 rw [hq]
 rfl
theorem q_lcS {vs : List Nat} {fi : DS → Out (List PyData)} {h : PyData → DS → Option DS} {en : α → PyData} {eo : β → SV} {body : σ → α → R (σ × β)} {xs : List α} {q : σ × List β} {s : σ} {St : σ → DS → Prop} (i : IJ fi S (xs.map en) S1 L) (hr : lcS xs s body = .ok q) (hk : St s (S1.kills vs))
  (step : ∀ s x r S, St s S → body s x = .ok r → ∃ Sx Sy, h (en x) S = some Sx ∧ EJ fe Sx (.sv (eo r.2)) Sy L2 ∧ St r.1 (Sy.kills vs)) (hq : ∀ S', St q.1 S' → S'.rest S1 vs = S2) : EJ (eLc vs fi h lYes fe) S (.sv (sL eo q.2)) S2 (L ++ L2) := by
 obtain ⟨T, e, n⟩ := i
 obtain ⟨h1, h2⟩ := lcS_ok hr
 obtain ⟨S', T', q1, q2, q3⟩ := lcS_go step xs s q [] _ hk h2 (by simpa using h1)
 refine ⟨T ++ T'.filter fun r => !ownR vs r, ?_, app_in n fun r hr => q3 r (List.mem_filter.mp hr).1⟩
 unfold eLc Out.bindT
 rw [e]
 dsimp only
 rw [q1]
 dsimp only
 rw [hq S' q2]
 rfl
end
end U
set_option maxRecDepth 100000
set_option maxHeartbeats 4000000
namespace U
open PySem PySem.Spec Y
open L2 (atI ixN)
open PySem.W (dataLe)
section
variable {α β γ : Type} {c : α → PyData} {en : α → SV} {xs ys : List α} {x y : α} {i j : Int} {t u z : SV}
def ixk (n : Nat) (i : Int) : Nat := (ixN n i).getD 0
def ixR (xs : List α) (i : Int) : R α := match ixN xs.length i with
 | some k => (match xs[k]? with
  | some x => .ok x
  | none => .fail)
 | none => .fail
theorem ixR_ok (h : ixR xs i = .ok x) : ixN xs.length i = some (ixk xs.length i) ∧ xs[ixk xs.length i]? = some x := by
 unfold ixR at h
 unfold ixk
 cases e : ixN xs.length i with
 | none => rw [e] at h; cases h
 | some k =>
  rw [e] at h
  refine ⟨rfl, ?_⟩
  dsimp only at h
  show xs[k]? = some x
  cases e2 : xs[k]? with
  | none => rw [e2] at h; cases h
  | some w => rw [e2] at h; cases h; rfl
theorem ixR_at (h : ixR xs i = .ok x) : xs[ixk xs.length i]? = some x := (ixR_ok h).2
theorem atI_map (h : ixR xs i = .ok x) : atI (xs.map c) i = some (c x) := by
 obtain ⟨h1, h2⟩ := ixR_ok h
 unfold atI
 rw [List.length_map, h1]
 exact map_at h2
theorem gIx_T (h : ixR xs i = .ok x) : gIx (.fz (dT c xs)) (.fz (.int i)) = some (.inl (.fz (c x))) := by
 show (match atI (xs.map c) i with | some d => some (Sum.inl (SV.fz d)) | none => none) = _
 rw [atI_map h]
theorem gIx_RL (hs : ∀ x, isScal (c x) = true) (h : ixR xs i = .ok x) : gIx (.ro (dL c xs)) (.fz (.int i)) = some (.inl (.fz (c x))) := by
 show (match atI (xs.map c) i with | some d => if isScal d = true then some (Sum.inl (SV.fz d)) else none | none => none) = _
 rw [atI_map h]
 dsimp only
 rw [if_pos (hs x)]
theorem gIx_F (h : ixR xs i = .ok x) : gIx (sL (sF c) xs) (.fz (.int i)) = some (.inl (.fz (c x))) := by
 obtain ⟨h1, h2⟩ := ixR_ok h
 unfold sL gIx
 dsimp only
 rw [List.length_map, h1]
 dsimp only
 rw [map_at h2]
 rfl
theorem gIx_P {e : β → SV} {xs : List (List β)} {x : List β} (h : ixR xs i = .ok x) : gIx (sL (sL e) xs) (.fz (.int i)) = some (.inr (ixk xs.length i)) := by
 obtain ⟨h1, h2⟩ := ixR_ok h
 unfold sL gIx
 dsimp only
 rw [List.length_map, h1]
 dsimp only
 rw [map_at h2]
def mulR (i j : Int) : R Int := if cMul i j = true then .ok (i * j) else .fail
def fdivR (i j : Int) : R Int := if cDiv i j = true then .ok (i / j) else .fail
def modR (i j : Int) : R Int := if cMod i j = true then .ok (i % j) else .fail
def powR (i j : Int) : R Int := if cPow i j = true then .ok (i ^ j.toNat) else .fail
theorem gInt_ok {C : Int → Int → Bool} {f : Int → Int → Int} {v : Int} (h : (if C i j = true then R.ok (f i j) else .fail) = .ok v) : gInt C f (.fz (.int i)) (.fz (.int j)) = some (.fz (.int v)) := by
 show (if C i j = true then some (SV.fz (.int (f i j))) else none) = _
 by_cases q : C i j = true
 ·rw [if_pos q] at h ⊢; cases h; rfl
 ·rw [if_neg q] at h; cases h
theorem gMul_i {v : Int} (h : mulR i j = .ok v) : gMul (.fz (.int i)) (.fz (.int j)) = some (.fz (.int v)) := by
 unfold mulR at h
 show (if cMul i j = true then some (SV.fz (.int (i * j))) else none) = _
 by_cases q : cMul i j = true
 ·rw [if_pos q] at h ⊢; cases h; rfl
 ·rw [if_neg q] at h; cases h
theorem gFDiv_i {v : Int} (h : fdivR i j = .ok v) : gFDiv (.fz (.int i)) (.fz (.int j)) = some (.fz (.int v)) := gInt_ok h
theorem gMod_i {v : Int} (h : modR i j = .ok v) : gMod (.fz (.int i)) (.fz (.int j)) = some (.fz (.int v)) := gInt_ok h
theorem gPow_i {v : Int} (h : powR i j = .ok v) : gPow (.fz (.int i)) (.fz (.int j)) = some (.fz (.int v)) := gInt_ok h
theorem gAdd_i : gAdd (.fz (.int i)) (.fz (.int j)) = some (.fz (.int (i + j))) := rfl
theorem gSub_i : gSub (.fz (.int i)) (.fz (.int j)) = some (.fz (.int (i - j))) := rfl
theorem gAbs_i : gAbs [.fz (.int i)] = some (.fz (.int (if i < 0 then -i else i))) := rfl
theorem gLt_i : gLt (.fz (.int i)) (.fz (.int j)) = some (.fz (.bool (decide (i < j)))) := rfl
theorem gGt_i : gGt (.fz (.int i)) (.fz (.int j)) = some (.fz (.bool (decide (j < i)))) := rfl
theorem gLe_i : gLe (.fz (.int i)) (.fz (.int j)) = some (.fz (.bool (decide (i ≤ j)))) := rfl
theorem gMin_2 : gMin [.fz (.int i), .fz (.int j)] = some (.fz (.int (iMin i j))) := rfl
theorem gMax_2 : gMax [.fz (.int i), .fz (.int j)] = some (.fz (.int (iMax i j))) := rfl
theorem allFz_map : ∀ xs : List α, allFz (xs.map (sF c)) = some (xs.map c)
 | [] => rfl
 | x :: xs => by
  show (match allFz (xs.map (sF c)) with | some ds => some (c x :: ds) | none => none) = _
  rw [allFz_map xs]
  rfl
def SQL (t : SV) (c : α → PyData) (xs : List α) : Prop := t.seqL = some (xs.map c)
def SQS (t : SV) (c : α → PyData) (xs : List α) : Prop := t.seqS = some (xs.map c)
def LIS (t : SV) (c : α → PyData) (xs : List α) : Prop := t.lis = some (xs.map c)
theorem sql_F : SQL (sL (sF c) xs) c xs := allFz_map xs
theorem sql_L : SQL (.fz (dL c xs)) c xs := rfl
theorem sqs_T : SQS (.fz (dT c xs)) c xs := rfl
theorem lis_F : LIS (sL (sF c) xs) c xs := allFz_map xs
theorem len_sL : (sL en xs).len = some xs.length := by show some (xs.map en).length = _; rw [List.length_map]
theorem len_T : (SV.fz (dT c xs)).len = some xs.length := by show some (xs.map c).length = _; rw [List.length_map]
theorem len_RL : (SV.ro (dL c xs)).len = some xs.length := by show some (xs.map c).length = _; rw [List.length_map]
theorem gLen_l {n : Nat} (h : t.len = some n) : gLen [t] = some (.fz (.int n)) := by unfold gLen; dsimp only; rw [h]
theorem boolsOf_map : ∀ xs : List Bool, boolsOf (xs.map .bool) = some xs
 | [] => rfl
 | x :: xs => by
  show (match boolsOf (xs.map .bool) with | some ns => some (x :: ns) | none => none) = _
  rw [boolsOf_map xs]
theorem gAll_l {xs : List Bool} (h : SQL t .bool xs) : gAll [t] = some (.fz (.bool (xs.all id))) := by
 unfold SQL at h
 unfold gAll gBs
 dsimp only
 rw [h]
 dsimp only
 rw [boolsOf_map]
def sortBy (c : α → PyData) (xs : List α) : List α := xs.mergeSort fun a b => dataLe false id (c a) (c b)
def sortR (c : α → PyData) (xs : List α) : R (List α) := if sortOk (xs.map c) = true then .ok (sortBy c xs) else .fail
theorem sortD_map : sortD (xs.map c) = (sortBy c xs).map c := by
 unfold sortD sortBy
 exact (List.map_mergeSort (f := c) (r := fun a b => dataLe false id (c a) (c b)) (s := dataLe false id) fun _ _ _ _ => rfl).symm
theorem gSort_l (hs : SQS t c xs) (h : sortR c xs = .ok ys) : gSortF [t] = some (sL (sF c) ys) := by
 unfold SQS at hs
 unfold sortR at h
 unfold gSortF
 dsimp only
 rw [hs]
 dsimp only
 by_cases q : sortOk (xs.map c) = true
 ·rw [if_pos q] at h ⊢; cases h; rw [sortD_map, fzs_map]; rfl
 ·rw [if_neg q] at h; cases h
theorem gList_l (hs : SQS t c xs) : gListF [t] = some (sL (sF c) xs) := by
 unfold SQS at hs
 unfold gListF
 dsimp only
 rw [hs]
 dsimp only
 rw [fzs_map]
 rfl
theorem gTup_l (hs : SQL t c xs) : gTupF [t] = some (.fz (dT c xs)) := by
 unfold SQL at hs
 unfold gTupF
 dsimp only
 rw [hs]
 rfl
def catR (xs ys : List α) : R (List α) := if xs.length + ys.length ≤ sizeLine then .ok (xs ++ ys) else .fail
theorem catR_ok {zs : List α} (h : catR xs ys = .ok zs) : (xs.map c).length + (ys.map c).length ≤ sizeLine ∧ zs = xs ++ ys := by
 unfold catR at h
 rw [List.length_map, List.length_map]
 by_cases q : xs.length + ys.length ≤ sizeLine
 ·rw [if_pos q] at h; cases h; exact ⟨q, rfl⟩
 ·rw [if_neg q] at h; cases h
theorem gAdd_t {zs : List α} (h : catR xs ys = .ok zs) : gAdd (.fz (dT c xs)) (.fz (dT c ys)) = some (.fz (dT c zs)) := by
 obtain ⟨h1, rfl⟩ := catR_ok (c := c) h
 show (if (xs.map c).length + (ys.map c).length ≤ sizeLine then some (SV.fz (.tuple (xs.map c ++ ys.map c))) else none) = _
 rw [if_pos h1, ← List.map_append]
 rfl
def repR (xs : List α) (k : Int) : R (List α) := if 0 ≤ k ∧ k < 2 ^ 63 ∧ xs.length * k.toNat ≤ sizeLine then .ok (List.replicate k.toNat xs).flatten else .fail
theorem gMul_l {k : Int} {zs : List α} (ht : LIS t c xs) (h : repR xs k = .ok zs) : gMul t (.fz (.int k)) = some (sL (sF c) zs) := by
 unfold LIS at ht
 have e : gMul t (.fz (.int k)) = if 0 ≤ k ∧ k < 2 ^ 63 ∧ (xs.map c).length * k.toNat ≤ sizeLine then some (SV.lst (fzs (List.replicate k.toNat (xs.map c)).flatten)) else none := by
  have e0 : gMul t (.fz (.int k)) = match t.lis with
   | some ds => if 0 ≤ k ∧ k < 2 ^ 63 ∧ ds.length * k.toNat ≤ sizeLine then some (.lst (fzs (List.replicate k.toNat ds).flatten)) else none
   | none => none := by
   cases t with
   | fz d => cases d <;> first | rfl | cases ht
   | ro d => rfl
   | lst xs => rfl
   | dic b kvs => rfl
   | fd b kvs => rfl
   | tb _ _ => rfl
   | gone => rfl
   | nd _ => rfl
   | ob _ _ _ => rfl
   | nq _ => rfl
   | ne _ => rfl
  rw [e0, ht]
 unfold repR at h
 rw [e, List.length_map]
 by_cases q : 0 ≤ k ∧ k < 2 ^ 63 ∧ xs.length * k.toNat ≤ sizeLine
 ·rw [if_pos q] at h ⊢
  cases h
  rw [← List.map_replicate, ← List.map_flatten, fzs_map]
  rfl
 ·rw [if_neg q] at h; cases h
theorem cutL_map {f : α → β} {lo hi : Option Int} : cutL (xs.map f) lo hi = (cutL xs lo hi).map f := by
 unfold cutL
 rw [List.length_map, List.map_take, List.map_drop]
theorem gSl_t {lo hi : Option Int} : gSl (.fz (dT c xs)) lo hi = some (.fz (dT c (cutL xs lo hi))) := by
 show some (SV.fz (.tuple (cutL (xs.map c) lo hi))) = _
 rw [cutL_map]
 rfl
def appR (xs : List α) (x : α) : R (List α) := if xs.length < sizeLine then .ok (xs ++ [x]) else .fail
theorem appR_ok (h : appR xs x = .ok ys) : xs.length < sizeLine ∧ ys = xs ++ [x] := by
 unfold appR at h
 by_cases q : xs.length < sizeLine
 ·rw [if_pos q] at h; cases h; exact ⟨q, rfl⟩
 ·rw [if_neg q] at h; cases h
def popR (xs : List α) (i : Int) : R (α × List α) := if -(2 ^ 63) ≤ i ∧ i < 2 ^ 63 then match seqIndex? i xs.length with
  | some k => (match xs[k]? with
   | some x => .ok (x, xs.eraseIdx k)
   | none => .fail)
  | none => .fail
  else .fail
theorem map_erase {f : α → β} : ∀ (l : List α) (k : Nat), (l.map f).eraseIdx k = (l.eraseIdx k).map f
 | [], k => by simp
 | a :: r, 0 => by simp
 | a :: r, k + 1 => by simp [map_erase r k]
theorem gPopAt_ok {r : α × List α} (h : popR xs i = .ok r) : gPopAt (sL en xs) [.fz (.int i)] = some (en r.1, sL en r.2) := by
 unfold popR at h
 unfold sL gPopAt
 dsimp only
 by_cases q : -(2 ^ 63) ≤ i ∧ i < 2 ^ 63
 ·rw [if_pos q] at h ⊢
  rw [List.length_map]
  cases e : seqIndex? i xs.length with
  | none => rw [e] at h; cases h
  | some k =>
   rw [e] at h
   dsimp only at h ⊢
   cases e2 : xs[k]? with
   | none => rw [e2] at h; cases h
   | some x =>
    rw [e2] at h
    cases h
    rw [map_at e2]
    dsimp only
    rw [map_erase]
 ·rw [if_neg q] at h; cases h
def setR (xs : List α) (i : Int) (x : α) : R (List α) := match ixN xs.length i with
 | some k => .ok (xs.set k x)
 | none => .fail
theorem gSetIx_ok (h : setR xs i x = .ok ys) : gSetIx (sL en xs) (.fz (.int i)) (en x) = some (sL en ys) := by
 unfold setR at h
 show (match ixN (xs.map en).length i with | some k => some (SV.lst ((xs.map en).set k (en x))) | none => none) = _
 rw [List.length_map]
 cases e : ixN xs.length i with
 | none => rw [e] at h; cases h
 | some k =>
  rw [e] at h
  cases h
  dsimp only
  rw [← List.map_set]
  rfl
def VW (t : SV) (d : PyData) : Prop := t.view = some d
theorem vw_fz {d : PyData} : VW (.fz d) d := by unfold VW SV.view; exact frz_fz
theorem vw_ro {d : PyData} : VW (.ro d) d := rfl
theorem vw_L {e : β → SV} {cc : β → PyData} {xs : List β} (h : ∀ x, (e x).frz = some (cc x)) : VW (sL e xs) (dL cc xs) := by
 unfold VW
 show (sL e xs).frz = _
 exact frz_L h xs
structure Fai (c : α → PyData) [DecidableEq α] : Prop where
 eqv : ∀ x y, PyData.eqv (c x) (c y) = decide (x = y)
structure Sha (c : α → PyData) (n : Nat) : Prop where
 lay : ∀ x, (c x).canLay0 = true
 dep : ∀ x, (c x).depth ≤ n
theorem sha_ok {n : Nat} (h : Sha c n) (hn : n ≤ 64) (x : α) : SeqAt.shaped (c x) = true := by
 unfold SeqAt.shaped
 have := h.dep x
 rw [h.lay x, decide_eq_true (by omega)]
 rfl
theorem fai_i : Fai PyData.int := ⟨fun x y => by simp [PyData.eqv]; rfl⟩
theorem fai_b : Fai PyData.bool := ⟨fun x y => by simp [PyData.eqv]; cases x <;> cases y <;> rfl⟩
theorem eqvAll_map [DecidableEq α] (h : Fai c) : ∀ xs ys : List α, PyData.eqvAll (xs.map c) (ys.map c) = decide (xs = ys)
 | [], [] => by simp [PyData.eqvAll]
 | [], y :: ys => by simp [PyData.eqvAll]
 | x :: xs, [] => by simp [PyData.eqvAll]
 | x :: xs, y :: ys => by
  rw [List.map_cons, List.map_cons]
  simp only [PyData.eqvAll]
  rw [h.eqv, eqvAll_map h xs ys]
  by_cases h1 : x = y <;> by_cases h2 : xs = ys <;> simp [h1, h2]
theorem fai_L [DecidableEq α] (h : Fai c) : Fai (dL c) := ⟨fun x y => by simp only [dL, PyData.eqv]; exact eqvAll_map h x y⟩
theorem sha_i : Sha PyData.int 0 := ⟨fun x => by simp [PyData.canLay0], fun x => by simp [PyData.depth]⟩
theorem sha_b : Sha PyData.bool 0 := ⟨fun x => by simp [PyData.canLay0], fun x => by simp [PyData.depth]⟩
theorem sha_all {n : Nat} (h : Sha c n) : ∀ xs : List α, PyData.canLayAll0 (xs.map c) = true ∧ PyData.depthAll (xs.map c) ≤ n
 | [] => by simp [PyData.canLayAll0, PyData.depthAll]
 | x :: xs => by
  obtain ⟨h1, h2⟩ := sha_all h xs
  have h3 := h.dep x
  rw [List.map_cons]
  simp only [PyData.canLayAll0, PyData.depthAll, h.lay, h1, Bool.and_self, true_and]
  omega
theorem sha_L {n : Nat} (h : Sha c n) : Sha (dL c) (n + 1) := ⟨fun x => by simp only [dL, PyData.canLay0]; exact (sha_all h x).1, fun x => by simp only [dL, PyData.depth]; have := (sha_all h x).2; omega⟩
theorem sha_T {n : Nat} (h : Sha c n) : Sha (dT c) (n + 1) := ⟨fun x => by simp only [dT, PyData.canLay0]; exact (sha_all h x).1, fun x => by simp only [dT, PyData.depth]; have := (sha_all h x).2; omega⟩
theorem gEq_v [DecidableEq α] (f : Fai c) (ht : VW t (c x)) (hu : VW u (c y)) (h1 : SeqAt.shaped (c x) = true) (h2 : SeqAt.shaped (c y) = true) : gEq t u = some (.fz (.bool (decide (x = y)))) := by
 unfold VW at ht hu
 unfold gEq
 rw [ht, hu]
 dsimp only
 rw [if_pos ⟨h1, h2⟩, f.eqv]
theorem gNe_v [DecidableEq α] (f : Fai c) (ht : VW t (c x)) (hu : VW u (c y)) (h1 : SeqAt.shaped (c x) = true) (h2 : SeqAt.shaped (c y) = true) : gNe t u = some (.fz (.bool (!decide (x = y)))) := by
 unfold VW at ht hu
 unfold gNe
 rw [ht, hu]
 dsimp only
 rw [if_pos ⟨h1, h2⟩, f.eqv]
def memB [DecidableEq α] (x : α) (xs : List α) : Bool := decide (x ∈ xs)
theorem inSeq_map [DecidableEq α] (f : Fai c) : inSeq (c x) (xs.map c) = decide (x ∈ xs) := by
 unfold inSeq
 induction xs with
 | nil => simp
 | cons y ys ih =>
  rw [List.map_cons, List.any_cons, ih, f.eqv]
  by_cases h : y = x
  ·simp [h]
  ·have : x ≠ y := fun z => h z.symm
   simp [h, this]
theorem gInB_view {d e : PyData} {es : List PyData} (ht : t.view = some d) (hu : u.view = some e) (he : e = .list es ∨ e = .tuple es) (h1 : SeqAt.shaped d = true) (h2 : SeqAt.shaped e = true) : gInB t u = some (inSeq d es) := by
 have key : (match t.view, u.view with
  | some d, some (.list es) => if SeqAt.shaped d = true ∧ SeqAt.shaped (.list es) = true then some (inSeq d es) else none
  | some d, some (.tuple es) => if SeqAt.shaped d = true ∧ SeqAt.shaped (.tuple es) = true then some (inSeq d es) else none
  | _, _ => none) = some (inSeq d es) := by
  rw [ht, hu]
  rcases he with rfl | rfl
  ·dsimp only; rw [if_pos ⟨h1, h2⟩]
  ·dsimp only; rw [if_pos ⟨h1, h2⟩]
 unfold gInB
 split
 ·rename_i x y
  exfalso
  have : e = .str y := by
   exact Option.some.inj (hu.symm.trans frz_fz)
  subst this
  rcases he with h | h <;> cases h
 ·exfalso
  unfold SV.view SV.frz at hu
  cases hu
 ·exfalso
  unfold SV.view SV.frz at hu
  cases hu
 ·exact key
theorem gNotIn_v [DecidableEq α] (f : Fai c) (ht : VW t (c x)) (hu : VW u (dL c xs) ∨ VW u (dT c xs)) (h1 : SeqAt.shaped (c x) = true) (h2 : SeqAt.shaped (dL c xs) = true) : gNotIn t u = some (.fz (.bool (!memB x xs))) := by
 unfold gNotIn
 have h3 : SeqAt.shaped (dT c xs) = true := h2
 rcases hu with hu | hu
 ·rw [gInB_view ht hu (.inl rfl) h1 h2, inSeq_map f]; rfl
 ·rw [gInB_view ht hu (.inr rfl) h1 h3, inSeq_map f]; rfl
end
end U
set_option maxRecDepth 100000
set_option maxHeartbeats 4000000
namespace U
open PySem PySem.Spec Y
open L2 (atI ixN)
section
variable {S S1 S2 S3 S' : DS} {L L1 L2 L3 : List Rt} {e ea eb ec : EV} {es : List EV} {t u z w y : SV} {ts : List SV} {d : PyData} {fa fb fc fo fi fe : DS → Out EV} {fr : DS → Out (List EV)} {i j k : Nat} {r : Rt} {α β σ ρ : Type}
theorem q_chainp {g g' : SV → SV → Option SV} {b b2 : Bool} (a : EJ fa S ea S1 L1) (q : EJ fb S1 eb S2 L2) (s : STB ea L2) (ta : TR ea S2 t) (tb : TR eb S2 u) (h : g t u = some (.fz (.bool b)))
  (c : EJ fc S2 ec S2 L3) (s3 : STB eb L3) (tc : TR ec S2 w) (h3 : g' u w = some (.fz (.bool b2))) : EJ (eChain g g' fa fb fc) S (.sv (.fz (.bool (b && b2)))) S2 (L1 ++ (L2 ++ L3)) := by
 obtain ⟨T1, e1, n1⟩ := a
 obtain ⟨T2, e2, n2⟩ := q
 obtain ⟨T3, e3, n3⟩ := c
 unfold TR at ta tb tc
 cases b with
 | true =>
  refine ⟨T1 ++ (T2 ++ (T3 ++ [])), ?_, app_in n1 (app_in n2 (app_nil n3))⟩
  simp [eChain, Out.bindT, e1, e2, s T2 n2, ta, tb, h, e3, s3 T3 n3, tc, h3]
 | false =>
  refine ⟨T1 ++ (T2 ++ []), ?_, app_in n1 (app_in n2 nil_in)⟩
  simp [eChain, Out.bindT, e1, e2, s T2 n2, ta, tb, h]
theorem tj_cast {tt : DS → Out Bool} {b b2 : Bool} (hb : b = b2) (h : TJ tt S b S1 L) : TJ tt S b2 S1 L := hb ▸ h
theorem q_fnr {m : List SV → FOut} {A : List SV} {R : List Rt} (a : AJ fr S es S1 L) (ht : TRs es S1 ts) (hr : rootsOf es = R) (nd : R.Nodup) (h : m ts = .ret t A) (pb : PB S1 es A S2) : EJ (eFn m fr) S (.sv t) S2 (L ++ R) := by
 subst hr
 exact q_fn a ht nd h pb
theorem q_lstE {en : α → SV} {xs : List α} (a : AJ fr S es S1 L) (h : svEs es = some (xs.map en)) (hl : (xs.map en).length ≤ 1000) : EJ (eLst fr) S (.sv (sL en xs)) S1 L := q_lst a h hl
theorem q_tupE {ds : List PyData} (a : AJ fr S es S1 L) (h : fzEs es = some ds) (hl : ds.length ≤ 1000) (hd : PyData.tuple ds = d) : EJ (eTup fr) S (.sv (.fz d)) S1 L := by
 subst hd
 exact q_tup a h hl
theorem q_appR {en : α → SV} {xs zs : List α} {x : α} {ys : List SV} (o : EJ fo S (.pk r []) S1 L1) (h1 : S1.get r = some (.lst ys)) (a : EJ fa S1 (.sv (en x)) S2 L2) (h2 : S2.get r = some (sL en xs)) (h : appR xs x = .ok zs) : EJ (eApp fo fa) S (.sv (.fz .none)) (S2.put r (sL en zs)) (L1 ++ (L2 ++ [r])) := by
 obtain ⟨hl, rfl⟩ := appR_ok h
 exact q_app o h1 a h2 hl
theorem q_appR1 {en : α → SV} {xss : List (List α)} {xs zs : List α} {x : α} {e0 : α → SV} {ys : List (List α)} {ys0 : List α} (o : EJ fo S (.pk r [k]) S1 L1) (h1 : S1.get r = some (sL (sL e0) ys)) (h1' : ys[k]? = some ys0) (a : EJ fa S1 (.sv (en x)) S2 L2) (s : STB (.pk r [k]) L2) (h2 : S2.get r = some (sL (sL en) xss)) (h2' : xss[k]? = some xs) (h : appR xs x = .ok zs) : EJ (eApp fo fa) S (.sv (.fz .none)) (S2.put r (sL (sL en) (xss.set k zs))) (L1 ++ (L2 ++ [r])) := by
 obtain ⟨hl, rfl⟩ := appR_ok h
 exact q_app1 o h1 h1' a s h2 h2' hl
theorem q_gtup2 {f g : SV → DS → SOut} {c : α → PyData} {e : β → PyData} {x : α × β} (h1 : f (.fz (c x.1)) S = .nx S1) (h2 : g (.fz (e x.2)) S1 = .nx S2) : gTupL [f, g] (.fz (dP c e x)) S = .nx S2 := by
 show (if 2 = 2 then gMany [f, g] [c x.1, e x.2] S else .fail) = _
 rw [if_pos rfl]
 unfold gMany
 rw [h1]
 dsimp only
 unfold gMany
 rw [h2]
 rfl
theorem zipD_map {c : α → PyData} {e : β → PyData} {xs : List α} {ys : List β} : zipD (xs.map c) (ys.map e) = (xs.zip ys).map (dP c e) := by
 unfold zipD
 rw [List.zip_map, List.map_map]
 rfl
theorem q_zipT {c : α → PyData} {e : β → PyData} {xs : List α} {ys : List β} (a : AJ fr S [.sv (.fz (dT c xs)), .sv (.fz (dT e ys))] S1 L) : IJ (iZip fr) S ((xs.zip ys).map (dP c e)) S1 L := by
 obtain ⟨T1, e1, n1⟩ := a
 refine ⟨T1 ++ [], ?_, app_nil n1⟩
 unfold iZip Out.bindT
 rw [e1, ← zipD_map]
 rfl
end
end U
set_option maxRecDepth 100000
set_option maxHeartbeats 4000000
namespace U
open PySem PySem.Spec Y
open L2 (atI ixN)
section
variable {S S1 S2 S3 S' : DS} {L L1 L2 L3 : List Rt} {e ea eb ec : EV} {es : List EV} {t u z w y : SV} {ts : List SV} {d : PyData} {fa fb fc fo fi fe : DS → Out EV} {fr : DS → Out (List EV)} {i j k : Nat} {r : Rt} {κ ν : Type}
def lookM [DecidableEq κ] (x : κ) : List (κ × ν) → Option ν
 | [] => none
 | (k, v) :: r => if k = x then some v else lookM x r
def putM [DecidableEq κ] (x : κ) (v : ν) : List (κ × ν) → List (κ × ν)
 | [] => [(x, v)]
 | (k, w) :: r => if k = x then (k, v) :: r else (k, w) :: putM x v r
def getM [DecidableEq κ] (kvs : List (κ × ν)) (x : κ) : R ν := match lookM x kvs with
 | some v => .ok v
 | none => .fail
def setM [DecidableEq κ] (kvs : List (κ × ν)) (x : κ) (v : ν) : R (List (κ × ν)) := if kvs.length < sizeLine ∧ (kvs.map (·.1)).Nodup then .ok (putM x v kvs) else .fail
section
variable [DecidableEq κ] {b : Bool} {kk : κ → DKey} {c : κ → PyData} {en : ν → SV} {cv : ν → PyData} {kvs kvs' : List (κ × ν)} {x : κ} {v : ν}
end
end
end U
namespace U
open PySem PySem.Spec Y
end U
namespace U
open PySem PySem.Spec Y
end U
set_option maxRecDepth 100000
set_option maxHeartbeats 4000000
namespace U
open PySem PySem.Spec Y
open L2 (atI ixN)
section
variable {S S1 S2 : DS} {L L1 : List Rt} {fa : DS → Out EV} {fr : DS → Out (List EV)} {r : Rt} {κ ν : Type} {b : Bool} {kk : κ → DKey} {c : κ → PyData} {cv : ν → PyData} {en : ν → SV} {kvs : List (κ × ν)} {x : κ} {v : ν}
section
variable [DecidableEq κ]
end
end
section
variable {α : Type} {c : α → PyData} {xs ys : List α} {x : α} {t u : SV}
theorem gNotX_b {a b : Bool} : gNotX (.fz (.bool a)) (.fz (.bool b)) = some (.fz (.bool (!decide (a = b)))) := rfl
theorem countP_map [DecidableEq α] (f : Fai c) (x : α) (xs : List α) : ((xs.map c).countP fun z => PyData.eqv z (c x)) = xs.count x := by
 rw [List.countP_map, List.count]
 refine List.countP_congr fun y _ => ?_
 simp only [Function.comp]
 rw [f.eqv]
 simp
end
end U
namespace U
open PySem PySem.Spec Y
end U
namespace U
open PySem PySem.Spec Y
end U
namespace U
open PySem PySem.Spec Y
section
variable {S S1 : DS} {L : List Rt} {fa : DS → Out EV} {d : PyData}
end
end U
namespace U
open PySem PySem.Spec Y
section
variable {S S1 S2 : DS} {L L1 L2 : List Rt} {f g : DS → SOut} {P : SOut → Prop} {t1 t2 : DS → Out Bool} {b : Bool}
end
end U
set_option maxRecDepth 100000
set_option maxHeartbeats 4000000
namespace U
open PySem PySem.Spec Y
open L2 (atI ixN)
section
variable {α : Type} {c : α → PyData} {xs : List α} {x : α} {t u : SV}
theorem gCntT_v [DecidableEq α] (f : Fai c) (ht : VW t (dT c xs)) (hu : VW u (c x)) (h1 : SeqAt.shaped (dT c xs) = true) (h2 : SeqAt.shaped (c x) = true) : gCntT [t, u] = some (.fz (.int ((xs.count x : Nat) : Int))) := by
 have e : gCntT [t, u] = match t.view, u.view with
  | some (.tuple ds), some d => if SeqAt.shaped (.tuple ds) = true ∧ SeqAt.shaped d = true then some (.fz (.int ((ds.countP fun z => PyData.eqv z d : Nat) : Int))) else none
  | _, _ => none := rfl
 rw [e, ht, hu]
 show (if SeqAt.shaped (.tuple (xs.map c)) = true ∧ SeqAt.shaped (c x) = true then some (SV.fz (.int (((xs.map c).countP fun z => PyData.eqv z (c x) : Nat) : Int))) else none) = _
 rw [if_pos ⟨h1, h2⟩, countP_map f]
end
end U
set_option maxRecDepth 100000
set_option maxHeartbeats 4000000
namespace U
open PySem PySem.Spec Y
theorem q_metT {S S1 S2 : DS} {L1 L2 : List Rt} {g : List SV → Option SV} {fo : DS → Out EV} {fr : DS → Out (List EV)} {es : List EV} {ts : List SV} {z : SV} {ds : List PyData} (a : EJ fo S (.sv (.fz (.tuple ds))) S1 L1) (b : AJ fr S1 es S2 L2) (ht : TRs es S2 ts) (h : g (.fz (.tuple ds) :: ts) = some z) : EJ (eMetT g fo fr) S (.sv z) S2 (L1 ++ L2) := by
 obtain ⟨T1, e1, n1⟩ := a
 obtain ⟨T2, e2, n2⟩ := b
 unfold TRs at ht
 exact ⟨T1 ++ (T2 ++ []), by simp [eMetT, Out.bindT, e1, e2, ht, h], app_in n1 (app_nil n2)⟩
end U
set_option maxRecDepth 100000
set_option maxHeartbeats 4000000
namespace D
open PySem PySem.Spec L2 Y
def b_is_whole : DS → SOut := (sRet (eAnd (eIsi .int (eVar 0)) (eNot (eIsi .bool (eVar 0)))))
def m_is_whole : List SV → FOut := runFn 1 1 b_is_whole
def b_is_one_of : DS → SOut := (sRet (eAnd (eFn m_is_whole (aCons (eVar 0) aNil)) (eChain gLe gLt (eC (.int 0)) (eVar 0) (eVar 1))))
def m_is_one_of : List SV → FOut := runFn 2 2 b_is_one_of
def e1_is_row : DS → Out EV := (eFn m_is_one_of (aCons (eVar 3) (aCons (eVar 1) aNil)))
def b_is_row : DS → SOut := (sSeq (sIf (lOr (lNot (tv (eIsi .tuple (eVar 0)))) (tv (eOp2 gNe (eCallB gLen (aCons (eVar 0) aNil)) (eVar 2)))) (sRet (eC (.bool false))) sNil) (sRet (eView 0 (eCallB gAll (aCons (eLc [3] (iSeq (eVar 0)) (cName 3) lYes e1_is_row) aNil)))))
def m_is_row : List SV → FOut := runFn 4 3 b_is_row
def e1_is_net : DS → Out EV := (eFn m_is_row (aCons (eVar 1) (aCons (eCallB gLen (aCons (eVar 0) aNil)) (aCons (eCallB gLen (aCons (eIx (eVar 0) (eC (.int 0))) aNil)) aNil))))
def b_is_net : DS → SOut := (sSeq (sIf (lOr (lNot (tv (eIsi .tuple (eVar 0)))) (lNot (tv (eChain gLe gLe (eC (.int 1)) (eCallB gLen (aCons (eVar 0) aNil)) (eC (.int 9)))))) (sRet (eC (.bool false))) sNil) (sSeq (sIf (lOr (lNot (tv (eIsi .tuple (eIx (eVar 0) (eC (.int 0)))))) (tv (eOp2 gNotIn (eCallB gLen (aCons (eIx (eVar 0) (eC (.int 0))) aNil)) (eRo (.tuple [(.int 2), (.int 3)]))))) (sRet (eC (.bool false))) sNil) (sRet (eView 0 (eCallB gAll (aCons (eLc [1] (iSeq (eVar 0)) (cName 1) lYes e1_is_net) aNil))))))
def m_is_net : List SV → FOut := runFn 2 1 b_is_net
def b_look_net : DS → SOut := (sIf (lNot (tv (eFn m_is_net (aCons (eVar 0) aNil)))) (fun S => .exc "NoNet" none S) sNil)
def m_look_net : List SV → FOut := runFn 1 1 b_look_net
def b_many_ways : DS → SOut := (sRet (eCallB gLen (aCons (eIx (eVar 0) (eC (.int 0))) aNil)))
def m_many_ways : List SV → FOut := runFn 1 1 b_many_ways
def f1__law_bag : DS → SOut := (sAsg (eOp2 gMod (eOp2 gAdd (eOp2 gAdd (eOp2 gMul (eVar 3) (eC (.int 48271))) (eOp2 gMod (eIx (eVar 0) (eVar 4)) (eC (.int 2147483647)))) (eVar 4)) (eC (.int 2147483629))) (gSet 3))
def b__law_bag : DS → SOut := (sSeq (sAsg (eC (.int 0)) (gSet 2)) (sSeq (sIf (tv (eOp2 gLt (eVar 1) (eCallB gLen (aCons (eVar 0) aNil)))) (sAsg (eCallB gAbs (aCons (eIx (eVar 0) (eVar 1)) aNil)) (gSet 2)) sNil) (sSeq (sAsg (eOp2 gAdd (eOp2 gMul (eC (.int 7919)) (eVar 1)) (eC (.int 17))) (gSet 3)) (sSeq (sForI (iRng1 (aCons (eCallB gMin (aCons (eCallB gLen (aCons (eVar 0) aNil)) (aCons (eC (.int 60)) aNil))) aNil)) (gSet 4) f1__law_bag) (sSeq (sIf (tv (eOp2 gLt (eVar 2) (eOp2 gPow (eC (.int 10)) (eC (.int 18))))) (sAsg (eC (.int 0)) (gSet 2)) sNil) (sRet (eLst (aCons (eFz (eVar 2)) (aCons (eFz (eVar 3)) aNil)))))))))
def m__law_bag : List SV → FOut := runFn 5 2 b__law_bag
def t1__law_take : DS → Out Bool := (tv (eOp2 gLt (eVar 4) (eVar 1)))
def f2__law_take : DS → SOut := (sSeq (sAsg (eOp2 gMod (eOp2 gAdd (eOp2 gMul (eIx (eVar 0) (eC (.int 1))) (eC (.int 48271))) (eC (.int 7919))) (eC (.int 2147483647))) (gSt (eVar 0) (eC (.int 1)))) (sSeq (sAsg (eOp2 gAdd (eOp2 gMul (eVar 3) (eC (.int 1073741789))) (eOp2 gMod (eOp2 gMul (eOp2 gFDiv (eIx (eVar 0) (eC (.int 1))) (eC (.int 8))) (eC (.int 69621))) (eC (.int 1073741789)))) (gSet 3)) (sAsg (eOp2 gMul (eVar 4) (eC (.int 1073741789))) (gSet 4))))
def b__law_take : DS → SOut := (sSeq (sIf (tv (eOp2 gGt (eIx (eVar 0) (eC (.int 0))) (eC (.int 0)))) (sSeq (sAsg (eOp2 gMod (eIx (eVar 0) (eC (.int 0))) (eVar 1)) (gSet 2)) (sSeq (sAsg (eOp2 gFDiv (eIx (eVar 0) (eC (.int 0))) (eVar 1)) (gSt (eVar 0) (eC (.int 0)))) (sRet (eMv (eVar 2))))) sNil) (sSeq (sAsg (eC (.int 0)) (gSet 3)) (sSeq (sAsg (eC (.int 1)) (gSet 4)) (sSeq (sWhile t1__law_take f2__law_take 1000000) (sRet (eOp2 gMod (eVar 3) (eVar 1)))))))
def m__law_take : List SV → FOut := runFn 5 2 b__law_take
def f1__law_order : DS → SOut := (sExpr (eApp (eVar 3) (eMut gPopAt (eVar 2) (aCons (eFn m__law_take (aCons (eVar 0) (aCons (eCallB gLen (aCons (eVar 2) aNil)) aNil))) aNil))))
def b__law_order : DS → SOut := (sSeq (sAsg (eLR (iR1 (eVar 1))) (gSet 2)) (sSeq (sAsg (eLst aNil) (gSet 3)) (sSeq (sForI (iRng1 (aCons (eVar 1) aNil)) (gSet 4) f1__law_order) (sRet (eMv (eVar 3))))))
def m__law_order : List SV → FOut := runFn 5 2 b__law_order
def e1__law_net : DS → Out EV := (eCallB gTupF (aCons (eFz (eVar 13)) aNil))
def f2__law_net : DS → SOut := (sAsg (eOp2 gMul (eLst (aCons (eFz (eIx (eVar 6) (eVar 9))) aNil)) (eVar 3)) (gSt (eVar 7) (eIx (eVar 6) (eOp2 gSub (eVar 9) (eC (.int 1))))))
def f3__law_net : DS → SOut := (sAsg (eFz (eIx (eVar 6) (eVar 9))) (gSt (eIx (eVar 7) (eIx (eVar 6) (eOp2 gSub (eVar 9) (eC (.int 1))))) (eFn m__law_take (aCons (eVar 0) (aCons (eVar 3) aNil)))))
def f4__law_net : DS → SOut := (sExpr (eApp (eIx (eVar 7) (eIx (eVar 6) (eVar 9))) (eFz (eIx (eVar 10) (eFn m__law_take (aCons (eVar 0) (aCons (eCallB gLen (aCons (eVar 10) aNil)) aNil)))))))
def e5__law_net : DS → Out EV := (eFz (eIx (eVar 6) (eVar 11)))
def p6__law_net : DS → Out Bool := (tv (eOp2 gEq (eOp2 gMod (eVar 11) (eVar 5)) (eOp2 gMod (eOp2 gAdd (eVar 9) (eC (.int 1))) (eVar 5))))
def f7__law_net : DS → SOut := (sSeq (sAsg (eLc [11] (iRng1 (aCons (eVar 2) aNil)) (cName 11) p6__law_net e5__law_net) (gSet 10)) (sForI (iRng1 (aCons (eVar 3) aNil)) (gSet 12) f4__law_net))
def e8__law_net : DS → Out EV := (eLst aNil)
def b__law_net : DS → SOut := (sSeq (sAsg (eOp2 gAdd (eC (.int 1)) (eFn m__law_take (aCons (eVar 0) (aCons (eVar 1) aNil)))) (gSet 2)) (sSeq (sAsg (eOp2 gAdd (eC (.int 2)) (eFn m__law_take (aCons (eVar 0) (aCons (eC (.int 2)) aNil)))) (gSet 3)) (sSeq (sAsg (eFn m__law_take (aCons (eVar 0) (aCons (eC (.int 8)) aNil))) (gSet 4)) (sSeq (sAsg (eC (.int 1)) (gSet 5)) (sSeq (sIf (tv (eOp2 gEq (eVar 4) (eC (.int 6)))) (sSeq (sAsg (eCallB gMin (aCons (eOp2 gAdd (eC (.int 2)) (eFn m__law_take (aCons (eVar 0) (aCons (eC (.int 4)) aNil)))) (aCons (eVar 2) aNil))) (gSet 5)) (sAsg (eOp2 gMul (eOp2 gFDiv (eVar 2) (eVar 5)) (eVar 5)) (gSet 2))) sNil) (sSeq (sAsg (eFn m__law_order (aCons (eVar 0) (aCons (eVar 2) aNil))) (gSet 6)) (sSeq (sAsg (eLc [8] (iRng1 (aCons (eVar 2) aNil)) (cName 8) lYes e8__law_net) (gSet 7)) (sSeq (sForI (iRng1 (aCons (eVar 2) aNil)) (gSet 9) f7__law_net) (sSeq (sIf (tv (eOp2 gGt (eVar 4) (eC (.int 2)))) (sForI (iRng1 (aCons (eVar 2) aNil)) (gSet 9) f3__law_net) sNil) (sSeq (sIf (tv (eOp2 gEq (eVar 4) (eC (.int 7)))) (sSeq (sForI (iRng1 (aCons (eVar 2) aNil)) (gSet 9) f2__law_net) (sAsg (eFn m__law_take (aCons (eVar 0) (aCons (eVar 2) aNil))) (gSt (eIx (eVar 7) (eC (.int 0))) (eC (.int 0))))) sNil) (sRet (eCallB gTupF (aCons (eLc [13] (iSeq (eVar 7)) (cName 13) lYes e1__law_net) aNil)))))))))))))
def m__law_net : List SV → FOut := runFn 14 2 b__law_net
def e1_have_same_roads : DS → Out EV := (eOp2 gEq (eCallB gSortF (aCons (eVar 2) aNil)) (eCallB gSortF (aCons (eVar 3) aNil)))
def b_have_same_roads : DS → SOut := (sSeq (sIf (lOr (tv (eOp2 gNe (eCallB gLen (aCons (eVar 0) aNil)) (eCallB gLen (aCons (eVar 1) aNil)))) (tv (eOp2 gNe (eFn m_many_ways (aCons (eVar 0) aNil)) (eFn m_many_ways (aCons (eVar 1) aNil))))) (sRet (eC (.bool false))) sNil) (sRet (eCallB gAll (aCons (eLc [2, 3] (iZip (aCons (eFz (eVar 0)) (aCons (eFz (eVar 1)) aNil))) (cTup [2, 3]) lYes e1_have_same_roads) aNil))))
def m_have_same_roads : List SV → FOut := runFn 4 2 b_have_same_roads
def b_same_roads : DS → SOut := (sSeq (sExpr (eFn m_look_net (aCons (eVar 0) aNil))) (sSeq (sExpr (eFn m_look_net (aCons (eVar 1) aNil))) (sRet (eFn m_have_same_roads (aCons (eVar 0) (aCons (eVar 1) aNil))))))
def m_same_roads : List SV → FOut := runFn 2 2 b_same_roads
def e1__law_turned : DS → Out EV := (eFz (eIx (eVar 3) (eVar 2)))
def e2__law_turned : DS → Out EV := (eCallB gTupF (aCons (eLc [2] (iSeq (eFn m__law_order (aCons (eVar 0) (aCons (eCallB gLen (aCons (eVar 3) aNil)) aNil)))) (cName 2) lYes e1__law_turned) aNil))
def b__law_turned : DS → SOut := (sRet (eCallB gTupF (aCons (eLc [3] (iSeq (eVar 1)) (cName 3) lYes e2__law_turned) aNil)))
def m__law_turned : List SV → FOut := runFn 4 2 b__law_turned
def e1__law_other : DS → Out EV := (eSl (eVar 7) pNo (pAt (eC (.int 2))))
def e2__law_other : DS → Out EV := (eSl (eOp2 gAdd (eVar 7) (eVar 7)) pNo (pAt (eC (.int 3))))
def b__law_other : DS → SOut := (sSeq (sAsg (eFn m__law_take (aCons (eVar 0) (aCons (eC (.int 8)) aNil))) (gSet 2)) (sSeq (sAsg (eFn m__law_take (aCons (eVar 0) (aCons (eCallB gLen (aCons (eVar 1) aNil)) aNil))) (gSet 3)) (sSeq (sAsg (eFn m__law_take (aCons (eVar 0) (aCons (eCallB gLen (aCons (eVar 1) aNil)) aNil))) (gSet 4)) (sSeq (sAsg (eFn m__law_turned (aCons (eVar 0) (aCons (eVar 1) aNil))) (gSet 5)) (sSeq (sIf (tv (eOp2 gEq (eVar 2) (eC (.int 1)))) (sRet (eOp2 gAdd (eOp2 gAdd (eSl (eVar 5) pNo (pAt (eVar 3))) (eTup (aCons (eFz (eOp2 gAdd (eTup (aCons (eFz (eVar 4)) aNil)) (eSl (eIx (eVar 5) (eVar 3)) (pAt (eC (.int 1))) pNo))) aNil))) (eSl (eVar 5) (pAt (eOp2 gAdd (eVar 3) (eC (.int 1)))) pNo))) sNil) (sSeq (sIf (tv (eOp2 gEq (eVar 2) (eC (.int 2)))) (sSeq (sAsg (eCallB gListF (aCons (eVar 5) aNil)) (gSet 6)) (sSeq (sAsg (eTup (aCons (eFz (eIx (eVar 6) (eVar 4))) (aCons (eFz (eIx (eVar 6) (eVar 3))) aNil))) (gTupL [(gSt (eVar 6) (eVar 3)), (gSt (eVar 6) (eVar 4))])) (sRet (eCallB gTupF (aCons (eFz (eVar 6)) aNil))))) sNil) (sSeq (sIf (tv (eOp2 gEq (eVar 2) (eC (.int 3)))) (sRet (eSl (eOp2 gAdd (eVar 5) (eVar 5)) pNo (pAt (eC (.int 9))))) sNil) (sSeq (sIf (tv (eOp2 gEq (eVar 2) (eC (.int 4)))) (sRet (eCallB gTupF (aCons (eLc [7] (iSeq (eVar 5)) (cName 7) lYes e2__law_other) aNil))) sNil) (sSeq (sIf (tv (eOp2 gEq (eVar 2) (eC (.int 5)))) (sRet (eCallB gTupF (aCons (eLc [7] (iSeq (eVar 5)) (cName 7) lYes e1__law_other) aNil))) sNil) (sSeq (sIf (tv (eOp2 gEq (eVar 2) (eC (.int 6)))) (sRet (eFn m__law_net (aCons (eVar 0) (aCons (eC (.int 9)) aNil)))) sNil) (sRet (eMv (eVar 5)))))))))))))
def m__law_other : List SV → FOut := runFn 8 2 b__law_other
end D
set_option maxRecDepth 100000
set_option maxHeartbeats 4000000
namespace D
open PySem PySem.Spec L2 Y
def e1__law_same_2 : DS → Out EV := (eMetT gCntT (eVar 2) (aCons (eVar 4) aNil))
def e2__law_same_2 : DS → Out EV := (eMetT gCntT (eVar 3) (aCons (eVar 4) aNil))
def f3__law_same_2 : DS → SOut := (sIf (tv (eOp2 gNe (eLc [4] (iRng1 (aCons (eCallB gLen (aCons (eVar 0) aNil)) aNil)) (cName 4) lYes e1__law_same_2) (eLc [4] (iRng1 (aCons (eCallB gLen (aCons (eVar 0) aNil)) aNil)) (cName 4) lYes e2__law_same_2))) (sRet (eC (.bool false))) sNil)
def b__law_same_2 : DS → SOut := (sSeq (sIf (lOr (tv (eOp2 gNe (eCallB gLen (aCons (eVar 0) aNil)) (eCallB gLen (aCons (eVar 1) aNil)))) (tv (eOp2 gNe (eCallB gLen (aCons (eIx (eVar 0) (eC (.int 0))) aNil)) (eCallB gLen (aCons (eIx (eVar 1) (eC (.int 0))) aNil))))) (sRet (eC (.bool false))) sNil) (sSeq (sForI (iZip (aCons (eFz (eVar 0)) (aCons (eFz (eVar 1)) aNil))) (gTupL [(gSet 2), (gSet 3)]) f3__law_same_2) (sRet (eC (.bool true)))))
def m__law_same_2 : List SV → FOut := runFn 5 2 b__law_same_2
def f1_law_86 : DS → SOut := (sSeq (sAsg (eFn m__law_other (aCons (eVar 2) (aCons (eVar 3) aNil))) (gSet 5)) (sSeq (sAsg (eFn m__law_same_2 (aCons (eVar 3) (aCons (eVar 5) aNil))) (gSet 6)) (sSeq (sAsg (eLst (aCons (eFn m_same_roads (aCons (eVar 3) (aCons (eVar 5) aNil))) (aCons (eFn m_same_roads (aCons (eVar 5) (aCons (eVar 3) aNil))) aNil))) (gSet 7)) (sIf (lOr (tv (eOp2 gNe (eVar 7) (eLst (aCons (eFz (eVar 6)) (aCons (eFz (eVar 6)) aNil))))) (lOr (lNot (tv (eIsi .bool (eIx (eVar 7) (eC (.int 0)))))) (lNot (tv (eIsi .bool (eIx (eVar 7) (eC (.int 1)))))))) (sRet (eC (.bool false))) sNil))))
def f2_law_86 : DS → SOut := (sSeq (sAsg (eFn m__law_bag (aCons (eVar 0) (aCons (eVar 1) aNil))) (gSet 2)) (sSeq (sAsg (eFn m__law_net (aCons (eVar 2) (aCons (eC (.int 9)) aNil))) (gSet 3)) (sSeq (sForI (iRng1 (aCons (eC (.int 3)) aNil)) (gSet 4) f1_law_86) (sIf (tv (eOp2 gNotX (eFn m_same_roads (aCons (eVar 3) (aCons (eVar 3) aNil))) (eC (.bool true)))) (sRet (eC (.bool false))) sNil))))
def b_law_86 : DS → SOut := (sSeq (sForI (iRng1 (aCons (eCallB gMax (aCons (eC (.int 1)) (aCons (eCallB gMin (aCons (eC (.int 6)) (aCons (eCallB gLen (aCons (eVar 0) aNil)) aNil))) aNil))) aNil)) (gSet 1) f2_law_86) (sRet (eC (.bool true))))
def m_law_86 : List SV → FOut := runFn 8 1 b_law_86
end D
set_option maxRecDepth 100000
set_option maxHeartbeats 4000000
namespace U
open PySem PySem.Spec Y D
open L2 (atI ixN)
def t__law_bag_L2 (script_ : (List Int)) (at_ : Int) (cell_2 : Int) (s : (Int)) (x : Int) : R (Int) := (mulR s (48271 : Int)).bind fun v4 => (ixR script_ x).bind fun v5 => (modR v5 (2147483647 : Int)).bind fun v6 => (modR ((v4 + v6) + x) (2147483629 : Int)).bind fun v7 => R.ok (v7)
def st__law_bag_L2 (script_ : (List Int)) (at_ : Int) (cell_2 : Int) (s : (Int)) (S : DS) : Prop := ∃ w1 : Option Sl, S = ⟨[tr ((sR (dL PyData.int)) script_), tr ((sF PyData.int) at_), tr ((sF PyData.int) cell_2), tr ((sF PyData.int) s), w1], [(sR (dL PyData.int)) script_, (sF PyData.int) at_]⟩
theorem q_t__law_bag_L2 {script_ : (List Int)} {at_ : Int} {cell_2 : Int} : ∀ (s : (Int)) (x : Int) (c : (Int)) (S : DS), st__law_bag_L2 script_ at_ cell_2 s S → t__law_bag_L2 script_ at_ cell_2 s x = .ok c → ∃ S1, (gSet 4) (.fz (PyData.int x)) S = .nx S1 ∧ Sim (f1__law_bag S1) (NxP (st__law_bag_L2 script_ at_ cell_2) c) := by
 rintro s x c _ ⟨w1, rfl⟩ h
 unfold t__law_bag_L2 at h
 refine ⟨⟨[tr ((sR (dL PyData.int)) script_), tr ((sF PyData.int) at_), tr ((sF PyData.int) cell_2), tr ((sF PyData.int) s), tr ((sF PyData.int) x)], [(sR (dL PyData.int)) script_, (sF PyData.int) at_]⟩, rfl, ?_⟩
 unfold f1__law_bag
 obtain ⟨v4, h4, h⟩ := R.bind_ok h
 obtain ⟨v5, h5, h⟩ := R.bind_ok h
 obtain ⟨v6, h6, h⟩ := R.bind_ok h
 obtain ⟨v7, h7, h⟩ := R.bind_ok h
 refine sim_last (S1 := ⟨[tr ((sR (dL PyData.int)) script_), tr ((sF PyData.int) at_), tr ((sF PyData.int) cell_2), tr ((sF PyData.int) v7), tr ((sF PyData.int) x)], [(sR (dL PyData.int)) script_, (sF PyData.int) at_]⟩) (q_asg (q_op2 (q_op2 (q_op2 (q_op2 (q_vf (d := PyData.int s) rfl) q_c st_sv tr_sv tr_sv (gMul_i h4)) (q_op2 (q_ix (q_vr (d := (dL PyData.int) script_) rfl) (q_vf (d := PyData.int x) rfl) st_sv tr_sv tr_sv (gIx_RL (fun _ => rfl) h5)) q_c st_sv tr_sv tr_sv (gMod_i h6)) st_sv tr_sv tr_sv gAdd_i) (q_vf (d := PyData.int x) rfl) st_sv tr_sv tr_sv gAdd_i) q_c st_sv tr_sv tr_sv (gMod_i h7)) rfl) ?_
 obtain rfl := R.inj h
 exact ⟨_, .inl rfl, ⟨_, rfl⟩⟩
def t__law_bag (script_ : (List Int)) (at_ : Int) : R ((List Int)) := (if (decide (at_ < (script_.length : Int))) = true then ((ixR script_ at_).bind fun v1 => R.ok ((if v1 < 0 then -v1 else v1))) else (R.ok ((0 : Int)))).bind fun (s1 : (Int)) => (mulR (7919 : Int) at_).bind fun v2 => (rngR 0 (iMin (script_.length : Int) (60 : Int))).bind fun v3 => (forR (t__law_bag_L2 script_ at_ s1) v3 (v2 + (17 : Int))).bind fun r8 => (powR (10 : Int) (18 : Int)).bind fun v9 => (if (decide (s1 < v9)) = true then (R.ok ((0 : Int))) else (R.ok (s1))).bind fun (s3 : (Int)) => R.ok ([s3, r8] : (List Int))
theorem q_t__law_bag {script_ : (List Int)} {at_ : Int} {out : ((List Int))} (h : t__law_bag script_ at_ = .ok out) : m__law_bag [(sR (dL PyData.int)) script_, (sF PyData.int) at_] = .ret ((sL (sF PyData.int)) out) [(sR (dL PyData.int)) script_, (sF PyData.int) at_] := by
 unfold t__law_bag at h
 refine runFn_fin ⟨rfl, by decide⟩ ?_
 show Sim (b__law_bag ⟨[tr ((sR (dL PyData.int)) script_), tr ((sF PyData.int) at_), none, none, none], [(sR (dL PyData.int)) script_, (sF PyData.int) at_]⟩) _
 unfold b__law_bag
 refine sim_seq (S1 := ⟨[tr ((sR (dL PyData.int)) script_), tr ((sF PyData.int) at_), tr ((sF PyData.int) (0 : Int)), none, none], [(sR (dL PyData.int)) script_, (sF PyData.int) at_]⟩) (q_asg q_c rfl) ?_
 obtain ⟨s1, hj, h⟩ := R.bind_ok h
 refine sim_join (St := (fun (sj : (Int)) S => S = ⟨[tr ((sR (dL PyData.int)) script_), tr ((sF PyData.int) at_), tr ((sF PyData.int) sj), none, none], [(sR (dL PyData.int)) script_, (sF PyData.int) at_]⟩)) (s := s1) ?_ ?_
 ·refine sim_if (q_tv (q_op2 (q_vf (d := PyData.int at_) rfl) (q_callB (q_cons (q_vr (d := (dL PyData.int) script_) rfl) q_nil st_sv tr_sv) (trs_cons tr_sv trs_nil) (gLen_l len_RL)) st_sv tr_sv tr_sv gLt_i) tr_sv) (fun hb => ?_) (fun hb => ?_)
  ·replace hj := ite_t hb hj
   obtain ⟨v1, h1, hj⟩ := R.bind_ok hj
   refine sim_last (S1 := ⟨[tr ((sR (dL PyData.int)) script_), tr ((sF PyData.int) at_), tr ((sF PyData.int) (if v1 < 0 then -v1 else v1)), none, none], [(sR (dL PyData.int)) script_, (sF PyData.int) at_]⟩) (q_asg (q_callB (q_cons (q_ix (q_vr (d := (dL PyData.int) script_) rfl) (q_vf (d := PyData.int at_) rfl) st_sv tr_sv tr_sv (gIx_RL (fun _ => rfl) h1)) q_nil st_sv tr_sv) (trs_cons tr_sv trs_nil) gAbs_i) rfl) ?_
   obtain rfl := R.inj hj
   exact ⟨_, rfl, rfl⟩
  ·replace hj := ite_f hb hj
   refine sim_last (S1 := ⟨[tr ((sR (dL PyData.int)) script_), tr ((sF PyData.int) at_), tr ((sF PyData.int) (0 : Int)), none, none], [(sR (dL PyData.int)) script_, (sF PyData.int) at_]⟩) rfl ?_
   obtain rfl := R.inj hj
   exact ⟨_, rfl, rfl⟩
 rintro _ rfl
 obtain ⟨v2, h2, h⟩ := R.bind_ok h
 refine sim_seq (S1 := ⟨[tr ((sR (dL PyData.int)) script_), tr ((sF PyData.int) at_), tr ((sF PyData.int) s1), tr ((sF PyData.int) (v2 + (17 : Int))), none], [(sR (dL PyData.int)) script_, (sF PyData.int) at_]⟩) (q_asg (q_op2 (q_op2 q_c (q_vf (d := PyData.int at_) rfl) st_sv tr_sv tr_sv (gMul_i h2)) q_c st_sv tr_sv tr_sv gAdd_i) rfl) ?_
 obtain ⟨v3, h3, h⟩ := R.bind_ok h
 obtain ⟨r8, h8, h⟩ := R.bind_ok h
 obtain ⟨_, e2, o1, rfl⟩ := for_r (en := PyData.int) q_t__law_bag_L2 _ _ _ _ (show st__law_bag_L2 script_ at_ s1 (v2 + (17 : Int)) ⟨[tr ((sR (dL PyData.int)) script_), tr ((sF PyData.int) at_), tr ((sF PyData.int) s1), tr ((sF PyData.int) (v2 + (17 : Int))), none], [(sR (dL PyData.int)) script_, (sF PyData.int) at_]⟩ from ⟨_, rfl⟩) h8
 refine sim_seq ((forI (q_ir1 (q_cons (q_callB (q_cons (q_callB (q_cons (q_vr (d := (dL PyData.int) script_) rfl) q_nil st_sv tr_sv) (trs_cons tr_sv trs_nil) (gLen_l len_RL)) (q_cons q_c q_nil st_sv tr_sv) st_sv tr_sv) (trs_cons tr_sv (trs_cons tr_sv trs_nil)) gMin_2) q_nil st_sv tr_sv) h3)).trans e2) ?_
 obtain ⟨v9, h9, h⟩ := R.bind_ok h
 obtain ⟨s3, hj, h⟩ := R.bind_ok h
 refine sim_join (St := (fun (sj : (Int)) S => S = ⟨[tr ((sR (dL PyData.int)) script_), tr ((sF PyData.int) at_), tr ((sF PyData.int) sj), tr ((sF PyData.int) r8), o1], [(sR (dL PyData.int)) script_, (sF PyData.int) at_]⟩)) (s := s3) ?_ ?_
 ·refine sim_if (q_tv (q_op2 (q_vf (d := PyData.int s1) rfl) (q_op2 q_c q_c st_sv tr_sv tr_sv (gPow_i h9)) st_sv tr_sv tr_sv gLt_i) tr_sv) (fun hb => ?_) (fun hb => ?_)
  ·replace hj := ite_t hb hj
   refine sim_last (S1 := ⟨[tr ((sR (dL PyData.int)) script_), tr ((sF PyData.int) at_), tr ((sF PyData.int) (0 : Int)), tr ((sF PyData.int) r8), o1], [(sR (dL PyData.int)) script_, (sF PyData.int) at_]⟩) (q_asg q_c rfl) ?_
   obtain rfl := R.inj hj
   exact ⟨_, rfl, rfl⟩
  ·replace hj := ite_f hb hj
   refine sim_last (S1 := ⟨[tr ((sR (dL PyData.int)) script_), tr ((sF PyData.int) at_), tr ((sF PyData.int) s1), tr ((sF PyData.int) r8), o1], [(sR (dL PyData.int)) script_, (sF PyData.int) at_]⟩) rfl ?_
   obtain rfl := R.inj hj
   exact ⟨_, rfl, rfl⟩
 rintro _ rfl
 obtain rfl := R.inj h
 exact sim_ret (q_ret (q_lstE (en := (sF PyData.int)) (xs := [s3, r8]) (q_cons (q_fzs (q_vf (d := PyData.int s3) rfl) frz_fz) (q_cons (q_fzs (q_vf (d := PyData.int r8) rfl) frz_fz) q_nil st_sv tr_sv) st_sv tr_sv) rfl (Nat.le_of_ble_eq_true rfl))) (.inl rfl)
def t__law_take_L1 (many_ : Int) (s : (Int × Int × (List Int))) : R (Int × Int × (List Int)) := (ixR s.2.2 (1 : Int)).bind fun v7 => (mulR v7 (48271 : Int)).bind fun v8 => (modR (v8 + (7919 : Int)) (2147483647 : Int)).bind fun v9 => (setR s.2.2 (1 : Int) v9).bind fun v10 => (mulR s.1 (1073741789 : Int)).bind fun v11 => (ixR v10 (1 : Int)).bind fun v12 => (fdivR v12 (8 : Int)).bind fun v13 => (mulR v13 (69621 : Int)).bind fun v14 => (modR v14 (1073741789 : Int)).bind fun v15 => (mulR s.2.1 (1073741789 : Int)).bind fun v16 => R.ok ((v11 + v15), v16, v10)
def t__law_take_L1_c (many_ : Int) (s : (Int × Int × (List Int))) : R Bool := R.ok (decide (s.2.1 < many_))
def st__law_take_L1 (many_ : Int) (s : (Int × Int × (List Int))) (S : DS) : Prop := S = ⟨[ar 0, tr ((sF PyData.int) many_), none, tr ((sF PyData.int) s.1), tr ((sF PyData.int) s.2.1)], [(sL (sF PyData.int)) s.2.2, (sF PyData.int) many_]⟩
theorem q_t__law_take_L1 {many_ : Int} : ∀ (s : (Int × Int × (List Int))) (c : (Int × Int × (List Int))) (S : DS), st__law_take_L1 many_ s S → t__law_take_L1 many_ s = .ok c → Sim (f2__law_take S) (NxP (st__law_take_L1 many_) c) := by
 rintro s c _ rfl h
 unfold t__law_take_L1 at h
 unfold f2__law_take
 obtain ⟨v7, h7, h⟩ := R.bind_ok h
 obtain ⟨v8, h8, h⟩ := R.bind_ok h
 obtain ⟨v9, h9, h⟩ := R.bind_ok h
 obtain ⟨v10, h10, h⟩ := R.bind_ok h
 refine sim_seq (S1 := ⟨[ar 0, tr ((sF PyData.int) many_), none, tr ((sF PyData.int) s.1), tr ((sF PyData.int) s.2.1)], [(sL (sF PyData.int)) v10, (sF PyData.int) many_]⟩) (q_asg (q_op2 (q_op2 (q_op2 (q_ix (q_va (i := 0) (j := 0) rfl rfl) q_c st_pk (tr_pk rfl) tr_sv (gIx_F h7)) q_c st_sv tr_sv tr_sv (gMul_i h8)) q_c st_sv tr_sv tr_sv gAdd_i) q_c st_sv tr_sv tr_sv (gMod_i h9)) (q_st (q_va (i := 0) (j := 0) rfl rfl) q_c tr_sv rfl (gSetIx_ok (en := (sF PyData.int)) h10))) ?_
 obtain ⟨v11, h11, h⟩ := R.bind_ok h
 obtain ⟨v12, h12, h⟩ := R.bind_ok h
 obtain ⟨v13, h13, h⟩ := R.bind_ok h
 obtain ⟨v14, h14, h⟩ := R.bind_ok h
 obtain ⟨v15, h15, h⟩ := R.bind_ok h
 refine sim_seq (S1 := ⟨[ar 0, tr ((sF PyData.int) many_), none, tr ((sF PyData.int) (v11 + v15)), tr ((sF PyData.int) s.2.1)], [(sL (sF PyData.int)) v10, (sF PyData.int) many_]⟩) (q_asg (q_op2 (q_op2 (q_vf (d := PyData.int s.1) rfl) q_c st_sv tr_sv tr_sv (gMul_i h11)) (q_op2 (q_op2 (q_op2 (q_ix (q_va (i := 0) (j := 0) rfl rfl) q_c st_pk (tr_pk rfl) tr_sv (gIx_F h12)) q_c st_sv tr_sv tr_sv (gFDiv_i h13)) q_c st_sv tr_sv tr_sv (gMul_i h14)) q_c st_sv tr_sv tr_sv (gMod_i h15)) st_sv tr_sv tr_sv gAdd_i) rfl) ?_
 obtain ⟨v16, h16, h⟩ := R.bind_ok h
 refine sim_last (S1 := ⟨[ar 0, tr ((sF PyData.int) many_), none, tr ((sF PyData.int) (v11 + v15)), tr ((sF PyData.int) v16)], [(sL (sF PyData.int)) v10, (sF PyData.int) many_]⟩) (q_asg (q_op2 (q_vf (d := PyData.int s.2.1) rfl) q_c st_sv tr_sv tr_sv (gMul_i h16)) rfl) ?_
 obtain rfl := R.inj h
 exact ⟨_, .inl rfl, rfl⟩
theorem q_t__law_take_L1_c {many_ : Int} : ∀ (s : (Int × Int × (List Int))) (b : Bool) (S : DS), st__law_take_L1 many_ s S → t__law_take_L1_c many_ s = .ok b → ∃ S1 L, TJ t1__law_take S b S1 L ∧ st__law_take_L1 many_ s S1 := by
 rintro s b _ rfl h
 unfold t__law_take_L1_c at h
 obtain rfl := R.inj h
 exact ⟨_, _, (q_tv (q_op2 (q_vf (d := PyData.int s.2.1) rfl) (q_vf (d := PyData.int many_) rfl) st_sv tr_sv tr_sv gLt_i) tr_sv), rfl⟩
def t__law_take (bag_here_ : (List Int)) (many_ : Int) : R (Int × (List Int)) := (ixR bag_here_ (0 : Int)).bind fun v1 => if (decide ((0 : Int) < v1)) = true then ((ixR bag_here_ (0 : Int)).bind fun v2 => (modR v2 many_).bind fun v3 => (ixR bag_here_ (0 : Int)).bind fun v4 => (fdivR v4 many_).bind fun v5 => (setR bag_here_ (0 : Int) v5).bind fun v6 => R.ok (v3, v6)) else ((whileR (t__law_take_L1_c many_) (t__law_take_L1 many_) 1000000 ((0 : Int), (1 : Int), bag_here_)).bind fun r17 => (modR r17.1 many_).bind fun v18 => R.ok (v18, r17.2.2))
theorem q_t__law_take {bag_here_ : (List Int)} {many_ : Int} {out : (Int × (List Int))} (h : t__law_take bag_here_ many_ = .ok out) : m__law_take [(sL (sF PyData.int)) bag_here_, (sF PyData.int) many_] = .ret ((sF PyData.int) out.1) [(sL (sF PyData.int)) out.2, (sF PyData.int) many_] := by
 unfold t__law_take at h
 refine runFn_fin ⟨rfl, by decide⟩ ?_
 show Sim (b__law_take ⟨[ar 0, tr ((sF PyData.int) many_), none, none, none], [(sL (sF PyData.int)) bag_here_, (sF PyData.int) many_]⟩) _
 unfold b__law_take
 obtain ⟨v1, h1, h⟩ := R.bind_ok h
 refine sim_mid ?_
 refine sim_if (q_tv (q_op2 (q_ix (q_va (i := 0) (j := 0) rfl rfl) q_c st_pk (tr_pk rfl) tr_sv (gIx_F h1)) q_c st_sv tr_sv tr_sv gGt_i) tr_sv) (fun hb => ?_) (fun hb => ?_)
 ·replace h := ite_t hb h
  obtain ⟨v2, h2, h⟩ := R.bind_ok h
  obtain ⟨v3, h3, h⟩ := R.bind_ok h
  refine sim_seq (S1 := ⟨[ar 0, tr ((sF PyData.int) many_), tr ((sF PyData.int) v3), none, none], [(sL (sF PyData.int)) bag_here_, (sF PyData.int) many_]⟩) (q_asg (q_op2 (q_ix (q_va (i := 0) (j := 0) rfl rfl) q_c st_pk (tr_pk rfl) tr_sv (gIx_F h2)) (q_vf (d := PyData.int many_) rfl) st_sv tr_sv tr_sv (gMod_i h3)) rfl) ?_
  obtain ⟨v4, h4, h⟩ := R.bind_ok h
  obtain ⟨v5, h5, h⟩ := R.bind_ok h
  obtain ⟨v6, h6, h⟩ := R.bind_ok h
  refine sim_seq (S1 := ⟨[ar 0, tr ((sF PyData.int) many_), tr ((sF PyData.int) v3), none, none], [(sL (sF PyData.int)) v6, (sF PyData.int) many_]⟩) (q_asg (q_op2 (q_ix (q_va (i := 0) (j := 0) rfl rfl) q_c st_pk (tr_pk rfl) tr_sv (gIx_F h4)) (q_vf (d := PyData.int many_) rfl) st_sv tr_sv tr_sv (gFDiv_i h5)) (q_st (q_va (i := 0) (j := 0) rfl rfl) q_c tr_sv rfl (gSetIx_ok (en := (sF PyData.int)) h6))) ?_
  obtain rfl := R.inj h
  exact sim_ret (q_ret (q_mvs (q_vf (d := PyData.int v3) rfl))) (mid_rt (.inl rfl))
 ·replace h := ite_f hb h
  refine sim_last (S1 := ⟨[ar 0, tr ((sF PyData.int) many_), none, none, none], [(sL (sF PyData.int)) bag_here_, (sF PyData.int) many_]⟩) rfl ?_
  refine mid_nx ?_
  refine sim_seq (S1 := ⟨[ar 0, tr ((sF PyData.int) many_), none, tr ((sF PyData.int) (0 : Int)), none], [(sL (sF PyData.int)) bag_here_, (sF PyData.int) many_]⟩) (q_asg q_c rfl) ?_
  refine sim_seq (S1 := ⟨[ar 0, tr ((sF PyData.int) many_), none, tr ((sF PyData.int) (0 : Int)), tr ((sF PyData.int) (1 : Int))], [(sL (sF PyData.int)) bag_here_, (sF PyData.int) many_]⟩) (q_asg q_c rfl) ?_
  obtain ⟨r17, h17, h⟩ := R.bind_ok h
  obtain ⟨_, e1, rfl⟩ := while_r q_t__law_take_L1_c q_t__law_take_L1 _ _ _ _ (show st__law_take_L1 many_ ((0 : Int), (1 : Int), bag_here_) ⟨[ar 0, tr ((sF PyData.int) many_), none, tr ((sF PyData.int) (0 : Int)), tr ((sF PyData.int) (1 : Int))], [(sL (sF PyData.int)) bag_here_, (sF PyData.int) many_]⟩ from rfl) h17
  refine sim_seq e1 ?_
  obtain ⟨v18, h18, h⟩ := R.bind_ok h
  obtain rfl := R.inj h
  exact sim_ret (q_ret (q_op2 (q_vf (d := PyData.int r17.1) rfl) (q_vf (d := PyData.int many_) rfl) st_sv tr_sv tr_sv (gMod_i h18))) (.inl rfl)
def t__law_order_L1 (many_ : Int) (s : ((List Int) × (List Int) × (List Int))) (x : Int) : R ((List Int) × (List Int) × (List Int)) := (t__law_take s.2.2 (s.1.length : Int)).bind fun v3 => (popR s.1 v3.1).bind fun v4 => (appR s.2.1 v4.1).bind fun v5 => R.ok (v4.2, v5, v3.2)
def st__law_order_L1 (many_ : Int) (s : ((List Int) × (List Int) × (List Int))) (S : DS) : Prop := ∃ w1 : Option Sl, S = ⟨[ar 0, tr ((sF PyData.int) many_), tr ((sL (sF PyData.int)) s.1), tr ((sL (sF PyData.int)) s.2.1), w1], [(sL (sF PyData.int)) s.2.2, (sF PyData.int) many_]⟩
theorem q_t__law_order_L1 {many_ : Int} : ∀ (s : ((List Int) × (List Int) × (List Int))) (x : Int) (c : ((List Int) × (List Int) × (List Int))) (S : DS), st__law_order_L1 many_ s S → t__law_order_L1 many_ s x = .ok c → ∃ S1, (gSet 4) (.fz (PyData.int x)) S = .nx S1 ∧ Sim (f1__law_order S1) (NxP (st__law_order_L1 many_) c) := by
 rintro s x c _ ⟨w1, rfl⟩ h
 unfold t__law_order_L1 at h
 refine ⟨⟨[ar 0, tr ((sF PyData.int) many_), tr ((sL (sF PyData.int)) s.1), tr ((sL (sF PyData.int)) s.2.1), tr ((sF PyData.int) x)], [(sL (sF PyData.int)) s.2.2, (sF PyData.int) many_]⟩, rfl, ?_⟩
 unfold f1__law_order
 obtain ⟨v3, h3, h⟩ := R.bind_ok h
 obtain ⟨v4, h4, h⟩ := R.bind_ok h
 obtain ⟨v5, h5, h⟩ := R.bind_ok h
 refine sim_last (S1 := ⟨[ar 0, tr ((sF PyData.int) many_), tr ((sL (sF PyData.int)) v4.2), tr ((sL (sF PyData.int)) v5), tr ((sF PyData.int) x)], [(sL (sF PyData.int)) v3.2, (sF PyData.int) many_]⟩) (q_expr (q_appR (en := (sF PyData.int)) (q_vl (i := 3) rfl) rfl (q_mut (q_vl (i := 2) rfl) rfl (q_cons (q_fnr (R := [.a 0]) (q_cons (q_va (i := 0) (j := 0) rfl rfl) (q_cons (q_callB (q_cons (q_vl (i := 2) rfl) q_nil st_pk (tr_pk rfl)) (trs_cons (tr_pk rfl) trs_nil) (gLen_l len_sL)) q_nil st_sv tr_sv) st_pk (tr_pk rfl)) (trs_cons (tr_pk rfl) (trs_cons tr_sv trs_nil)) rfl (by decide) (q_t__law_take h3) (pb_pk rfl (pb_sv pb_nil))) q_nil st_sv tr_sv) (trs_cons tr_sv trs_nil) rfl (gPopAt_ok (en := (sF PyData.int)) h4)) rfl h5)) ?_
 obtain rfl := R.inj h
 exact ⟨_, .inl rfl, ⟨_, rfl⟩⟩
def t__law_order (bag_here_ : (List Int)) (many_ : Int) : R ((List Int) × (List Int)) := (rngL 0 many_).bind fun v1 => (rngR 0 many_).bind fun v2 => (forR (t__law_order_L1 many_) v2 (v1, ([] : (List Int)), bag_here_)).bind fun r6 => R.ok (r6.2.1, r6.2.2)
theorem q_t__law_order {bag_here_ : (List Int)} {many_ : Int} {out : ((List Int) × (List Int))} (h : t__law_order bag_here_ many_ = .ok out) : m__law_order [(sL (sF PyData.int)) bag_here_, (sF PyData.int) many_] = .ret ((sL (sF PyData.int)) out.1) [(sL (sF PyData.int)) out.2, (sF PyData.int) many_] := by
 unfold t__law_order at h
 refine runFn_fin ⟨rfl, by decide⟩ ?_
 show Sim (b__law_order ⟨[ar 0, tr ((sF PyData.int) many_), none, none, none], [(sL (sF PyData.int)) bag_here_, (sF PyData.int) many_]⟩) _
 unfold b__law_order
 obtain ⟨v1, h1, h⟩ := R.bind_ok h
 refine sim_seq (S1 := ⟨[ar 0, tr ((sF PyData.int) many_), tr ((sL (sF PyData.int)) v1), none, none], [(sL (sF PyData.int)) bag_here_, (sF PyData.int) many_]⟩) (q_asg (q_lr (q_iR1 (q_vf (d := PyData.int many_) rfl)) h1) rfl) ?_
 refine sim_seq (S1 := ⟨[ar 0, tr ((sF PyData.int) many_), tr ((sL (sF PyData.int)) v1), tr ((sL (sF PyData.int)) ([] : (List Int))), none], [(sL (sF PyData.int)) bag_here_, (sF PyData.int) many_]⟩) (q_asg (q_lstE (en := (sF PyData.int)) (xs := []) q_nil rfl (Nat.le_of_ble_eq_true rfl)) rfl) ?_
 obtain ⟨v2, h2, h⟩ := R.bind_ok h
 obtain ⟨r6, h6, h⟩ := R.bind_ok h
 obtain ⟨_, e1, o1, rfl⟩ := for_r (en := PyData.int) q_t__law_order_L1 _ _ _ _ (show st__law_order_L1 many_ (v1, ([] : (List Int)), bag_here_) ⟨[ar 0, tr ((sF PyData.int) many_), tr ((sL (sF PyData.int)) v1), tr ((sL (sF PyData.int)) ([] : (List Int))), none], [(sL (sF PyData.int)) bag_here_, (sF PyData.int) many_]⟩ from ⟨_, rfl⟩) h6
 refine sim_seq ((forI (q_ir1 (q_cons (q_vf (d := PyData.int many_) rfl) q_nil st_sv tr_sv) h2)).trans e1) ?_
 obtain rfl := R.inj h
 exact sim_ret (q_ret (q_mvp (q_vl (i := 3) rfl) rfl)) (.inl rfl)
def t__law_net_L5 (most_ : Int) (many_5 : Int) (fans_5 : Int) (kind_5 : Int) (lap_5 : Int) (order_here_5 : (List Int)) (k_5 : Int) (goals_5 : (List Int)) (s : ((List (List Int)) × (List Int))) (x : Int) : R ((List (List Int)) × (List Int)) := (ixR order_here_5 k_5).bind fun v17 => (ixR s.1 v17).bind fun v18 => (t__law_take s.2 (goals_5.length : Int)).bind fun v19 => (ixR goals_5 v19.1).bind fun v20 => (appR v18 v20).bind fun v21 => R.ok ((s.1.set (ixk s.1.length v17) v21), v19.2)
def st__law_net_L5 (most_ : Int) (many_5 : Int) (fans_5 : Int) (kind_5 : Int) (lap_5 : Int) (order_here_5 : (List Int)) (k_5 : Int) (goals_5 : (List Int)) (s : ((List (List Int)) × (List Int))) (S : DS) : Prop := ∃ w1 : Option Sl, S = ⟨[ar 0, tr ((sF PyData.int) most_), tr ((sF PyData.int) many_5), tr ((sF PyData.int) fans_5), tr ((sF PyData.int) kind_5), tr ((sF PyData.int) lap_5), tr ((sL (sF PyData.int)) order_here_5), tr ((sL (sL (sF PyData.int))) s.1), none, tr ((sF PyData.int) k_5), tr ((sL (sF PyData.int)) goals_5), none, w1, none], [(sL (sF PyData.int)) s.2, (sF PyData.int) most_]⟩
theorem q_t__law_net_L5 {most_ : Int} {many_5 : Int} {fans_5 : Int} {kind_5 : Int} {lap_5 : Int} {order_here_5 : (List Int)} {k_5 : Int} {goals_5 : (List Int)} : ∀ (s : ((List (List Int)) × (List Int))) (x : Int) (c : ((List (List Int)) × (List Int))) (S : DS), st__law_net_L5 most_ many_5 fans_5 kind_5 lap_5 order_here_5 k_5 goals_5 s S → t__law_net_L5 most_ many_5 fans_5 kind_5 lap_5 order_here_5 k_5 goals_5 s x = .ok c → ∃ S1, (gSet 12) (.fz (PyData.int x)) S = .nx S1 ∧ Sim (f4__law_net S1) (NxP (st__law_net_L5 most_ many_5 fans_5 kind_5 lap_5 order_here_5 k_5 goals_5) c) := by
 rintro s x c _ ⟨w1, rfl⟩ h
 unfold t__law_net_L5 at h
 refine ⟨⟨[ar 0, tr ((sF PyData.int) most_), tr ((sF PyData.int) many_5), tr ((sF PyData.int) fans_5), tr ((sF PyData.int) kind_5), tr ((sF PyData.int) lap_5), tr ((sL (sF PyData.int)) order_here_5), tr ((sL (sL (sF PyData.int))) s.1), none, tr ((sF PyData.int) k_5), tr ((sL (sF PyData.int)) goals_5), none, tr ((sF PyData.int) x), none], [(sL (sF PyData.int)) s.2, (sF PyData.int) most_]⟩, rfl, ?_⟩
 unfold f4__law_net
 obtain ⟨v17, h17, h⟩ := R.bind_ok h
 obtain ⟨v18, h18, h⟩ := R.bind_ok h
 obtain ⟨v19, h19, h⟩ := R.bind_ok h
 obtain ⟨v20, h20, h⟩ := R.bind_ok h
 obtain ⟨v21, h21, h⟩ := R.bind_ok h
 refine sim_last (S1 := ⟨[ar 0, tr ((sF PyData.int) most_), tr ((sF PyData.int) many_5), tr ((sF PyData.int) fans_5), tr ((sF PyData.int) kind_5), tr ((sF PyData.int) lap_5), tr ((sL (sF PyData.int)) order_here_5), tr ((sL (sL (sF PyData.int))) (s.1.set (ixk s.1.length v17) v21)), none, tr ((sF PyData.int) k_5), tr ((sL (sF PyData.int)) goals_5), none, tr ((sF PyData.int) x), none], [(sL (sF PyData.int)) v19.2, (sF PyData.int) most_]⟩) (q_expr (q_appR1 (en := (sF PyData.int)) (e0 := (sF PyData.int)) (q_ixp (q_vl (i := 7) rfl) (q_ix (q_vl (i := 6) rfl) (q_vf (d := PyData.int k_5) rfl) st_pk (tr_pk rfl) tr_sv (gIx_F h17)) rfl tr_sv (gIx_P h18)) rfl (ixR_at h18) (q_fzs (q_ix (q_vl (i := 10) rfl) (q_fnr (R := [.a 0]) (q_cons (q_va (i := 0) (j := 0) rfl rfl) (q_cons (q_callB (q_cons (q_vl (i := 10) rfl) q_nil st_pk (tr_pk rfl)) (trs_cons (tr_pk rfl) trs_nil) (gLen_l len_sL)) q_nil st_sv tr_sv) st_pk (tr_pk rfl)) (trs_cons (tr_pk rfl) (trs_cons tr_sv trs_nil)) rfl (by decide) (q_t__law_take h19) (pb_pk rfl (pb_sv pb_nil))) st_pk (tr_pk rfl) tr_sv (gIx_F h20)) frz_fz) (st_pk1 (by decide)) rfl (ixR_at h18) h21)) ?_
 obtain rfl := R.inj h
 exact ⟨_, .inl rfl, ⟨_, rfl⟩⟩
def t__law_net_L3 (most_ : Int) (many_3 : Int) (fans_3 : Int) (kind_3 : Int) (lap_3 : Int) (order_here_3 : (List Int)) (s : ((List (List Int)) × (List Int))) (x : Int) : R ((List (List Int)) × (List Int)) := (rngR 0 many_3).bind fun v11 => (lcF v11 fun (x4 : Int) => (modR x4 lap_3).bind fun v12 => (modR (x + (1 : Int)) lap_3).bind fun v13 => if (decide (v12 = v13)) = true then ((ixR order_here_3 x4).bind fun v14 => R.ok (some v14)) else R.ok none).bind fun v15 => (rngR 0 fans_3).bind fun v16 => (forR (t__law_net_L5 most_ many_3 fans_3 kind_3 lap_3 order_here_3 x v15) v16 (s.1, s.2)).bind fun r22 => R.ok (r22.1, r22.2)
def st__law_net_L3 (most_ : Int) (many_3 : Int) (fans_3 : Int) (kind_3 : Int) (lap_3 : Int) (order_here_3 : (List Int)) (s : ((List (List Int)) × (List Int))) (S : DS) : Prop := ∃ w1 w2 w3 : Option Sl, S = ⟨[ar 0, tr ((sF PyData.int) most_), tr ((sF PyData.int) many_3), tr ((sF PyData.int) fans_3), tr ((sF PyData.int) kind_3), tr ((sF PyData.int) lap_3), tr ((sL (sF PyData.int)) order_here_3), tr ((sL (sL (sF PyData.int))) s.1), none, w1, w2, none, w3, none], [(sL (sF PyData.int)) s.2, (sF PyData.int) most_]⟩
theorem q_t__law_net_L3 {most_ : Int} {many_3 : Int} {fans_3 : Int} {kind_3 : Int} {lap_3 : Int} {order_here_3 : (List Int)} : ∀ (s : ((List (List Int)) × (List Int))) (x : Int) (c : ((List (List Int)) × (List Int))) (S : DS), st__law_net_L3 most_ many_3 fans_3 kind_3 lap_3 order_here_3 s S → t__law_net_L3 most_ many_3 fans_3 kind_3 lap_3 order_here_3 s x = .ok c → ∃ S1, (gSet 9) (.fz (PyData.int x)) S = .nx S1 ∧ Sim (f7__law_net S1) (NxP (st__law_net_L3 most_ many_3 fans_3 kind_3 lap_3 order_here_3) c) := by
 rintro s x c _ ⟨w1, w2, w3, rfl⟩ h
 unfold t__law_net_L3 at h
 refine ⟨⟨[ar 0, tr ((sF PyData.int) most_), tr ((sF PyData.int) many_3), tr ((sF PyData.int) fans_3), tr ((sF PyData.int) kind_3), tr ((sF PyData.int) lap_3), tr ((sL (sF PyData.int)) order_here_3), tr ((sL (sL (sF PyData.int))) s.1), none, tr ((sF PyData.int) x), w2, none, w3, none], [(sL (sF PyData.int)) s.2, (sF PyData.int) most_]⟩, rfl, ?_⟩
 unfold f7__law_net
 obtain ⟨v11, h11, h⟩ := R.bind_ok h
 obtain ⟨v15, h15, h⟩ := R.bind_ok h
 refine sim_seq (S1 := ⟨[ar 0, tr ((sF PyData.int) most_), tr ((sF PyData.int) many_3), tr ((sF PyData.int) fans_3), tr ((sF PyData.int) kind_3), tr ((sF PyData.int) lap_3), tr ((sL (sF PyData.int)) order_here_3), tr ((sL (sL (sF PyData.int))) s.1), none, tr ((sF PyData.int) x), tr ((sL (sF PyData.int)) v15), none, w3, none], [(sL (sF PyData.int)) s.2, (sF PyData.int) most_]⟩) (q_asg (q_lcF (vs := [11]) (en := PyData.int) (eo := (sF PyData.int)) (Sk := ⟨[ar 0, tr ((sF PyData.int) most_), tr ((sF PyData.int) many_3), tr ((sF PyData.int) fans_3), tr ((sF PyData.int) kind_3), tr ((sF PyData.int) lap_3), tr ((sL (sF PyData.int)) order_here_3), tr ((sL (sL (sF PyData.int))) s.1), none, tr ((sF PyData.int) x), w2, none, w3, none], [(sL (sF PyData.int)) s.2, (sF PyData.int) most_]⟩) (q_ir1 (q_cons (q_vf (d := PyData.int many_3) rfl) q_nil st_sv tr_sv) h11) h15 rfl (fun x4 y hy => by obtain ⟨v12, h12, hy⟩ := R.bind_ok hy; obtain ⟨v13, h13, hy⟩ := R.bind_ok hy; skip; cases hb : (decide (v12 = v13)) with | true => ( have g := ite_t hb hy; obtain ⟨v14, h14, g⟩ := R.bind_ok g; obtain rfl := R.inj g; exact ⟨⟨[ar 0, tr ((sF PyData.int) most_), tr ((sF PyData.int) many_3), tr ((sF PyData.int) fans_3), tr ((sF PyData.int) kind_3), tr ((sF PyData.int) lap_3), tr ((sL (sF PyData.int)) order_here_3), tr ((sL (sL (sF PyData.int))) s.1), none, tr ((sF PyData.int) x), w2, tr ((sF PyData.int) x4), w3, none], [(sL (sF PyData.int)) s.2, (sF PyData.int) most_]⟩, _, true, rfl, tj_cast hb (q_tv (q_op2 (q_op2 (q_vf (d := PyData.int x4) rfl) (q_vf (d := PyData.int lap_3) rfl) st_sv tr_sv tr_sv (gMod_i h12)) (q_op2 (q_op2 (q_vf (d := PyData.int x) rfl) q_c st_sv tr_sv tr_sv gAdd_i) (q_vf (d := PyData.int lap_3) rfl) st_sv tr_sv tr_sv (gMod_i h13)) st_sv tr_sv tr_sv (gEq_v (x := v12) (y := v13) fai_i vw_fz vw_fz (sha_ok sha_i (by decide) _) (sha_ok sha_i (by decide) _))) tr_sv), rfl, _, (q_fzs (q_ix (q_vl (i := 6) rfl) (q_vf (d := PyData.int x4) rfl) st_pk (tr_pk rfl) tr_sv (gIx_F h14)) frz_fz), rfl⟩ ) | false => ( have g := ite_f hb hy; obtain rfl := R.inj g; exact ⟨⟨[ar 0, tr ((sF PyData.int) most_), tr ((sF PyData.int) many_3), tr ((sF PyData.int) fans_3), tr ((sF PyData.int) kind_3), tr ((sF PyData.int) lap_3), tr ((sL (sF PyData.int)) order_here_3), tr ((sL (sL (sF PyData.int))) s.1), none, tr ((sF PyData.int) x), w2, tr ((sF PyData.int) x4), w3, none], [(sL (sF PyData.int)) s.2, (sF PyData.int) most_]⟩, _, false, rfl, tj_cast hb (q_tv (q_op2 (q_op2 (q_vf (d := PyData.int x4) rfl) (q_vf (d := PyData.int lap_3) rfl) st_sv tr_sv tr_sv (gMod_i h12)) (q_op2 (q_op2 (q_vf (d := PyData.int x) rfl) q_c st_sv tr_sv tr_sv gAdd_i) (q_vf (d := PyData.int lap_3) rfl) st_sv tr_sv tr_sv (gMod_i h13)) st_sv tr_sv tr_sv (gEq_v (x := v12) (y := v13) fai_i vw_fz vw_fz (sha_ok sha_i (by decide) _) (sha_ok sha_i (by decide) _))) tr_sv), rfl, rfl⟩ )) rfl) rfl) ?_
 obtain ⟨v16, h16, h⟩ := R.bind_ok h
 obtain ⟨r22, h22, h⟩ := R.bind_ok h
 obtain ⟨_, e5, o1, rfl⟩ := for_r (en := PyData.int) q_t__law_net_L5 _ _ _ _ (show st__law_net_L5 most_ many_3 fans_3 kind_3 lap_3 order_here_3 x v15 (s.1, s.2) ⟨[ar 0, tr ((sF PyData.int) most_), tr ((sF PyData.int) many_3), tr ((sF PyData.int) fans_3), tr ((sF PyData.int) kind_3), tr ((sF PyData.int) lap_3), tr ((sL (sF PyData.int)) order_here_3), tr ((sL (sL (sF PyData.int))) s.1), none, tr ((sF PyData.int) x), tr ((sL (sF PyData.int)) v15), none, w3, none], [(sL (sF PyData.int)) s.2, (sF PyData.int) most_]⟩ from ⟨_, rfl⟩) h22
 refine sim_last ((forI (q_ir1 (q_cons (q_vf (d := PyData.int fans_3) rfl) q_nil st_sv tr_sv) h16)).trans e5) ?_
 obtain rfl := R.inj h
 exact ⟨_, .inl rfl, ⟨_, _, _, rfl⟩⟩
def t__law_net_L7 (most_ : Int) (many_7 : Int) (fans_7 : Int) (kind_7 : Int) (lap_7 : Int) (order_here_7 : (List Int)) (s : ((List (List Int)) × (List Int))) (x : Int) : R ((List (List Int)) × (List Int)) := (ixR order_here_7 x).bind fun v25 => (ixR order_here_7 (x - (1 : Int))).bind fun v26 => (ixR s.1 v26).bind fun v27 => (t__law_take s.2 fans_7).bind fun v28 => (setR v27 v28.1 v25).bind fun v29 => R.ok ((s.1.set (ixk s.1.length v26) v29), v28.2)
def st__law_net_L7 (most_ : Int) (many_7 : Int) (fans_7 : Int) (kind_7 : Int) (lap_7 : Int) (order_here_7 : (List Int)) (j10_7 : Option Sl) (j12_7 : Option Sl) (s : ((List (List Int)) × (List Int))) (S : DS) : Prop := ∃ w1 : Option Sl, S = ⟨[ar 0, tr ((sF PyData.int) most_), tr ((sF PyData.int) many_7), tr ((sF PyData.int) fans_7), tr ((sF PyData.int) kind_7), tr ((sF PyData.int) lap_7), tr ((sL (sF PyData.int)) order_here_7), tr ((sL (sL (sF PyData.int))) s.1), none, w1, j10_7, none, j12_7, none], [(sL (sF PyData.int)) s.2, (sF PyData.int) most_]⟩
theorem q_t__law_net_L7 {most_ : Int} {many_7 : Int} {fans_7 : Int} {kind_7 : Int} {lap_7 : Int} {order_here_7 : (List Int)} {j10_7 : Option Sl} {j12_7 : Option Sl} : ∀ (s : ((List (List Int)) × (List Int))) (x : Int) (c : ((List (List Int)) × (List Int))) (S : DS), st__law_net_L7 most_ many_7 fans_7 kind_7 lap_7 order_here_7 j10_7 j12_7 s S → t__law_net_L7 most_ many_7 fans_7 kind_7 lap_7 order_here_7 s x = .ok c → ∃ S1, (gSet 9) (.fz (PyData.int x)) S = .nx S1 ∧ Sim (f3__law_net S1) (NxP (st__law_net_L7 most_ many_7 fans_7 kind_7 lap_7 order_here_7 j10_7 j12_7) c) := by
 rintro s x c _ ⟨w1, rfl⟩ h
 unfold t__law_net_L7 at h
 refine ⟨⟨[ar 0, tr ((sF PyData.int) most_), tr ((sF PyData.int) many_7), tr ((sF PyData.int) fans_7), tr ((sF PyData.int) kind_7), tr ((sF PyData.int) lap_7), tr ((sL (sF PyData.int)) order_here_7), tr ((sL (sL (sF PyData.int))) s.1), none, tr ((sF PyData.int) x), j10_7, none, j12_7, none], [(sL (sF PyData.int)) s.2, (sF PyData.int) most_]⟩, rfl, ?_⟩
 unfold f3__law_net
 obtain ⟨v25, h25, h⟩ := R.bind_ok h
 obtain ⟨v26, h26, h⟩ := R.bind_ok h
 obtain ⟨v27, h27, h⟩ := R.bind_ok h
 obtain ⟨v28, h28, h⟩ := R.bind_ok h
 obtain ⟨v29, h29, h⟩ := R.bind_ok h
 refine sim_last (S1 := ⟨[ar 0, tr ((sF PyData.int) most_), tr ((sF PyData.int) many_7), tr ((sF PyData.int) fans_7), tr ((sF PyData.int) kind_7), tr ((sF PyData.int) lap_7), tr ((sL (sF PyData.int)) order_here_7), tr ((sL (sL (sF PyData.int))) (s.1.set (ixk s.1.length v26) v29)), none, tr ((sF PyData.int) x), j10_7, none, j12_7, none], [(sL (sF PyData.int)) v28.2, (sF PyData.int) most_]⟩) (q_asg (q_fzs (q_ix (q_vl (i := 6) rfl) (q_vf (d := PyData.int x) rfl) st_pk (tr_pk rfl) tr_sv (gIx_F h25)) frz_fz) (q_st1 (q_ixp (q_vl (i := 7) rfl) (q_ix (q_vl (i := 6) rfl) (q_op2 (q_vf (d := PyData.int x) rfl) q_c st_sv tr_sv tr_sv gSub_i) st_pk (tr_pk rfl) tr_sv (gIx_F h26)) rfl tr_sv (gIx_P h27)) (q_fnr (R := [.a 0]) (q_cons (q_va (i := 0) (j := 0) rfl rfl) (q_cons (q_vf (d := PyData.int fans_7) rfl) q_nil st_sv tr_sv) st_pk (tr_pk rfl)) (trs_cons (tr_pk rfl) (trs_cons tr_sv trs_nil)) rfl (by decide) (q_t__law_take h28) (pb_pk rfl (pb_sv pb_nil))) tr_sv (st_pk1 (by decide)) rfl (ixR_at h27) (gSetIx_ok (en := (sF PyData.int)) h29))) ?_
 obtain rfl := R.inj h
 exact ⟨_, .inl rfl, ⟨_, rfl⟩⟩
def t__law_net_L9 (most_ : Int) (many_9 : Int) (fans_9 : Int) (kind_9 : Int) (lap_9 : Int) (order_here_9 : (List Int)) (a0bag_here_9 : (List Int)) (s : ((List (List Int)))) (x : Int) : R ((List (List Int))) := (ixR order_here_9 x).bind fun v32 => (repR ([v32] : (List Int)) fans_9).bind fun v33 => (ixR order_here_9 (x - (1 : Int))).bind fun v34 => (setR s v34 v33).bind fun v35 => R.ok (v35)
def st__law_net_L9 (most_ : Int) (many_9 : Int) (fans_9 : Int) (kind_9 : Int) (lap_9 : Int) (order_here_9 : (List Int)) (j10_9 : Option Sl) (j12_9 : Option Sl) (a0bag_here_9 : (List Int)) (s : ((List (List Int)))) (S : DS) : Prop := ∃ w1 : Option Sl, S = ⟨[ar 0, tr ((sF PyData.int) most_), tr ((sF PyData.int) many_9), tr ((sF PyData.int) fans_9), tr ((sF PyData.int) kind_9), tr ((sF PyData.int) lap_9), tr ((sL (sF PyData.int)) order_here_9), tr ((sL (sL (sF PyData.int))) s), none, w1, j10_9, none, j12_9, none], [(sL (sF PyData.int)) a0bag_here_9, (sF PyData.int) most_]⟩
theorem q_t__law_net_L9 {most_ : Int} {many_9 : Int} {fans_9 : Int} {kind_9 : Int} {lap_9 : Int} {order_here_9 : (List Int)} {j10_9 : Option Sl} {j12_9 : Option Sl} {a0bag_here_9 : (List Int)} : ∀ (s : ((List (List Int)))) (x : Int) (c : ((List (List Int)))) (S : DS), st__law_net_L9 most_ many_9 fans_9 kind_9 lap_9 order_here_9 j10_9 j12_9 a0bag_here_9 s S → t__law_net_L9 most_ many_9 fans_9 kind_9 lap_9 order_here_9 a0bag_here_9 s x = .ok c → ∃ S1, (gSet 9) (.fz (PyData.int x)) S = .nx S1 ∧ Sim (f2__law_net S1) (NxP (st__law_net_L9 most_ many_9 fans_9 kind_9 lap_9 order_here_9 j10_9 j12_9 a0bag_here_9) c) := by
 rintro s x c _ ⟨w1, rfl⟩ h
 unfold t__law_net_L9 at h
 refine ⟨⟨[ar 0, tr ((sF PyData.int) most_), tr ((sF PyData.int) many_9), tr ((sF PyData.int) fans_9), tr ((sF PyData.int) kind_9), tr ((sF PyData.int) lap_9), tr ((sL (sF PyData.int)) order_here_9), tr ((sL (sL (sF PyData.int))) s), none, tr ((sF PyData.int) x), j10_9, none, j12_9, none], [(sL (sF PyData.int)) a0bag_here_9, (sF PyData.int) most_]⟩, rfl, ?_⟩
 unfold f2__law_net
 obtain ⟨v32, h32, h⟩ := R.bind_ok h
 obtain ⟨v33, h33, h⟩ := R.bind_ok h
 obtain ⟨v34, h34, h⟩ := R.bind_ok h
 obtain ⟨v35, h35, h⟩ := R.bind_ok h
 refine sim_last (S1 := ⟨[ar 0, tr ((sF PyData.int) most_), tr ((sF PyData.int) many_9), tr ((sF PyData.int) fans_9), tr ((sF PyData.int) kind_9), tr ((sF PyData.int) lap_9), tr ((sL (sF PyData.int)) order_here_9), tr ((sL (sL (sF PyData.int))) v35), none, tr ((sF PyData.int) x), j10_9, none, j12_9, none], [(sL (sF PyData.int)) a0bag_here_9, (sF PyData.int) most_]⟩) (q_asg (q_op2 (q_lstE (en := (sF PyData.int)) (xs := [v32]) (q_cons (q_fzs (q_ix (q_vl (i := 6) rfl) (q_vf (d := PyData.int x) rfl) st_pk (tr_pk rfl) tr_sv (gIx_F h32)) frz_fz) q_nil st_sv tr_sv) rfl (Nat.le_of_ble_eq_true rfl)) (q_vf (d := PyData.int fans_9) rfl) st_sv tr_sv tr_sv (gMul_l lis_F h33)) (q_st (q_vl (i := 7) rfl) (q_ix (q_vl (i := 6) rfl) (q_op2 (q_vf (d := PyData.int x) rfl) q_c st_sv tr_sv tr_sv gSub_i) st_pk (tr_pk rfl) tr_sv (gIx_F h34)) tr_sv rfl (gSetIx_ok (en := (sL (sF PyData.int))) h35))) ?_
 obtain rfl := R.inj h
 exact ⟨_, .inl rfl, ⟨_, rfl⟩⟩
def t__law_net (bag_here_ : (List Int)) (most_ : Int) : R ((List (List Int)) × (List Int)) := (t__law_take bag_here_ most_).bind fun v1 => (t__law_take v1.2 (2 : Int)).bind fun v2 => (t__law_take v2.2 (8 : Int)).bind fun v3 => (if (decide (v3.1 = (6 : Int))) = true then ((t__law_take v3.2 (4 : Int)).bind fun v4 => (fdivR ((1 : Int) + v1.1) (iMin ((2 : Int) + v4.1) ((1 : Int) + v1.1))).bind fun v5 => (mulR v5 (iMin ((2 : Int) + v4.1) ((1 : Int) + v1.1))).bind fun v6 => R.ok (v6, (iMin ((2 : Int) + v4.1) ((1 : Int) + v1.1)), v4.2)) else (R.ok (((1 : Int) + v1.1), (1 : Int), v3.2))).bind fun (s1 : (Int × Int × (List Int))) => (t__law_order s1.2.2 s1.1).bind fun v7 => (rngR 0 s1.1).bind fun v8 => (lcR v8 fun (x2 : Int) => R.ok ([] : (List Int))).bind fun v9 => (rngR 0 s1.1).bind fun v10 => (forR (t__law_net_L3 most_ s1.1 ((2 : Int) + v2.1) v3.1 s1.2.1 v7.1) v10 (v9, v7.2)).bind fun r23 => (if (decide ((2 : Int) < v3.1)) = true then ((rngR 0 s1.1).bind fun v24 => (forR (t__law_net_L7 most_ s1.1 ((2 : Int) + v2.1) v3.1 s1.2.1 v7.1) v24 (r23.1, r23.2)).bind fun r30 => R.ok (r30.1, r30.2)) else (R.ok (r23.1, r23.2))).bind fun (s6 : ((List (List Int)) × (List Int))) => (if (decide (v3.1 = (7 : Int))) = true then ((rngR 0 s1.1).bind fun v31 => (forR (t__law_net_L9 most_ s1.1 ((2 : Int) + v2.1) v3.1 s1.2.1 v7.1 s6.2) v31 s6.1).bind fun r36 => (t__law_take s6.2 s1.1).bind fun v37 => (ixR r36 (0 : Int)).bind fun v38 => (setR v38 (0 : Int) v37.1).bind fun v39 => R.ok ((r36.set (ixk r36.length (0 : Int)) v39), v37.2)) else (R.ok (s6.1, s6.2))).bind fun (s8 : ((List (List Int)) × (List Int))) => (lcR s8.1 fun (x10 : (List Int)) => R.ok x10).bind fun v40 => R.ok (v40, s8.2)
theorem q_t__law_net {bag_here_ : (List Int)} {most_ : Int} {out : ((List (List Int)) × (List Int))} (h : t__law_net bag_here_ most_ = .ok out) : m__law_net [(sL (sF PyData.int)) bag_here_, (sF PyData.int) most_] = .ret ((sF (dT (dT PyData.int))) out.1) [(sL (sF PyData.int)) out.2, (sF PyData.int) most_] := by
 unfold t__law_net at h
 refine runFn_fin ⟨rfl, by decide⟩ ?_
 show Sim (b__law_net ⟨[ar 0, tr ((sF PyData.int) most_), none, none, none, none, none, none, none, none, none, none, none, none], [(sL (sF PyData.int)) bag_here_, (sF PyData.int) most_]⟩) _
 unfold b__law_net
 obtain ⟨v1, h1, h⟩ := R.bind_ok h
 refine sim_seq (S1 := ⟨[ar 0, tr ((sF PyData.int) most_), tr ((sF PyData.int) ((1 : Int) + v1.1)), none, none, none, none, none, none, none, none, none, none, none], [(sL (sF PyData.int)) v1.2, (sF PyData.int) most_]⟩) (q_asg (q_op2 q_c (q_fnr (R := [.a 0]) (q_cons (q_va (i := 0) (j := 0) rfl rfl) (q_cons (q_vf (d := PyData.int most_) rfl) q_nil st_sv tr_sv) st_pk (tr_pk rfl)) (trs_cons (tr_pk rfl) (trs_cons tr_sv trs_nil)) rfl (by decide) (q_t__law_take h1) (pb_pk rfl (pb_sv pb_nil))) st_sv tr_sv tr_sv gAdd_i) rfl) ?_
 obtain ⟨v2, h2, h⟩ := R.bind_ok h
 refine sim_seq (S1 := ⟨[ar 0, tr ((sF PyData.int) most_), tr ((sF PyData.int) ((1 : Int) + v1.1)), tr ((sF PyData.int) ((2 : Int) + v2.1)), none, none, none, none, none, none, none, none, none, none], [(sL (sF PyData.int)) v2.2, (sF PyData.int) most_]⟩) (q_asg (q_op2 q_c (q_fnr (R := [.a 0]) (q_cons (q_va (i := 0) (j := 0) rfl rfl) (q_cons q_c q_nil st_sv tr_sv) st_pk (tr_pk rfl)) (trs_cons (tr_pk rfl) (trs_cons tr_sv trs_nil)) rfl (by decide) (q_t__law_take h2) (pb_pk rfl (pb_sv pb_nil))) st_sv tr_sv tr_sv gAdd_i) rfl) ?_
 obtain ⟨v3, h3, h⟩ := R.bind_ok h
 refine sim_seq (S1 := ⟨[ar 0, tr ((sF PyData.int) most_), tr ((sF PyData.int) ((1 : Int) + v1.1)), tr ((sF PyData.int) ((2 : Int) + v2.1)), tr ((sF PyData.int) v3.1), none, none, none, none, none, none, none, none, none], [(sL (sF PyData.int)) v3.2, (sF PyData.int) most_]⟩) (q_asg (q_fnr (R := [.a 0]) (q_cons (q_va (i := 0) (j := 0) rfl rfl) (q_cons q_c q_nil st_sv tr_sv) st_pk (tr_pk rfl)) (trs_cons (tr_pk rfl) (trs_cons tr_sv trs_nil)) rfl (by decide) (q_t__law_take h3) (pb_pk rfl (pb_sv pb_nil))) rfl) ?_
 refine sim_seq (S1 := ⟨[ar 0, tr ((sF PyData.int) most_), tr ((sF PyData.int) ((1 : Int) + v1.1)), tr ((sF PyData.int) ((2 : Int) + v2.1)), tr ((sF PyData.int) v3.1), tr ((sF PyData.int) (1 : Int)), none, none, none, none, none, none, none, none], [(sL (sF PyData.int)) v3.2, (sF PyData.int) most_]⟩) (q_asg q_c rfl) ?_
 obtain ⟨s1, hj, h⟩ := R.bind_ok h
 refine sim_join (St := (fun (sj : (Int × Int × (List Int))) S => S = ⟨[ar 0, tr ((sF PyData.int) most_), tr ((sF PyData.int) sj.1), tr ((sF PyData.int) ((2 : Int) + v2.1)), tr ((sF PyData.int) v3.1), tr ((sF PyData.int) sj.2.1), none, none, none, none, none, none, none, none], [(sL (sF PyData.int)) sj.2.2, (sF PyData.int) most_]⟩)) (s := s1) ?_ ?_
 ·refine sim_if (q_tv (q_op2 (q_vf (d := PyData.int v3.1) rfl) q_c st_sv tr_sv tr_sv (gEq_v (x := v3.1) (y := (6 : Int)) fai_i vw_fz vw_fz (sha_ok sha_i (by decide) _) (sha_ok sha_i (by decide) _))) tr_sv) (fun hb => ?_) (fun hb => ?_)
  ·replace hj := ite_t hb hj
   obtain ⟨v4, h4, hj⟩ := R.bind_ok hj
   refine sim_seq (S1 := ⟨[ar 0, tr ((sF PyData.int) most_), tr ((sF PyData.int) ((1 : Int) + v1.1)), tr ((sF PyData.int) ((2 : Int) + v2.1)), tr ((sF PyData.int) v3.1), tr ((sF PyData.int) (iMin ((2 : Int) + v4.1) ((1 : Int) + v1.1))), none, none, none, none, none, none, none, none], [(sL (sF PyData.int)) v4.2, (sF PyData.int) most_]⟩) (q_asg (q_callB (q_cons (q_op2 q_c (q_fnr (R := [.a 0]) (q_cons (q_va (i := 0) (j := 0) rfl rfl) (q_cons q_c q_nil st_sv tr_sv) st_pk (tr_pk rfl)) (trs_cons (tr_pk rfl) (trs_cons tr_sv trs_nil)) rfl (by decide) (q_t__law_take h4) (pb_pk rfl (pb_sv pb_nil))) st_sv tr_sv tr_sv gAdd_i) (q_cons (q_vf (d := PyData.int ((1 : Int) + v1.1)) rfl) q_nil st_sv tr_sv) st_sv tr_sv) (trs_cons tr_sv (trs_cons tr_sv trs_nil)) gMin_2) rfl) ?_
   obtain ⟨v5, h5, hj⟩ := R.bind_ok hj
   obtain ⟨v6, h6, hj⟩ := R.bind_ok hj
   refine sim_last (S1 := ⟨[ar 0, tr ((sF PyData.int) most_), tr ((sF PyData.int) v6), tr ((sF PyData.int) ((2 : Int) + v2.1)), tr ((sF PyData.int) v3.1), tr ((sF PyData.int) (iMin ((2 : Int) + v4.1) ((1 : Int) + v1.1))), none, none, none, none, none, none, none, none], [(sL (sF PyData.int)) v4.2, (sF PyData.int) most_]⟩) (q_asg (q_op2 (q_op2 (q_vf (d := PyData.int ((1 : Int) + v1.1)) rfl) (q_vf (d := PyData.int (iMin ((2 : Int) + v4.1) ((1 : Int) + v1.1))) rfl) st_sv tr_sv tr_sv (gFDiv_i h5)) (q_vf (d := PyData.int (iMin ((2 : Int) + v4.1) ((1 : Int) + v1.1))) rfl) st_sv tr_sv tr_sv (gMul_i h6)) rfl) ?_
   obtain rfl := R.inj hj
   exact ⟨_, rfl, rfl⟩
  ·replace hj := ite_f hb hj
   refine sim_last (S1 := ⟨[ar 0, tr ((sF PyData.int) most_), tr ((sF PyData.int) ((1 : Int) + v1.1)), tr ((sF PyData.int) ((2 : Int) + v2.1)), tr ((sF PyData.int) v3.1), tr ((sF PyData.int) (1 : Int)), none, none, none, none, none, none, none, none], [(sL (sF PyData.int)) v3.2, (sF PyData.int) most_]⟩) rfl ?_
   obtain rfl := R.inj hj
   exact ⟨_, rfl, rfl⟩
 rintro _ rfl
 obtain ⟨v7, h7, h⟩ := R.bind_ok h
 refine sim_seq (S1 := ⟨[ar 0, tr ((sF PyData.int) most_), tr ((sF PyData.int) s1.1), tr ((sF PyData.int) ((2 : Int) + v2.1)), tr ((sF PyData.int) v3.1), tr ((sF PyData.int) s1.2.1), tr ((sL (sF PyData.int)) v7.1), none, none, none, none, none, none, none], [(sL (sF PyData.int)) v7.2, (sF PyData.int) most_]⟩) (q_asg (q_fnr (R := [.a 0]) (q_cons (q_va (i := 0) (j := 0) rfl rfl) (q_cons (q_vf (d := PyData.int s1.1) rfl) q_nil st_sv tr_sv) st_pk (tr_pk rfl)) (trs_cons (tr_pk rfl) (trs_cons tr_sv trs_nil)) rfl (by decide) (q_t__law_order h7) (pb_pk rfl (pb_sv pb_nil))) rfl) ?_
 obtain ⟨v8, h8, h⟩ := R.bind_ok h
 obtain ⟨v9, h9, h⟩ := R.bind_ok h
 refine sim_seq (S1 := ⟨[ar 0, tr ((sF PyData.int) most_), tr ((sF PyData.int) s1.1), tr ((sF PyData.int) ((2 : Int) + v2.1)), tr ((sF PyData.int) v3.1), tr ((sF PyData.int) s1.2.1), tr ((sL (sF PyData.int)) v7.1), tr ((sL (sL (sF PyData.int))) v9), none, none, none, none, none, none], [(sL (sF PyData.int)) v7.2, (sF PyData.int) most_]⟩) (q_asg (q_lc (vs := [8]) (en := PyData.int) (eo := (sL (sF PyData.int))) (Sk := ⟨[ar 0, tr ((sF PyData.int) most_), tr ((sF PyData.int) s1.1), tr ((sF PyData.int) ((2 : Int) + v2.1)), tr ((sF PyData.int) v3.1), tr ((sF PyData.int) s1.2.1), tr ((sL (sF PyData.int)) v7.1), none, none, none, none, none, none, none], [(sL (sF PyData.int)) v7.2, (sF PyData.int) most_]⟩) (q_ir1 (q_cons (q_vf (d := PyData.int s1.1) rfl) q_nil st_sv tr_sv) h8) h9 rfl (fun x2 y hy => by obtain rfl := R.inj hy; exact ⟨⟨[ar 0, tr ((sF PyData.int) most_), tr ((sF PyData.int) s1.1), tr ((sF PyData.int) ((2 : Int) + v2.1)), tr ((sF PyData.int) v3.1), tr ((sF PyData.int) s1.2.1), tr ((sL (sF PyData.int)) v7.1), none, tr ((sF PyData.int) x2), none, none, none, none, none], [(sL (sF PyData.int)) v7.2, (sF PyData.int) most_]⟩, _, rfl, (q_lstE (en := (sF PyData.int)) (xs := []) q_nil rfl (Nat.le_of_ble_eq_true rfl)), rfl⟩) rfl) rfl) ?_
 obtain ⟨v10, h10, h⟩ := R.bind_ok h
 obtain ⟨r23, h23, h⟩ := R.bind_ok h
 obtain ⟨_, e3, o2, o3, o4, rfl⟩ := for_r (en := PyData.int) q_t__law_net_L3 _ _ _ _ (show st__law_net_L3 most_ s1.1 ((2 : Int) + v2.1) v3.1 s1.2.1 v7.1 (v9, v7.2) ⟨[ar 0, tr ((sF PyData.int) most_), tr ((sF PyData.int) s1.1), tr ((sF PyData.int) ((2 : Int) + v2.1)), tr ((sF PyData.int) v3.1), tr ((sF PyData.int) s1.2.1), tr ((sL (sF PyData.int)) v7.1), tr ((sL (sL (sF PyData.int))) v9), none, none, none, none, none, none], [(sL (sF PyData.int)) v7.2, (sF PyData.int) most_]⟩ from ⟨_, _, _, rfl⟩) h23
 refine sim_seq ((forI (q_ir1 (q_cons (q_vf (d := PyData.int s1.1) rfl) q_nil st_sv tr_sv) h10)).trans e3) ?_
 obtain ⟨s6, hj, h⟩ := R.bind_ok h
 refine sim_join (St := (fun (sj : ((List (List Int)) × (List Int))) S => ∃ w1 : Option Sl, S = ⟨[ar 0, tr ((sF PyData.int) most_), tr ((sF PyData.int) s1.1), tr ((sF PyData.int) ((2 : Int) + v2.1)), tr ((sF PyData.int) v3.1), tr ((sF PyData.int) s1.2.1), tr ((sL (sF PyData.int)) v7.1), tr ((sL (sL (sF PyData.int))) sj.1), none, w1, o3, none, o4, none], [(sL (sF PyData.int)) sj.2, (sF PyData.int) most_]⟩)) (s := s6) ?_ ?_
 ·refine sim_if (q_tv (q_op2 (q_vf (d := PyData.int v3.1) rfl) q_c st_sv tr_sv tr_sv gGt_i) tr_sv) (fun hb => ?_) (fun hb => ?_)
  ·replace hj := ite_t hb hj
   obtain ⟨v24, h24, hj⟩ := R.bind_ok hj
   obtain ⟨r30, h30, hj⟩ := R.bind_ok hj
   obtain ⟨_, e7, o5, rfl⟩ := for_r (en := PyData.int) q_t__law_net_L7 _ _ _ _ (show st__law_net_L7 most_ s1.1 ((2 : Int) + v2.1) v3.1 s1.2.1 v7.1 o3 o4 (r23.1, r23.2) ⟨[ar 0, tr ((sF PyData.int) most_), tr ((sF PyData.int) s1.1), tr ((sF PyData.int) ((2 : Int) + v2.1)), tr ((sF PyData.int) v3.1), tr ((sF PyData.int) s1.2.1), tr ((sL (sF PyData.int)) v7.1), tr ((sL (sL (sF PyData.int))) r23.1), none, o2, o3, none, o4, none], [(sL (sF PyData.int)) r23.2, (sF PyData.int) most_]⟩ from ⟨_, rfl⟩) h30
   refine sim_last ((forI (q_ir1 (q_cons (q_vf (d := PyData.int s1.1) rfl) q_nil st_sv tr_sv) h24)).trans e7) ?_
   obtain rfl := R.inj hj
   exact ⟨_, rfl, ⟨_, rfl⟩⟩
  ·replace hj := ite_f hb hj
   refine sim_last (S1 := ⟨[ar 0, tr ((sF PyData.int) most_), tr ((sF PyData.int) s1.1), tr ((sF PyData.int) ((2 : Int) + v2.1)), tr ((sF PyData.int) v3.1), tr ((sF PyData.int) s1.2.1), tr ((sL (sF PyData.int)) v7.1), tr ((sL (sL (sF PyData.int))) r23.1), none, o2, o3, none, o4, none], [(sL (sF PyData.int)) r23.2, (sF PyData.int) most_]⟩) rfl ?_
   obtain rfl := R.inj hj
   exact ⟨_, rfl, ⟨_, rfl⟩⟩
 rintro _ ⟨o6, rfl⟩
 obtain ⟨s8, hj, h⟩ := R.bind_ok h
 refine sim_join (St := (fun (sj : ((List (List Int)) × (List Int))) S => ∃ w1 : Option Sl, S = ⟨[ar 0, tr ((sF PyData.int) most_), tr ((sF PyData.int) s1.1), tr ((sF PyData.int) ((2 : Int) + v2.1)), tr ((sF PyData.int) v3.1), tr ((sF PyData.int) s1.2.1), tr ((sL (sF PyData.int)) v7.1), tr ((sL (sL (sF PyData.int))) sj.1), none, w1, o3, none, o4, none], [(sL (sF PyData.int)) sj.2, (sF PyData.int) most_]⟩)) (s := s8) ?_ ?_
 ·refine sim_if (q_tv (q_op2 (q_vf (d := PyData.int v3.1) rfl) q_c st_sv tr_sv tr_sv (gEq_v (x := v3.1) (y := (7 : Int)) fai_i vw_fz vw_fz (sha_ok sha_i (by decide) _) (sha_ok sha_i (by decide) _))) tr_sv) (fun hb => ?_) (fun hb => ?_)
  ·replace hj := ite_t hb hj
   obtain ⟨v31, h31, hj⟩ := R.bind_ok hj
   obtain ⟨r36, h36, hj⟩ := R.bind_ok hj
   obtain ⟨_, e9, o7, rfl⟩ := for_r (en := PyData.int) q_t__law_net_L9 _ _ _ _ (show st__law_net_L9 most_ s1.1 ((2 : Int) + v2.1) v3.1 s1.2.1 v7.1 o3 o4 s6.2 s6.1 ⟨[ar 0, tr ((sF PyData.int) most_), tr ((sF PyData.int) s1.1), tr ((sF PyData.int) ((2 : Int) + v2.1)), tr ((sF PyData.int) v3.1), tr ((sF PyData.int) s1.2.1), tr ((sL (sF PyData.int)) v7.1), tr ((sL (sL (sF PyData.int))) s6.1), none, o6, o3, none, o4, none], [(sL (sF PyData.int)) s6.2, (sF PyData.int) most_]⟩ from ⟨_, rfl⟩) h36
   refine sim_seq ((forI (q_ir1 (q_cons (q_vf (d := PyData.int s1.1) rfl) q_nil st_sv tr_sv) h31)).trans e9) ?_
   obtain ⟨v37, h37, hj⟩ := R.bind_ok hj
   obtain ⟨v38, h38, hj⟩ := R.bind_ok hj
   obtain ⟨v39, h39, hj⟩ := R.bind_ok hj
   refine sim_last (S1 := ⟨[ar 0, tr ((sF PyData.int) most_), tr ((sF PyData.int) s1.1), tr ((sF PyData.int) ((2 : Int) + v2.1)), tr ((sF PyData.int) v3.1), tr ((sF PyData.int) s1.2.1), tr ((sL (sF PyData.int)) v7.1), tr ((sL (sL (sF PyData.int))) (r36.set (ixk r36.length (0 : Int)) v39)), none, o7, o3, none, o4, none], [(sL (sF PyData.int)) v37.2, (sF PyData.int) most_]⟩) (q_asg (q_fnr (R := [.a 0]) (q_cons (q_va (i := 0) (j := 0) rfl rfl) (q_cons (q_vf (d := PyData.int s1.1) rfl) q_nil st_sv tr_sv) st_pk (tr_pk rfl)) (trs_cons (tr_pk rfl) (trs_cons tr_sv trs_nil)) rfl (by decide) (q_t__law_take h37) (pb_pk rfl (pb_sv pb_nil))) (q_st1 (q_ixp (q_vl (i := 7) rfl) q_c rfl tr_sv (gIx_P h38)) q_c tr_sv (st_pk1 (by decide)) rfl (ixR_at h38) (gSetIx_ok (en := (sF PyData.int)) h39))) ?_
   obtain rfl := R.inj hj
   exact ⟨_, rfl, ⟨_, rfl⟩⟩
  ·replace hj := ite_f hb hj
   refine sim_last (S1 := ⟨[ar 0, tr ((sF PyData.int) most_), tr ((sF PyData.int) s1.1), tr ((sF PyData.int) ((2 : Int) + v2.1)), tr ((sF PyData.int) v3.1), tr ((sF PyData.int) s1.2.1), tr ((sL (sF PyData.int)) v7.1), tr ((sL (sL (sF PyData.int))) s6.1), none, o6, o3, none, o4, none], [(sL (sF PyData.int)) s6.2, (sF PyData.int) most_]⟩) rfl ?_
   obtain rfl := R.inj hj
   exact ⟨_, rfl, ⟨_, rfl⟩⟩
 rintro _ ⟨o8, rfl⟩
 obtain ⟨v40, h40, h⟩ := R.bind_ok h
 obtain rfl := R.inj h
 exact sim_ret (q_ret (q_callB (q_cons (q_lc (vs := [13]) (en := (dL PyData.int)) (eo := (sF (dT PyData.int))) (Sk := ⟨[ar 0, tr ((sF PyData.int) most_), tr ((sF PyData.int) s1.1), tr ((sF PyData.int) ((2 : Int) + v2.1)), tr ((sF PyData.int) v3.1), tr ((sF PyData.int) s1.2.1), tr ((sL (sF PyData.int)) v7.1), tr ((sF (dL (dL PyData.int))) s8.1), none, o8, o3, none, o4, none], [(sL (sF PyData.int)) s8.2, (sF PyData.int) most_]⟩) (q_isL (q_fzp (q_vl (i := 7) rfl) rfl ((frz_L (frz_L frz_F)) s8.1))) h40 rfl (fun x10 y hy => by obtain rfl := R.inj hy; exact ⟨⟨[ar 0, tr ((sF PyData.int) most_), tr ((sF PyData.int) s1.1), tr ((sF PyData.int) ((2 : Int) + v2.1)), tr ((sF PyData.int) v3.1), tr ((sF PyData.int) s1.2.1), tr ((sL (sF PyData.int)) v7.1), tr ((sF (dL (dL PyData.int))) s8.1), none, o8, o3, none, o4, tr ((sF (dL PyData.int)) x10)], [(sL (sF PyData.int)) s8.2, (sF PyData.int) most_]⟩, _, rfl, (q_callB (q_cons (q_fzs (q_vf (d := (dL PyData.int) x10) rfl) frz_fz) q_nil st_sv tr_sv) (trs_cons tr_sv trs_nil) (gTup_l sql_L)), rfl⟩) rfl) q_nil st_sv tr_sv) (trs_cons tr_sv trs_nil) (gTup_l sql_F))) (.inl rfl)
def t_is_whole (thing_ : Int) : R (Bool) := R.ok true
theorem q_t_is_whole {thing_ : Int} {out : (Bool)} (h : t_is_whole thing_ = .ok out) : m_is_whole [(sF PyData.int) thing_] = .ret ((sF PyData.bool) out) [(sF PyData.int) thing_] := by
 unfold t_is_whole at h
 refine runFn_fin ⟨rfl, by decide⟩ ?_
 show Sim (b_is_whole ⟨[tr ((sF PyData.int) thing_)], [(sF PyData.int) thing_]⟩) _
 unfold b_is_whole
 obtain rfl := R.inj h
 exact sim_ret (q_ret (q_andp (q_isi (q_vf (d := PyData.int thing_) rfl) tr_sv rfl rfl) tr_sv (q_not (q_isi (q_vf (d := PyData.int thing_) rfl) tr_sv rfl rfl) tr_sv))) (.inl rfl)
def t_is_one_of (thing_ : Int) (many_ : Int) : R (Bool) := (t_is_whole thing_).bind fun v1 => R.ok (v1 && ((decide ((0 : Int) ≤ thing_)) && (decide (thing_ < many_))))
theorem q_t_is_one_of {thing_ : Int} {many_ : Int} {out : (Bool)} (h : t_is_one_of thing_ many_ = .ok out) : m_is_one_of [(sF PyData.int) thing_, (sF PyData.int) many_] = .ret ((sF PyData.bool) out) [(sF PyData.int) thing_, (sF PyData.int) many_] := by
 unfold t_is_one_of at h
 refine runFn_fin ⟨rfl, by decide⟩ ?_
 show Sim (b_is_one_of ⟨[tr ((sF PyData.int) thing_), tr ((sF PyData.int) many_)], [(sF PyData.int) thing_, (sF PyData.int) many_]⟩) _
 unfold b_is_one_of
 obtain ⟨v1, h1, h⟩ := R.bind_ok h
 obtain rfl := R.inj h
 exact sim_ret (q_ret (q_andp (q_fnr (R := []) (q_cons (q_vf (d := PyData.int thing_) rfl) q_nil st_sv tr_sv) (trs_cons tr_sv trs_nil) rfl (by decide) (q_t_is_whole h1) (pb_sv pb_nil)) tr_sv (q_chainp q_c (q_vf (d := PyData.int thing_) rfl) st_sv tr_sv tr_sv gLe_i (q_vf (d := PyData.int many_) rfl) st_sv tr_sv gLt_i))) (.inl rfl)
def t_is_row (thing_ : (List Int)) (many_ : Int) (ways_ : Int) : R (Bool) := if (false || (!(decide ((thing_.length : Int) = ways_)))) = true then (R.ok false) else ((lcR thing_ fun (x1 : Int) => (t_is_one_of x1 many_).bind fun v1 => R.ok v1).bind fun v2 => R.ok (v2.all id))
theorem q_t_is_row {thing_ : (List Int)} {many_ : Int} {ways_ : Int} {out : (Bool)} (h : t_is_row thing_ many_ ways_ = .ok out) : m_is_row [(sF (dT PyData.int)) thing_, (sF PyData.int) many_, (sF PyData.int) ways_] = .ret ((sF PyData.bool) out) [(sF (dT PyData.int)) thing_, (sF PyData.int) many_, (sF PyData.int) ways_] := by
 unfold t_is_row at h
 refine runFn_fin ⟨rfl, by decide⟩ ?_
 show Sim (b_is_row ⟨[tr ((sF (dT PyData.int)) thing_), tr ((sF PyData.int) many_), tr ((sF PyData.int) ways_), none], [(sF (dT PyData.int)) thing_, (sF PyData.int) many_, (sF PyData.int) ways_]⟩) _
 unfold b_is_row
 refine sim_mid ?_
 refine sim_if (q_lorp (q_lnot (q_tv (q_isi (q_vf (d := (dT PyData.int) thing_) rfl) tr_sv rfl rfl) tr_sv)) (q_tv (q_op2 (q_callB (q_cons (q_vf (d := (dT PyData.int) thing_) rfl) q_nil st_sv tr_sv) (trs_cons tr_sv trs_nil) (gLen_l len_T)) (q_vf (d := PyData.int ways_) rfl) st_sv tr_sv tr_sv (gNe_v (x := (thing_.length : Int)) (y := ways_) fai_i vw_fz vw_fz (sha_ok sha_i (by decide) _) (sha_ok sha_i (by decide) _))) tr_sv)) (fun hb => ?_) (fun hb => ?_)
 ·replace h := ite_t hb h
  obtain rfl := R.inj h
  exact sim_ret (q_ret q_c) (mid_rt (.inl rfl))
 ·replace h := ite_f hb h
  refine sim_last (S1 := ⟨[tr ((sF (dT PyData.int)) thing_), tr ((sF PyData.int) many_), tr ((sF PyData.int) ways_), none], [(sF (dT PyData.int)) thing_, (sF PyData.int) many_, (sF PyData.int) ways_]⟩) rfl ?_
  refine mid_nx ?_
  obtain ⟨v2, h2, h⟩ := R.bind_ok h
  obtain rfl := R.inj h
  exact sim_ret (q_ret (q_viewf (q_vf (d := (dT PyData.int) thing_) rfl) (q_callB (q_cons (q_lc (vs := [3]) (en := PyData.int) (eo := (sF PyData.bool)) (Sk := ⟨[tr ((sF (dT PyData.int)) thing_), tr ((sF PyData.int) many_), tr ((sF PyData.int) ways_), none], [(sF (dT PyData.int)) thing_, (sF PyData.int) many_, (sF PyData.int) ways_]⟩) (q_isT (q_fzs (q_vf (d := (dT PyData.int) thing_) rfl) frz_fz)) h2 rfl (fun x1 y hy => by obtain ⟨v1, h1, hy⟩ := R.bind_ok hy; obtain rfl := R.inj hy; exact ⟨⟨[tr ((sF (dT PyData.int)) thing_), tr ((sF PyData.int) many_), tr ((sF PyData.int) ways_), tr ((sF PyData.int) x1)], [(sF (dT PyData.int)) thing_, (sF PyData.int) many_, (sF PyData.int) ways_]⟩, _, rfl, (q_fnr (R := []) (q_cons (q_vf (d := PyData.int x1) rfl) (q_cons (q_vf (d := PyData.int many_) rfl) q_nil st_sv tr_sv) st_sv tr_sv) (trs_cons tr_sv (trs_cons tr_sv trs_nil)) rfl (by decide) (q_t_is_one_of h1) (pb_sv (pb_sv pb_nil))), rfl⟩) rfl) q_nil st_sv tr_sv) (trs_cons tr_sv trs_nil) (gAll_l sql_F)))) (.inl rfl)
def t_is_net (thing_ : (List (List Int))) : R (Bool) := if (false || (!((decide ((1 : Int) ≤ (thing_.length : Int))) && (decide ((thing_.length : Int) ≤ (9 : Int)))))) = true then (R.ok false) else ((ixR thing_ (0 : Int)).bind fun v1 => (if false = true then R.ok true else ((ixR thing_ (0 : Int)).bind fun v2 => R.ok (!(memB (v2.length : Int) ([(2 : Int), (3 : Int)] : (List Int)))))).bind fun v3 => if v3 = true then (R.ok false) else ((lcR thing_ fun (x1 : (List Int)) => (ixR thing_ (0 : Int)).bind fun v4 => (t_is_row x1 (thing_.length : Int) (v4.length : Int)).bind fun v5 => R.ok v5).bind fun v6 => R.ok (v6.all id)))
theorem q_t_is_net {thing_ : (List (List Int))} {out : (Bool)} (h : t_is_net thing_ = .ok out) : m_is_net [(sF (dT (dT PyData.int))) thing_] = .ret ((sF PyData.bool) out) [(sF (dT (dT PyData.int))) thing_] := by
 unfold t_is_net at h
 refine runFn_fin ⟨rfl, by decide⟩ ?_
 show Sim (b_is_net ⟨[tr ((sF (dT (dT PyData.int))) thing_), none], [(sF (dT (dT PyData.int))) thing_]⟩) _
 unfold b_is_net
 refine sim_mid ?_
 refine sim_if (q_lorp (q_lnot (q_tv (q_isi (q_vf (d := (dT (dT PyData.int)) thing_) rfl) tr_sv rfl rfl) tr_sv)) (q_lnot (q_tv (q_chainp q_c (q_callB (q_cons (q_vf (d := (dT (dT PyData.int)) thing_) rfl) q_nil st_sv tr_sv) (trs_cons tr_sv trs_nil) (gLen_l len_T)) st_sv tr_sv tr_sv gLe_i q_c st_sv tr_sv gLe_i) tr_sv))) (fun hb => ?_) (fun hb => ?_)
 ·replace h := ite_t hb h
  obtain rfl := R.inj h
  exact sim_ret (q_ret q_c) (mid_rt (.inl rfl))
 ·replace h := ite_f hb h
  refine sim_last (S1 := ⟨[tr ((sF (dT (dT PyData.int))) thing_), none], [(sF (dT (dT PyData.int))) thing_]⟩) rfl ?_
  refine mid_nx ?_
  obtain ⟨v1, h1, h⟩ := R.bind_ok h
  obtain ⟨v3, h3, h⟩ := R.bind_ok h
  refine sim_mid ?_
  refine sim_if (q_lor (q_lnot (q_tv (q_isi (q_ix (q_vf (d := (dT (dT PyData.int)) thing_) rfl) q_c st_sv tr_sv tr_sv (gIx_T h1)) tr_sv rfl rfl) tr_sv)) (fun hb => by have g := ite_f hb h3; obtain ⟨v2, h2, g⟩ := R.bind_ok g; obtain rfl := R.inj g; exact (q_tv (q_op2 (q_callB (q_cons (q_ix (q_vf (d := (dT (dT PyData.int)) thing_) rfl) q_c st_sv tr_sv tr_sv (gIx_T h2)) q_nil st_sv tr_sv) (trs_cons tr_sv trs_nil) (gLen_l len_T)) q_ro st_sv tr_sv tr_sv (gNotIn_v (x := (v2.length : Int)) (xs := ([(2 : Int), (3 : Int)] : (List Int))) fai_i vw_fz (.inr vw_ro) (sha_ok sha_i (by decide) _) (sha_ok (sha_L sha_i) (by decide) _))) tr_sv)) (fun hb => (R.inj (ite_t hb h3)).symm)) (fun hb => ?_) (fun hb => ?_)
  ·replace h := ite_t hb h
   obtain rfl := R.inj h
   exact sim_ret (q_ret q_c) (mid_rt (.inl rfl))
  ·replace h := ite_f hb h
   refine sim_last (S1 := ⟨[tr ((sF (dT (dT PyData.int))) thing_), none], [(sF (dT (dT PyData.int))) thing_]⟩) rfl ?_
   refine mid_nx ?_
   obtain ⟨v6, h6, h⟩ := R.bind_ok h
   obtain rfl := R.inj h
   exact sim_ret (q_ret (q_viewf (q_vf (d := (dT (dT PyData.int)) thing_) rfl) (q_callB (q_cons (q_lc (vs := [1]) (en := (dT PyData.int)) (eo := (sF PyData.bool)) (Sk := ⟨[tr ((sF (dT (dT PyData.int))) thing_), none], [(sF (dT (dT PyData.int))) thing_]⟩) (q_isT (q_fzs (q_vf (d := (dT (dT PyData.int)) thing_) rfl) frz_fz)) h6 rfl (fun x1 y hy => by obtain ⟨v4, h4, hy⟩ := R.bind_ok hy; obtain ⟨v5, h5, hy⟩ := R.bind_ok hy; obtain rfl := R.inj hy; exact ⟨⟨[tr ((sF (dT (dT PyData.int))) thing_), tr ((sF (dT PyData.int)) x1)], [(sF (dT (dT PyData.int))) thing_]⟩, _, rfl, (q_fnr (R := []) (q_cons (q_vf (d := (dT PyData.int) x1) rfl) (q_cons (q_callB (q_cons (q_vf (d := (dT (dT PyData.int)) thing_) rfl) q_nil st_sv tr_sv) (trs_cons tr_sv trs_nil) (gLen_l len_T)) (q_cons (q_callB (q_cons (q_ix (q_vf (d := (dT (dT PyData.int)) thing_) rfl) q_c st_sv tr_sv tr_sv (gIx_T h4)) q_nil st_sv tr_sv) (trs_cons tr_sv trs_nil) (gLen_l len_T)) q_nil st_sv tr_sv) st_sv tr_sv) st_sv tr_sv) (trs_cons tr_sv (trs_cons tr_sv (trs_cons tr_sv trs_nil))) rfl (by decide) (q_t_is_row h5) (pb_sv (pb_sv (pb_sv pb_nil)))), rfl⟩) rfl) q_nil st_sv tr_sv) (trs_cons tr_sv trs_nil) (gAll_l sql_F)))) (.inl rfl)
def t_look_net (thing_ : (List (List Int))) : R (Unit) := (t_is_net thing_).bind fun v1 => if (!v1) = true then (R.fail) else (R.ok ())
theorem q_t_look_net {thing_ : (List (List Int))} {out : (Unit)} (h : t_look_net thing_ = .ok out) : m_look_net [(sF (dT (dT PyData.int))) thing_] = .ret ((sF dN) out) [(sF (dT (dT PyData.int))) thing_] := by
 unfold t_look_net at h
 refine runFn_fin ⟨rfl, by decide⟩ ?_
 show Sim (b_look_net ⟨[tr ((sF (dT (dT PyData.int))) thing_)], [(sF (dT (dT PyData.int))) thing_]⟩) _
 unfold b_look_net
 obtain ⟨v1, h1, h⟩ := R.bind_ok h
 refine sim_if (q_lnot (q_tv (q_fnr (R := []) (q_cons (q_vf (d := (dT (dT PyData.int)) thing_) rfl) q_nil st_sv tr_sv) (trs_cons tr_sv trs_nil) rfl (by decide) (q_t_is_net h1) (pb_sv pb_nil)) tr_sv)) (fun hb => ?_) (fun hb => ?_)
 ·replace h := ite_t hb h
  cases h
 ·replace h := ite_f hb h
  refine sim_last (S1 := ⟨[tr ((sF (dT (dT PyData.int))) thing_)], [(sF (dT (dT PyData.int))) thing_]⟩) rfl ?_
  obtain rfl := R.inj h
  exact .inr ⟨rfl, _, rfl, rfl⟩
def t_many_ways (net_ : (List (List Int))) : R (Int) := (ixR net_ (0 : Int)).bind fun v1 => R.ok (v1.length : Int)
theorem q_t_many_ways {net_ : (List (List Int))} {out : (Int)} (h : t_many_ways net_ = .ok out) : m_many_ways [(sF (dT (dT PyData.int))) net_] = .ret ((sF PyData.int) out) [(sF (dT (dT PyData.int))) net_] := by
 unfold t_many_ways at h
 refine runFn_fin ⟨rfl, by decide⟩ ?_
 show Sim (b_many_ways ⟨[tr ((sF (dT (dT PyData.int))) net_)], [(sF (dT (dT PyData.int))) net_]⟩) _
 unfold b_many_ways
 obtain ⟨v1, h1, h⟩ := R.bind_ok h
 obtain rfl := R.inj h
 exact sim_ret (q_ret (q_callB (q_cons (q_ix (q_vf (d := (dT (dT PyData.int)) net_) rfl) q_c st_sv tr_sv tr_sv (gIx_T h1)) q_nil st_sv tr_sv) (trs_cons tr_sv trs_nil) (gLen_l len_T))) (.inl rfl)
def t_have_same_roads (one_ : (List (List Int))) (other_ : (List (List Int))) : R (Bool) := (if (!(decide ((one_.length : Int) = (other_.length : Int)))) = true then R.ok true else ((t_many_ways one_).bind fun v1 => (t_many_ways other_).bind fun v2 => R.ok (!(decide (v1 = v2))))).bind fun v3 => if v3 = true then (R.ok false) else ((lcR (one_.zip other_) fun (x1 : ((List Int) × (List Int))) => (sortR PyData.int x1.1).bind fun v4 => (sortR PyData.int x1.2).bind fun v5 => R.ok (decide (v4 = v5))).bind fun v6 => R.ok (v6.all id))
theorem q_t_have_same_roads {one_ : (List (List Int))} {other_ : (List (List Int))} {out : (Bool)} (h : t_have_same_roads one_ other_ = .ok out) : m_have_same_roads [(sF (dT (dT PyData.int))) one_, (sF (dT (dT PyData.int))) other_] = .ret ((sF PyData.bool) out) [(sF (dT (dT PyData.int))) one_, (sF (dT (dT PyData.int))) other_] := by
 unfold t_have_same_roads at h
 refine runFn_fin ⟨rfl, by decide⟩ ?_
 show Sim (b_have_same_roads ⟨[tr ((sF (dT (dT PyData.int))) one_), tr ((sF (dT (dT PyData.int))) other_), none, none], [(sF (dT (dT PyData.int))) one_, (sF (dT (dT PyData.int))) other_]⟩) _
 unfold b_have_same_roads
 obtain ⟨v3, h3, h⟩ := R.bind_ok h
 refine sim_mid ?_
 refine sim_if (q_lor (q_tv (q_op2 (q_callB (q_cons (q_vf (d := (dT (dT PyData.int)) one_) rfl) q_nil st_sv tr_sv) (trs_cons tr_sv trs_nil) (gLen_l len_T)) (q_callB (q_cons (q_vf (d := (dT (dT PyData.int)) other_) rfl) q_nil st_sv tr_sv) (trs_cons tr_sv trs_nil) (gLen_l len_T)) st_sv tr_sv tr_sv (gNe_v (x := (one_.length : Int)) (y := (other_.length : Int)) fai_i vw_fz vw_fz (sha_ok sha_i (by decide) _) (sha_ok sha_i (by decide) _))) tr_sv) (fun hb => by have g := ite_f hb h3; obtain ⟨v1, h1, g⟩ := R.bind_ok g; obtain ⟨v2, h2, g⟩ := R.bind_ok g; obtain rfl := R.inj g; exact (q_tv (q_op2 (q_fnr (R := []) (q_cons (q_vf (d := (dT (dT PyData.int)) one_) rfl) q_nil st_sv tr_sv) (trs_cons tr_sv trs_nil) rfl (by decide) (q_t_many_ways h1) (pb_sv pb_nil)) (q_fnr (R := []) (q_cons (q_vf (d := (dT (dT PyData.int)) other_) rfl) q_nil st_sv tr_sv) (trs_cons tr_sv trs_nil) rfl (by decide) (q_t_many_ways h2) (pb_sv pb_nil)) st_sv tr_sv tr_sv (gNe_v (x := v1) (y := v2) fai_i vw_fz vw_fz (sha_ok sha_i (by decide) _) (sha_ok sha_i (by decide) _))) tr_sv)) (fun hb => (R.inj (ite_t hb h3)).symm)) (fun hb => ?_) (fun hb => ?_)
 ·replace h := ite_t hb h
  obtain rfl := R.inj h
  exact sim_ret (q_ret q_c) (mid_rt (.inl rfl))
 ·replace h := ite_f hb h
  refine sim_last (S1 := ⟨[tr ((sF (dT (dT PyData.int))) one_), tr ((sF (dT (dT PyData.int))) other_), none, none], [(sF (dT (dT PyData.int))) one_, (sF (dT (dT PyData.int))) other_]⟩) rfl ?_
  refine mid_nx ?_
  obtain ⟨v6, h6, h⟩ := R.bind_ok h
  obtain rfl := R.inj h
  exact sim_ret (q_ret (q_callB (q_cons (q_lc (vs := [2, 3]) (en := (dP (dT PyData.int) (dT PyData.int))) (eo := (sF PyData.bool)) (Sk := ⟨[tr ((sF (dT (dT PyData.int))) one_), tr ((sF (dT (dT PyData.int))) other_), none, none], [(sF (dT (dT PyData.int))) one_, (sF (dT (dT PyData.int))) other_]⟩) (q_zipT (q_cons (q_fzs (q_vf (d := (dT (dT PyData.int)) one_) rfl) frz_fz) (q_cons (q_fzs (q_vf (d := (dT (dT PyData.int)) other_) rfl) frz_fz) q_nil st_sv tr_sv) st_sv tr_sv)) h6 rfl (fun x1 y hy => by obtain ⟨v4, h4, hy⟩ := R.bind_ok hy; obtain ⟨v5, h5, hy⟩ := R.bind_ok hy; obtain rfl := R.inj hy; exact ⟨⟨[tr ((sF (dT (dT PyData.int))) one_), tr ((sF (dT (dT PyData.int))) other_), tr ((sF (dT PyData.int)) x1.1), tr ((sF (dT PyData.int)) x1.2)], [(sF (dT (dT PyData.int))) one_, (sF (dT (dT PyData.int))) other_]⟩, _, rfl, (q_op2 (q_callB (q_cons (q_vf (d := (dT PyData.int) x1.1) rfl) q_nil st_sv tr_sv) (trs_cons tr_sv trs_nil) (gSort_l sqs_T h4)) (q_callB (q_cons (q_vf (d := (dT PyData.int) x1.2) rfl) q_nil st_sv tr_sv) (trs_cons tr_sv trs_nil) (gSort_l sqs_T h5)) st_sv tr_sv tr_sv (gEq_v (x := v4) (y := v5) (fai_L fai_i) (vw_L frz_F) (vw_L frz_F) (sha_ok (sha_L sha_i) (by decide) _) (sha_ok (sha_L sha_i) (by decide) _))), rfl⟩) rfl) q_nil st_sv tr_sv) (trs_cons tr_sv trs_nil) (gAll_l sql_F))) (.inl rfl)
def t_same_roads (one_ : (List (List Int))) (other_ : (List (List Int))) : R (Bool) := (t_look_net one_).bind fun v1 => (t_look_net other_).bind fun v2 => (t_have_same_roads one_ other_).bind fun v3 => R.ok v3
theorem q_t_same_roads {one_ : (List (List Int))} {other_ : (List (List Int))} {out : (Bool)} (h : t_same_roads one_ other_ = .ok out) : m_same_roads [(sF (dT (dT PyData.int))) one_, (sF (dT (dT PyData.int))) other_] = .ret ((sF PyData.bool) out) [(sF (dT (dT PyData.int))) one_, (sF (dT (dT PyData.int))) other_] := by
 unfold t_same_roads at h
 refine runFn_fin ⟨rfl, by decide⟩ ?_
 show Sim (b_same_roads ⟨[tr ((sF (dT (dT PyData.int))) one_), tr ((sF (dT (dT PyData.int))) other_)], [(sF (dT (dT PyData.int))) one_, (sF (dT (dT PyData.int))) other_]⟩) _
 unfold b_same_roads
 obtain ⟨v1, h1, h⟩ := R.bind_ok h
 refine sim_seq (S1 := ⟨[tr ((sF (dT (dT PyData.int))) one_), tr ((sF (dT (dT PyData.int))) other_)], [(sF (dT (dT PyData.int))) one_, (sF (dT (dT PyData.int))) other_]⟩) (q_expr (q_fnr (R := []) (q_cons (q_vf (d := (dT (dT PyData.int)) one_) rfl) q_nil st_sv tr_sv) (trs_cons tr_sv trs_nil) rfl (by decide) (q_t_look_net h1) (pb_sv pb_nil))) ?_
 obtain ⟨v2, h2, h⟩ := R.bind_ok h
 refine sim_seq (S1 := ⟨[tr ((sF (dT (dT PyData.int))) one_), tr ((sF (dT (dT PyData.int))) other_)], [(sF (dT (dT PyData.int))) one_, (sF (dT (dT PyData.int))) other_]⟩) (q_expr (q_fnr (R := []) (q_cons (q_vf (d := (dT (dT PyData.int)) other_) rfl) q_nil st_sv tr_sv) (trs_cons tr_sv trs_nil) rfl (by decide) (q_t_look_net h2) (pb_sv pb_nil))) ?_
 obtain ⟨v3, h3, h⟩ := R.bind_ok h
 obtain rfl := R.inj h
 exact sim_ret (q_ret (q_fnr (R := []) (q_cons (q_vf (d := (dT (dT PyData.int)) one_) rfl) (q_cons (q_vf (d := (dT (dT PyData.int)) other_) rfl) q_nil st_sv tr_sv) st_sv tr_sv) (trs_cons tr_sv (trs_cons tr_sv trs_nil)) rfl (by decide) (q_t_have_same_roads h3) (pb_sv (pb_sv pb_nil)))) (.inl rfl)
end U
set_option maxRecDepth 100000
set_option maxHeartbeats 4000000
namespace U
open PySem PySem.Spec Y D
open L2 (atI ixN)
def t__law_turned (bag_here_ : (List Int)) (net_here_ : (List (List Int))) : R ((List (List Int)) × (List Int)) := (lcS net_here_ (bag_here_) fun (s : ((List Int))) (x1 : (List Int)) => (t__law_order s (x1.length : Int)).bind fun v1 => (lcR v1.1 fun (x2 : Int) => (ixR x1 x2).bind fun v2 => R.ok v2).bind fun v3 => R.ok ((v1.2), v3)).bind fun v4 => R.ok (v4.2, v4.1)
theorem q_t__law_turned {bag_here_ : (List Int)} {net_here_ : (List (List Int))} {out : ((List (List Int)) × (List Int))} (h : t__law_turned bag_here_ net_here_ = .ok out) : m__law_turned [(sL (sF PyData.int)) bag_here_, (sF (dT (dT PyData.int))) net_here_] = .ret ((sF (dT (dT PyData.int))) out.1) [(sL (sF PyData.int)) out.2, (sF (dT (dT PyData.int))) net_here_] := by
 unfold t__law_turned at h
 refine runFn_fin ⟨rfl, by decide⟩ ?_
 show Sim (b__law_turned ⟨[ar 0, tr ((sF (dT (dT PyData.int))) net_here_), none, none], [(sL (sF PyData.int)) bag_here_, (sF (dT (dT PyData.int))) net_here_]⟩) _
 unfold b__law_turned
 obtain ⟨v4, h4, h⟩ := R.bind_ok h
 obtain rfl := R.inj h
 exact sim_ret (q_ret (q_callB (q_cons (q_lcS (vs := [3]) (en := (dT PyData.int)) (eo := (sF (dT PyData.int))) (St := fun (s : ((List Int))) S => S = ⟨[ar 0, tr ((sF (dT (dT PyData.int))) net_here_), none, none], [(sL (sF PyData.int)) s, (sF (dT (dT PyData.int))) net_here_]⟩) (S2 := ⟨[ar 0, tr ((sF (dT (dT PyData.int))) net_here_), none, none], [(sL (sF PyData.int)) v4.1, (sF (dT (dT PyData.int))) net_here_]⟩) (q_isT (q_fzs (q_vf (d := (dT (dT PyData.int)) net_here_) rfl) frz_fz)) h4 rfl (by rintro s x1 y _ rfl hy; obtain ⟨v1, h1, hy⟩ := R.bind_ok hy; obtain ⟨v3, h3, hy⟩ := R.bind_ok hy; obtain rfl := R.inj hy; exact ⟨⟨[ar 0, tr ((sF (dT (dT PyData.int))) net_here_), none, tr ((sF (dT PyData.int)) x1)], [(sL (sF PyData.int)) s, (sF (dT (dT PyData.int))) net_here_]⟩, _, rfl, (q_callB (q_cons (q_lc (vs := [2]) (en := PyData.int) (eo := (sF PyData.int)) (Sk := ⟨[ar 0, tr ((sF (dT (dT PyData.int))) net_here_), none, tr ((sF (dT PyData.int)) x1)], [(sL (sF PyData.int)) v1.2, (sF (dT (dT PyData.int))) net_here_]⟩) (q_isL (q_fzs (q_fnr (R := [.a 0]) (q_cons (q_va (i := 0) (j := 0) rfl rfl) (q_cons (q_callB (q_cons (q_vf (d := (dT PyData.int) x1) rfl) q_nil st_sv tr_sv) (trs_cons tr_sv trs_nil) (gLen_l len_T)) q_nil st_sv tr_sv) st_pk (tr_pk rfl)) (trs_cons (tr_pk rfl) (trs_cons tr_sv trs_nil)) rfl (by decide) (q_t__law_order h1) (pb_pk rfl (pb_sv pb_nil))) ((frz_L frz_F) v1.1))) h3 rfl (fun x2 y hy => by obtain ⟨v2, h2, hy⟩ := R.bind_ok hy; obtain rfl := R.inj hy; exact ⟨⟨[ar 0, tr ((sF (dT (dT PyData.int))) net_here_), tr ((sF PyData.int) x2), tr ((sF (dT PyData.int)) x1)], [(sL (sF PyData.int)) v1.2, (sF (dT (dT PyData.int))) net_here_]⟩, _, rfl, (q_fzs (q_ix (q_vf (d := (dT PyData.int) x1) rfl) (q_vf (d := PyData.int x2) rfl) st_sv tr_sv tr_sv (gIx_T h2)) frz_fz), rfl⟩) rfl) q_nil st_sv tr_sv) (trs_cons tr_sv trs_nil) (gTup_l sql_F)), rfl⟩) (by rintro _ rfl; rfl)) q_nil st_sv tr_sv) (trs_cons tr_sv trs_nil) (gTup_l sql_F))) (.inl rfl)
def t__law_other (bag_here_ : (List Int)) (net_here_ : (List (List Int))) : R ((List (List Int)) × (List Int)) := (t__law_take bag_here_ (8 : Int)).bind fun v1 => (t__law_take v1.2 (net_here_.length : Int)).bind fun v2 => (t__law_take v2.2 (net_here_.length : Int)).bind fun v3 => (t__law_turned v3.2 net_here_).bind fun v4 => if (decide (v1.1 = (1 : Int))) = true then ((ixR v4.1 v2.1).bind fun v5 => (catR ([v3.1] : (List Int)) (cutL v5 (some (1 : Int)) none)).bind fun v6 => (catR (cutL v4.1 none (some v2.1)) ([v6] : (List (List Int)))).bind fun v7 => (catR v7 (cutL v4.1 (some (v2.1 + (1 : Int))) none)).bind fun v8 => R.ok (v8, v4.2)) else (if (decide (v1.1 = (2 : Int))) = true then ((ixR v4.1 v3.1).bind fun v9 => (ixR v4.1 v2.1).bind fun v10 => (setR v4.1 v2.1 ((v9, v10).1)).bind fun v11 => (setR v11 v3.1 ((v9, v10).2)).bind fun v12 => R.ok (v12, v4.2)) else (if (decide (v1.1 = (3 : Int))) = true then ((catR v4.1 v4.1).bind fun v13 => R.ok ((cutL v13 none (some (9 : Int))), v4.2)) else (if (decide (v1.1 = (4 : Int))) = true then ((lcR v4.1 fun (x1 : (List Int)) => (catR x1 x1).bind fun v14 => R.ok (cutL v14 none (some (3 : Int)))).bind fun v15 => R.ok (v15, v4.2)) else (if (decide (v1.1 = (5 : Int))) = true then ((lcR v4.1 fun (x2 : (List Int)) => R.ok (cutL x2 none (some (2 : Int)))).bind fun v16 => R.ok (v16, v4.2)) else (if (decide (v1.1 = (6 : Int))) = true then ((t__law_net v4.2 (9 : Int)).bind fun v17 => R.ok (v17.1, v17.2)) else (R.ok (v4.1, v4.2)))))))
theorem q_t__law_other {bag_here_ : (List Int)} {net_here_ : (List (List Int))} {out : ((List (List Int)) × (List Int))} (h : t__law_other bag_here_ net_here_ = .ok out) : m__law_other [(sL (sF PyData.int)) bag_here_, (sF (dT (dT PyData.int))) net_here_] = .ret ((sF (dT (dT PyData.int))) out.1) [(sL (sF PyData.int)) out.2, (sF (dT (dT PyData.int))) net_here_] := by
 unfold t__law_other at h
 refine runFn_fin ⟨rfl, by decide⟩ ?_
 show Sim (b__law_other ⟨[ar 0, tr ((sF (dT (dT PyData.int))) net_here_), none, none, none, none, none, none], [(sL (sF PyData.int)) bag_here_, (sF (dT (dT PyData.int))) net_here_]⟩) _
 unfold b__law_other
 obtain ⟨v1, h1, h⟩ := R.bind_ok h
 refine sim_seq (S1 := ⟨[ar 0, tr ((sF (dT (dT PyData.int))) net_here_), tr ((sF PyData.int) v1.1), none, none, none, none, none], [(sL (sF PyData.int)) v1.2, (sF (dT (dT PyData.int))) net_here_]⟩) (q_asg (q_fnr (R := [.a 0]) (q_cons (q_va (i := 0) (j := 0) rfl rfl) (q_cons q_c q_nil st_sv tr_sv) st_pk (tr_pk rfl)) (trs_cons (tr_pk rfl) (trs_cons tr_sv trs_nil)) rfl (by decide) (q_t__law_take h1) (pb_pk rfl (pb_sv pb_nil))) rfl) ?_
 obtain ⟨v2, h2, h⟩ := R.bind_ok h
 refine sim_seq (S1 := ⟨[ar 0, tr ((sF (dT (dT PyData.int))) net_here_), tr ((sF PyData.int) v1.1), tr ((sF PyData.int) v2.1), none, none, none, none], [(sL (sF PyData.int)) v2.2, (sF (dT (dT PyData.int))) net_here_]⟩) (q_asg (q_fnr (R := [.a 0]) (q_cons (q_va (i := 0) (j := 0) rfl rfl) (q_cons (q_callB (q_cons (q_vf (d := (dT (dT PyData.int)) net_here_) rfl) q_nil st_sv tr_sv) (trs_cons tr_sv trs_nil) (gLen_l len_T)) q_nil st_sv tr_sv) st_pk (tr_pk rfl)) (trs_cons (tr_pk rfl) (trs_cons tr_sv trs_nil)) rfl (by decide) (q_t__law_take h2) (pb_pk rfl (pb_sv pb_nil))) rfl) ?_
 obtain ⟨v3, h3, h⟩ := R.bind_ok h
 refine sim_seq (S1 := ⟨[ar 0, tr ((sF (dT (dT PyData.int))) net_here_), tr ((sF PyData.int) v1.1), tr ((sF PyData.int) v2.1), tr ((sF PyData.int) v3.1), none, none, none], [(sL (sF PyData.int)) v3.2, (sF (dT (dT PyData.int))) net_here_]⟩) (q_asg (q_fnr (R := [.a 0]) (q_cons (q_va (i := 0) (j := 0) rfl rfl) (q_cons (q_callB (q_cons (q_vf (d := (dT (dT PyData.int)) net_here_) rfl) q_nil st_sv tr_sv) (trs_cons tr_sv trs_nil) (gLen_l len_T)) q_nil st_sv tr_sv) st_pk (tr_pk rfl)) (trs_cons (tr_pk rfl) (trs_cons tr_sv trs_nil)) rfl (by decide) (q_t__law_take h3) (pb_pk rfl (pb_sv pb_nil))) rfl) ?_
 obtain ⟨v4, h4, h⟩ := R.bind_ok h
 refine sim_seq (S1 := ⟨[ar 0, tr ((sF (dT (dT PyData.int))) net_here_), tr ((sF PyData.int) v1.1), tr ((sF PyData.int) v2.1), tr ((sF PyData.int) v3.1), tr ((sF (dT (dT PyData.int))) v4.1), none, none], [(sL (sF PyData.int)) v4.2, (sF (dT (dT PyData.int))) net_here_]⟩) (q_asg (q_fnr (R := [.a 0]) (q_cons (q_va (i := 0) (j := 0) rfl rfl) (q_cons (q_vf (d := (dT (dT PyData.int)) net_here_) rfl) q_nil st_sv tr_sv) st_pk (tr_pk rfl)) (trs_cons (tr_pk rfl) (trs_cons tr_sv trs_nil)) rfl (by decide) (q_t__law_turned h4) (pb_pk rfl (pb_sv pb_nil))) rfl) ?_
 refine sim_mid ?_
 refine sim_if (q_tv (q_op2 (q_vf (d := PyData.int v1.1) rfl) q_c st_sv tr_sv tr_sv (gEq_v (x := v1.1) (y := (1 : Int)) fai_i vw_fz vw_fz (sha_ok sha_i (by decide) _) (sha_ok sha_i (by decide) _))) tr_sv) (fun hb => ?_) (fun hb => ?_)
 ·replace h := ite_t hb h
  obtain ⟨v5, h5, h⟩ := R.bind_ok h
  obtain ⟨v6, h6, h⟩ := R.bind_ok h
  obtain ⟨v7, h7, h⟩ := R.bind_ok h
  obtain ⟨v8, h8, h⟩ := R.bind_ok h
  obtain rfl := R.inj h
  exact sim_ret (q_ret (q_op2 (q_op2 (q_sl (q_vf (d := (dT (dT PyData.int)) v4.1) rfl) q_pno (q_pat (q_vf (d := PyData.int v2.1) rfl)) st_sv tr_sv gSl_t) (q_tupE (d := (dT (dT PyData.int)) ([v6] : (List (List Int)))) (q_cons (q_fzs (q_op2 (q_tupE (d := (dT PyData.int) ([v3.1] : (List Int))) (q_cons (q_fzs (q_vf (d := PyData.int v3.1) rfl) frz_fz) q_nil st_sv tr_sv) rfl (Nat.le_of_ble_eq_true rfl) rfl) (q_sl (q_ix (q_vf (d := (dT (dT PyData.int)) v4.1) rfl) (q_vf (d := PyData.int v2.1) rfl) st_sv tr_sv tr_sv (gIx_T h5)) (q_pat q_c) q_pno st_sv tr_sv gSl_t) st_sv tr_sv tr_sv (gAdd_t h6)) frz_fz) q_nil st_sv tr_sv) rfl (Nat.le_of_ble_eq_true rfl) rfl) st_sv tr_sv tr_sv (gAdd_t h7)) (q_sl (q_vf (d := (dT (dT PyData.int)) v4.1) rfl) (q_pat (q_op2 (q_vf (d := PyData.int v2.1) rfl) q_c st_sv tr_sv tr_sv gAdd_i)) q_pno st_sv tr_sv gSl_t) st_sv tr_sv tr_sv (gAdd_t h8))) (mid_rt (.inl rfl))
 ·replace h := ite_f hb h
  refine sim_last (S1 := ⟨[ar 0, tr ((sF (dT (dT PyData.int))) net_here_), tr ((sF PyData.int) v1.1), tr ((sF PyData.int) v2.1), tr ((sF PyData.int) v3.1), tr ((sF (dT (dT PyData.int))) v4.1), none, none], [(sL (sF PyData.int)) v4.2, (sF (dT (dT PyData.int))) net_here_]⟩) rfl ?_
  refine mid_nx ?_
  refine sim_mid ?_
  refine sim_if (q_tv (q_op2 (q_vf (d := PyData.int v1.1) rfl) q_c st_sv tr_sv tr_sv (gEq_v (x := v1.1) (y := (2 : Int)) fai_i vw_fz vw_fz (sha_ok sha_i (by decide) _) (sha_ok sha_i (by decide) _))) tr_sv) (fun hb => ?_) (fun hb => ?_)
  ·replace h := ite_t hb h
   refine sim_seq (S1 := ⟨[ar 0, tr ((sF (dT (dT PyData.int))) net_here_), tr ((sF PyData.int) v1.1), tr ((sF PyData.int) v2.1), tr ((sF PyData.int) v3.1), tr ((sF (dT (dT PyData.int))) v4.1), tr ((sL (sF (dT PyData.int))) v4.1), none], [(sL (sF PyData.int)) v4.2, (sF (dT (dT PyData.int))) net_here_]⟩) (q_asg (q_callB (q_cons (q_vf (d := (dT (dT PyData.int)) v4.1) rfl) q_nil st_sv tr_sv) (trs_cons tr_sv trs_nil) (gList_l sqs_T)) rfl) ?_
   obtain ⟨v9, h9, h⟩ := R.bind_ok h
   obtain ⟨v10, h10, h⟩ := R.bind_ok h
   obtain ⟨v11, h11, h⟩ := R.bind_ok h
   obtain ⟨v12, h12, h⟩ := R.bind_ok h
   refine sim_seq (S1 := ⟨[ar 0, tr ((sF (dT (dT PyData.int))) net_here_), tr ((sF PyData.int) v1.1), tr ((sF PyData.int) v2.1), tr ((sF PyData.int) v3.1), tr ((sF (dT (dT PyData.int))) v4.1), tr ((sL (sF (dT PyData.int))) v12), none], [(sL (sF PyData.int)) v4.2, (sF (dT (dT PyData.int))) net_here_]⟩) (q_asg (q_tupE (d := (dP (dT PyData.int) (dT PyData.int)) (v9, v10)) (q_cons (q_fzs (q_ix (q_vl (i := 6) rfl) (q_vf (d := PyData.int v3.1) rfl) st_pk (tr_pk rfl) tr_sv (gIx_F h9)) frz_fz) (q_cons (q_fzs (q_ix (q_vl (i := 6) rfl) (q_vf (d := PyData.int v2.1) rfl) st_pk (tr_pk rfl) tr_sv (gIx_F h10)) frz_fz) q_nil st_sv tr_sv) st_sv tr_sv) rfl (Nat.le_of_ble_eq_true rfl) rfl) (q_gtup2 (c := (dT PyData.int)) (e := (dT PyData.int)) (x := (v9, v10)) (q_st (q_vl (i := 6) rfl) (q_vf (d := PyData.int v2.1) rfl) tr_sv rfl (gSetIx_ok (en := (sF (dT PyData.int))) h11)) (q_st (q_vl (i := 6) rfl) (q_vf (d := PyData.int v3.1) rfl) tr_sv rfl (gSetIx_ok (en := (sF (dT PyData.int))) h12)))) ?_
   obtain rfl := R.inj h
   exact sim_ret (q_ret (q_callB (q_cons (q_fzp (q_vl (i := 6) rfl) rfl ((frz_L frz_F) v12)) q_nil st_sv tr_sv) (trs_cons tr_sv trs_nil) (gTup_l sql_L))) (mid_rt (.inl rfl))
  ·replace h := ite_f hb h
   refine sim_last (S1 := ⟨[ar 0, tr ((sF (dT (dT PyData.int))) net_here_), tr ((sF PyData.int) v1.1), tr ((sF PyData.int) v2.1), tr ((sF PyData.int) v3.1), tr ((sF (dT (dT PyData.int))) v4.1), none, none], [(sL (sF PyData.int)) v4.2, (sF (dT (dT PyData.int))) net_here_]⟩) rfl ?_
   refine mid_nx ?_
   refine sim_mid ?_
   refine sim_if (q_tv (q_op2 (q_vf (d := PyData.int v1.1) rfl) q_c st_sv tr_sv tr_sv (gEq_v (x := v1.1) (y := (3 : Int)) fai_i vw_fz vw_fz (sha_ok sha_i (by decide) _) (sha_ok sha_i (by decide) _))) tr_sv) (fun hb => ?_) (fun hb => ?_)
   ·replace h := ite_t hb h
    obtain ⟨v13, h13, h⟩ := R.bind_ok h
    obtain rfl := R.inj h
    exact sim_ret (q_ret (q_sl (q_op2 (q_vf (d := (dT (dT PyData.int)) v4.1) rfl) (q_vf (d := (dT (dT PyData.int)) v4.1) rfl) st_sv tr_sv tr_sv (gAdd_t h13)) q_pno (q_pat q_c) st_sv tr_sv gSl_t)) (mid_rt (.inl rfl))
   ·replace h := ite_f hb h
    refine sim_last (S1 := ⟨[ar 0, tr ((sF (dT (dT PyData.int))) net_here_), tr ((sF PyData.int) v1.1), tr ((sF PyData.int) v2.1), tr ((sF PyData.int) v3.1), tr ((sF (dT (dT PyData.int))) v4.1), none, none], [(sL (sF PyData.int)) v4.2, (sF (dT (dT PyData.int))) net_here_]⟩) rfl ?_
    refine mid_nx ?_
    refine sim_mid ?_
    refine sim_if (q_tv (q_op2 (q_vf (d := PyData.int v1.1) rfl) q_c st_sv tr_sv tr_sv (gEq_v (x := v1.1) (y := (4 : Int)) fai_i vw_fz vw_fz (sha_ok sha_i (by decide) _) (sha_ok sha_i (by decide) _))) tr_sv) (fun hb => ?_) (fun hb => ?_)
    ·replace h := ite_t hb h
     obtain ⟨v15, h15, h⟩ := R.bind_ok h
     obtain rfl := R.inj h
     exact sim_ret (q_ret (q_callB (q_cons (q_lc (vs := [7]) (en := (dT PyData.int)) (eo := (sF (dT PyData.int))) (Sk := ⟨[ar 0, tr ((sF (dT (dT PyData.int))) net_here_), tr ((sF PyData.int) v1.1), tr ((sF PyData.int) v2.1), tr ((sF PyData.int) v3.1), tr ((sF (dT (dT PyData.int))) v4.1), none, none], [(sL (sF PyData.int)) v4.2, (sF (dT (dT PyData.int))) net_here_]⟩) (q_isT (q_fzs (q_vf (d := (dT (dT PyData.int)) v4.1) rfl) frz_fz)) h15 rfl (fun x1 y hy => by obtain ⟨v14, h14, hy⟩ := R.bind_ok hy; obtain rfl := R.inj hy; exact ⟨⟨[ar 0, tr ((sF (dT (dT PyData.int))) net_here_), tr ((sF PyData.int) v1.1), tr ((sF PyData.int) v2.1), tr ((sF PyData.int) v3.1), tr ((sF (dT (dT PyData.int))) v4.1), none, tr ((sF (dT PyData.int)) x1)], [(sL (sF PyData.int)) v4.2, (sF (dT (dT PyData.int))) net_here_]⟩, _, rfl, (q_sl (q_op2 (q_vf (d := (dT PyData.int) x1) rfl) (q_vf (d := (dT PyData.int) x1) rfl) st_sv tr_sv tr_sv (gAdd_t h14)) q_pno (q_pat q_c) st_sv tr_sv gSl_t), rfl⟩) rfl) q_nil st_sv tr_sv) (trs_cons tr_sv trs_nil) (gTup_l sql_F))) (mid_rt (.inl rfl))
    ·replace h := ite_f hb h
     refine sim_last (S1 := ⟨[ar 0, tr ((sF (dT (dT PyData.int))) net_here_), tr ((sF PyData.int) v1.1), tr ((sF PyData.int) v2.1), tr ((sF PyData.int) v3.1), tr ((sF (dT (dT PyData.int))) v4.1), none, none], [(sL (sF PyData.int)) v4.2, (sF (dT (dT PyData.int))) net_here_]⟩) rfl ?_
     refine mid_nx ?_
     refine sim_mid ?_
     refine sim_if (q_tv (q_op2 (q_vf (d := PyData.int v1.1) rfl) q_c st_sv tr_sv tr_sv (gEq_v (x := v1.1) (y := (5 : Int)) fai_i vw_fz vw_fz (sha_ok sha_i (by decide) _) (sha_ok sha_i (by decide) _))) tr_sv) (fun hb => ?_) (fun hb => ?_)
     ·replace h := ite_t hb h
      obtain ⟨v16, h16, h⟩ := R.bind_ok h
      obtain rfl := R.inj h
      exact sim_ret (q_ret (q_callB (q_cons (q_lc (vs := [7]) (en := (dT PyData.int)) (eo := (sF (dT PyData.int))) (Sk := ⟨[ar 0, tr ((sF (dT (dT PyData.int))) net_here_), tr ((sF PyData.int) v1.1), tr ((sF PyData.int) v2.1), tr ((sF PyData.int) v3.1), tr ((sF (dT (dT PyData.int))) v4.1), none, none], [(sL (sF PyData.int)) v4.2, (sF (dT (dT PyData.int))) net_here_]⟩) (q_isT (q_fzs (q_vf (d := (dT (dT PyData.int)) v4.1) rfl) frz_fz)) h16 rfl (fun x2 y hy => by obtain rfl := R.inj hy; exact ⟨⟨[ar 0, tr ((sF (dT (dT PyData.int))) net_here_), tr ((sF PyData.int) v1.1), tr ((sF PyData.int) v2.1), tr ((sF PyData.int) v3.1), tr ((sF (dT (dT PyData.int))) v4.1), none, tr ((sF (dT PyData.int)) x2)], [(sL (sF PyData.int)) v4.2, (sF (dT (dT PyData.int))) net_here_]⟩, _, rfl, (q_sl (q_vf (d := (dT PyData.int) x2) rfl) q_pno (q_pat q_c) st_sv tr_sv gSl_t), rfl⟩) rfl) q_nil st_sv tr_sv) (trs_cons tr_sv trs_nil) (gTup_l sql_F))) (mid_rt (.inl rfl))
     ·replace h := ite_f hb h
      refine sim_last (S1 := ⟨[ar 0, tr ((sF (dT (dT PyData.int))) net_here_), tr ((sF PyData.int) v1.1), tr ((sF PyData.int) v2.1), tr ((sF PyData.int) v3.1), tr ((sF (dT (dT PyData.int))) v4.1), none, none], [(sL (sF PyData.int)) v4.2, (sF (dT (dT PyData.int))) net_here_]⟩) rfl ?_
      refine mid_nx ?_
      refine sim_mid ?_
      refine sim_if (q_tv (q_op2 (q_vf (d := PyData.int v1.1) rfl) q_c st_sv tr_sv tr_sv (gEq_v (x := v1.1) (y := (6 : Int)) fai_i vw_fz vw_fz (sha_ok sha_i (by decide) _) (sha_ok sha_i (by decide) _))) tr_sv) (fun hb => ?_) (fun hb => ?_)
      ·replace h := ite_t hb h
       obtain ⟨v17, h17, h⟩ := R.bind_ok h
       obtain rfl := R.inj h
       exact sim_ret (q_ret (q_fnr (R := [.a 0]) (q_cons (q_va (i := 0) (j := 0) rfl rfl) (q_cons q_c q_nil st_sv tr_sv) st_pk (tr_pk rfl)) (trs_cons (tr_pk rfl) (trs_cons tr_sv trs_nil)) rfl (by decide) (q_t__law_net h17) (pb_pk rfl (pb_sv pb_nil)))) (mid_rt (.inl rfl))
      ·replace h := ite_f hb h
       refine sim_last (S1 := ⟨[ar 0, tr ((sF (dT (dT PyData.int))) net_here_), tr ((sF PyData.int) v1.1), tr ((sF PyData.int) v2.1), tr ((sF PyData.int) v3.1), tr ((sF (dT (dT PyData.int))) v4.1), none, none], [(sL (sF PyData.int)) v4.2, (sF (dT (dT PyData.int))) net_here_]⟩) rfl ?_
       refine mid_nx ?_
       obtain rfl := R.inj h
       exact sim_ret (q_ret (q_mvs (q_vf (d := (dT (dT PyData.int)) v4.1) rfl))) (.inl rfl)
def t__law_same_2_L1 (one_ : (List (List Int))) (other_here_ : (List (List Int))) (s : Unit) (x : ((List Int) × (List Int))) : R (Ctl (Bool) Unit) := (rngR 0 (one_.length : Int)).bind fun v4 => (lcR v4 fun (x2 : Int) => R.ok ((x.1.count x2 : Nat) : Int)).bind fun v5 => (rngR 0 (one_.length : Int)).bind fun v6 => (lcR v6 fun (x3 : Int) => R.ok ((x.2.count x3 : Nat) : Int)).bind fun v7 => if (!(decide (v5 = v7))) = true then (R.ok (Ctl.rt false)) else (R.ok (Ctl.nx ()))
def st__law_same_2_L1 (one_ : (List (List Int))) (other_here_ : (List (List Int))) (s : Unit) (S : DS) : Prop := ∃ w1 w2 : Option Sl, S = ⟨[tr ((sF (dT (dT PyData.int))) one_), tr ((sF (dT (dT PyData.int))) other_here_), w1, w2, none], [(sF (dT (dT PyData.int))) one_, (sF (dT (dT PyData.int))) other_here_]⟩
theorem q_t__law_same_2_L1 {one_ : (List (List Int))} {other_here_ : (List (List Int))} : ∀ (s : Unit) (x : ((List Int) × (List Int))) (c : Ctl (Bool) Unit) (S : DS), st__law_same_2_L1 one_ other_here_ s S → t__law_same_2_L1 one_ other_here_ s x = .ok c → ∃ S1, (gTupL [(gSet 2), (gSet 3)]) (.fz ((dP (dT PyData.int) (dT PyData.int)) x)) S = .nx S1 ∧ Sim (f3__law_same_2 S1) (CtlP (st__law_same_2_L1 one_ other_here_) (fun z t A => t = (sF PyData.bool) z ∧ A = [(sF (dT (dT PyData.int))) one_, (sF (dT (dT PyData.int))) other_here_]) c) := by
 rintro s x c _ ⟨w1, w2, rfl⟩ h
 unfold t__law_same_2_L1 at h
 refine ⟨⟨[tr ((sF (dT (dT PyData.int))) one_), tr ((sF (dT (dT PyData.int))) other_here_), tr ((sF (dT PyData.int)) x.1), tr ((sF (dT PyData.int)) x.2), none], [(sF (dT (dT PyData.int))) one_, (sF (dT (dT PyData.int))) other_here_]⟩, rfl, ?_⟩
 unfold f3__law_same_2
 obtain ⟨v4, h4, h⟩ := R.bind_ok h
 obtain ⟨v5, h5, h⟩ := R.bind_ok h
 obtain ⟨v6, h6, h⟩ := R.bind_ok h
 obtain ⟨v7, h7, h⟩ := R.bind_ok h
 refine sim_if (q_tv (q_op2 (q_lc (vs := [4]) (en := PyData.int) (eo := (sF PyData.int)) (Sk := ⟨[tr ((sF (dT (dT PyData.int))) one_), tr ((sF (dT (dT PyData.int))) other_here_), tr ((sF (dT PyData.int)) x.1), tr ((sF (dT PyData.int)) x.2), none], [(sF (dT (dT PyData.int))) one_, (sF (dT (dT PyData.int))) other_here_]⟩) (q_ir1 (q_cons (q_callB (q_cons (q_vf (d := (dT (dT PyData.int)) one_) rfl) q_nil st_sv tr_sv) (trs_cons tr_sv trs_nil) (gLen_l len_T)) q_nil st_sv tr_sv) h4) h5 rfl (fun x2 y hy => by obtain rfl := R.inj hy; exact ⟨⟨[tr ((sF (dT (dT PyData.int))) one_), tr ((sF (dT (dT PyData.int))) other_here_), tr ((sF (dT PyData.int)) x.1), tr ((sF (dT PyData.int)) x.2), tr ((sF PyData.int) x2)], [(sF (dT (dT PyData.int))) one_, (sF (dT (dT PyData.int))) other_here_]⟩, _, rfl, (q_metT (q_vf (d := (dT PyData.int) x.1) rfl) (q_cons (q_vf (d := PyData.int x2) rfl) q_nil st_sv tr_sv) (trs_cons tr_sv trs_nil) (gCntT_v (x := x2) (xs := x.1) fai_i vw_fz vw_fz (sha_ok (sha_T sha_i) (by decide) _) (sha_ok sha_i (by decide) _))), rfl⟩) rfl) (q_lc (vs := [4]) (en := PyData.int) (eo := (sF PyData.int)) (Sk := ⟨[tr ((sF (dT (dT PyData.int))) one_), tr ((sF (dT (dT PyData.int))) other_here_), tr ((sF (dT PyData.int)) x.1), tr ((sF (dT PyData.int)) x.2), none], [(sF (dT (dT PyData.int))) one_, (sF (dT (dT PyData.int))) other_here_]⟩) (q_ir1 (q_cons (q_callB (q_cons (q_vf (d := (dT (dT PyData.int)) one_) rfl) q_nil st_sv tr_sv) (trs_cons tr_sv trs_nil) (gLen_l len_T)) q_nil st_sv tr_sv) h6) h7 rfl (fun x3 y hy => by obtain rfl := R.inj hy; exact ⟨⟨[tr ((sF (dT (dT PyData.int))) one_), tr ((sF (dT (dT PyData.int))) other_here_), tr ((sF (dT PyData.int)) x.1), tr ((sF (dT PyData.int)) x.2), tr ((sF PyData.int) x3)], [(sF (dT (dT PyData.int))) one_, (sF (dT (dT PyData.int))) other_here_]⟩, _, rfl, (q_metT (q_vf (d := (dT PyData.int) x.2) rfl) (q_cons (q_vf (d := PyData.int x3) rfl) q_nil st_sv tr_sv) (trs_cons tr_sv trs_nil) (gCntT_v (x := x3) (xs := x.2) fai_i vw_fz vw_fz (sha_ok (sha_T sha_i) (by decide) _) (sha_ok sha_i (by decide) _))), rfl⟩) rfl) st_sv tr_sv tr_sv (gNe_v (x := v5) (y := v7) (fai_L fai_i) (vw_L frz_F) (vw_L frz_F) (sha_ok (sha_L sha_i) (by decide) _) (sha_ok (sha_L sha_i) (by decide) _))) tr_sv) (fun hb => ?_) (fun hb => ?_)
 ·replace h := ite_t hb h
  obtain rfl := R.inj h
  exact sim_ret (q_ret q_c) ⟨_, _, rfl, rfl, rfl⟩
 ·replace h := ite_f hb h
  refine sim_last (S1 := ⟨[tr ((sF (dT (dT PyData.int))) one_), tr ((sF (dT (dT PyData.int))) other_here_), tr ((sF (dT PyData.int)) x.1), tr ((sF (dT PyData.int)) x.2), none], [(sF (dT (dT PyData.int))) one_, (sF (dT (dT PyData.int))) other_here_]⟩) rfl ?_
  obtain rfl := R.inj h
  exact ⟨_, .inl rfl, ⟨_, _, rfl⟩⟩
def t__law_same_2 (one_ : (List (List Int))) (other_here_ : (List (List Int))) : R (Bool) := (if (!(decide ((one_.length : Int) = (other_here_.length : Int)))) = true then R.ok true else ((ixR one_ (0 : Int)).bind fun v1 => (ixR other_here_ (0 : Int)).bind fun v2 => R.ok (!(decide ((v1.length : Int) = (v2.length : Int)))))).bind fun v3 => if v3 = true then (R.ok false) else ((forC (t__law_same_2_L1 one_ other_here_) (one_.zip other_here_) ()).bind fun (r8 : Ctl (Bool) Unit) => r8.elim (fun s1 => R.ok true) (fun z1 => R.ok z1))
theorem q_t__law_same_2 {one_ : (List (List Int))} {other_here_ : (List (List Int))} {out : (Bool)} (h : t__law_same_2 one_ other_here_ = .ok out) : m__law_same_2 [(sF (dT (dT PyData.int))) one_, (sF (dT (dT PyData.int))) other_here_] = .ret ((sF PyData.bool) out) [(sF (dT (dT PyData.int))) one_, (sF (dT (dT PyData.int))) other_here_] := by
 unfold t__law_same_2 at h
 refine runFn_fin ⟨rfl, by decide⟩ ?_
 show Sim (b__law_same_2 ⟨[tr ((sF (dT (dT PyData.int))) one_), tr ((sF (dT (dT PyData.int))) other_here_), none, none, none], [(sF (dT (dT PyData.int))) one_, (sF (dT (dT PyData.int))) other_here_]⟩) _
 unfold b__law_same_2
 obtain ⟨v3, h3, h⟩ := R.bind_ok h
 refine sim_mid ?_
 refine sim_if (q_lor (q_tv (q_op2 (q_callB (q_cons (q_vf (d := (dT (dT PyData.int)) one_) rfl) q_nil st_sv tr_sv) (trs_cons tr_sv trs_nil) (gLen_l len_T)) (q_callB (q_cons (q_vf (d := (dT (dT PyData.int)) other_here_) rfl) q_nil st_sv tr_sv) (trs_cons tr_sv trs_nil) (gLen_l len_T)) st_sv tr_sv tr_sv (gNe_v (x := (one_.length : Int)) (y := (other_here_.length : Int)) fai_i vw_fz vw_fz (sha_ok sha_i (by decide) _) (sha_ok sha_i (by decide) _))) tr_sv) (fun hb => by have g := ite_f hb h3; obtain ⟨v1, h1, g⟩ := R.bind_ok g; obtain ⟨v2, h2, g⟩ := R.bind_ok g; obtain rfl := R.inj g; exact (q_tv (q_op2 (q_callB (q_cons (q_ix (q_vf (d := (dT (dT PyData.int)) one_) rfl) q_c st_sv tr_sv tr_sv (gIx_T h1)) q_nil st_sv tr_sv) (trs_cons tr_sv trs_nil) (gLen_l len_T)) (q_callB (q_cons (q_ix (q_vf (d := (dT (dT PyData.int)) other_here_) rfl) q_c st_sv tr_sv tr_sv (gIx_T h2)) q_nil st_sv tr_sv) (trs_cons tr_sv trs_nil) (gLen_l len_T)) st_sv tr_sv tr_sv (gNe_v (x := (v1.length : Int)) (y := (v2.length : Int)) fai_i vw_fz vw_fz (sha_ok sha_i (by decide) _) (sha_ok sha_i (by decide) _))) tr_sv)) (fun hb => (R.inj (ite_t hb h3)).symm)) (fun hb => ?_) (fun hb => ?_)
 ·replace h := ite_t hb h
  obtain rfl := R.inj h
  exact sim_ret (q_ret q_c) (mid_rt (.inl rfl))
 ·replace h := ite_f hb h
  refine sim_last (S1 := ⟨[tr ((sF (dT (dT PyData.int))) one_), tr ((sF (dT (dT PyData.int))) other_here_), none, none, none], [(sF (dT (dT PyData.int))) one_, (sF (dT (dT PyData.int))) other_here_]⟩) rfl ?_
  refine mid_nx ?_
  obtain ⟨r8, h8, h⟩ := R.bind_ok h
  have q1 := loop_cases (for_c (en := (dP (dT PyData.int) (dT PyData.int))) q_t__law_same_2_L1 _ _ _ _ (show st__law_same_2_L1 one_ other_here_ () ⟨[tr ((sF (dT (dT PyData.int))) one_), tr ((sF (dT (dT PyData.int))) other_here_), none, none, none], [(sF (dT (dT PyData.int))) one_, (sF (dT (dT PyData.int))) other_here_]⟩ from ⟨_, _, rfl⟩) h8)
  rcases q1 with ⟨s1, _, ec, e1, o1, o2, rfl⟩ | ⟨z1, t1, A1, ec, e1, q1⟩
  ·replace h := (ec _ _).symm.trans h
   refine sim_seq ((forI (q_zipT (q_cons (q_fzs (q_vf (d := (dT (dT PyData.int)) one_) rfl) frz_fz) (q_cons (q_fzs (q_vf (d := (dT (dT PyData.int)) other_here_) rfl) frz_fz) q_nil st_sv tr_sv) st_sv tr_sv))).trans e1) ?_
   obtain rfl := R.inj h
   exact sim_ret (q_ret q_c) (.inl rfl)
  ·replace h := (ec _ _).symm.trans h
   obtain rfl := R.inj h
   obtain ⟨rfl, rfl⟩ := q1
   exact sim_rt ((forI (q_zipT (q_cons (q_fzs (q_vf (d := (dT (dT PyData.int)) one_) rfl) frz_fz) (q_cons (q_fzs (q_vf (d := (dT (dT PyData.int)) other_here_) rfl) frz_fz) q_nil st_sv tr_sv) st_sv tr_sv))).trans e1) (.inl rfl)
def t_law_86_L2 (script_ : (List Int)) (k_2 : Int) (net_here_2 : (List (List Int))) (s : ((List Int))) (x : Int) : R (Ctl (Bool) ((List Int))) := (t__law_other s net_here_2).bind fun v5 => (t__law_same_2 net_here_2 v5.1).bind fun v6 => (t_same_roads net_here_2 v5.1).bind fun v7 => (t_same_roads v5.1 net_here_2).bind fun v8 => (if (!(decide (([v7, v8] : (List Bool)) = ([v6, v6] : (List Bool))))) = true then R.ok true else ((ixR ([v7, v8] : (List Bool)) (0 : Int)).bind fun v9 => (if false = true then R.ok true else ((ixR ([v7, v8] : (List Bool)) (1 : Int)).bind fun v10 => R.ok false)).bind fun v11 => R.ok v11)).bind fun v12 => if v12 = true then (R.ok (Ctl.rt false)) else (R.ok (Ctl.nx (v5.2)))
def st_law_86_L2 (script_ : (List Int)) (k_2 : Int) (net_here_2 : (List (List Int))) (s : ((List Int))) (S : DS) : Prop := ∃ w1 w2 w3 w4 : Option Sl, S = ⟨[tr ((sR (dL PyData.int)) script_), tr ((sF PyData.int) k_2), tr ((sL (sF PyData.int)) s), tr ((sF (dT (dT PyData.int))) net_here_2), w1, w2, w3, w4], [(sR (dL PyData.int)) script_]⟩
theorem q_t_law_86_L2 {script_ : (List Int)} {k_2 : Int} {net_here_2 : (List (List Int))} : ∀ (s : ((List Int))) (x : Int) (c : Ctl (Bool) ((List Int))) (S : DS), st_law_86_L2 script_ k_2 net_here_2 s S → t_law_86_L2 script_ k_2 net_here_2 s x = .ok c → ∃ S1, (gSet 4) (.fz (PyData.int x)) S = .nx S1 ∧ Sim (f1_law_86 S1) (CtlP (st_law_86_L2 script_ k_2 net_here_2) (fun z t A => t = (sF PyData.bool) z ∧ A = [(sR (dL PyData.int)) script_]) c) := by
 rintro s x c _ ⟨w1, w2, w3, w4, rfl⟩ h
 unfold t_law_86_L2 at h
 refine ⟨⟨[tr ((sR (dL PyData.int)) script_), tr ((sF PyData.int) k_2), tr ((sL (sF PyData.int)) s), tr ((sF (dT (dT PyData.int))) net_here_2), tr ((sF PyData.int) x), w2, w3, w4], [(sR (dL PyData.int)) script_]⟩, rfl, ?_⟩
 unfold f1_law_86
 obtain ⟨v5, h5, h⟩ := R.bind_ok h
 refine sim_seq (S1 := ⟨[tr ((sR (dL PyData.int)) script_), tr ((sF PyData.int) k_2), tr ((sL (sF PyData.int)) v5.2), tr ((sF (dT (dT PyData.int))) net_here_2), tr ((sF PyData.int) x), tr ((sF (dT (dT PyData.int))) v5.1), w3, w4], [(sR (dL PyData.int)) script_]⟩) (q_asg (q_fnr (R := [.s 2]) (q_cons (q_vl (i := 2) rfl) (q_cons (q_vf (d := (dT (dT PyData.int)) net_here_2) rfl) q_nil st_sv tr_sv) st_pk (tr_pk rfl)) (trs_cons (tr_pk rfl) (trs_cons tr_sv trs_nil)) rfl (by decide) (q_t__law_other h5) (pb_pk rfl (pb_sv pb_nil))) rfl) ?_
 obtain ⟨v6, h6, h⟩ := R.bind_ok h
 refine sim_seq (S1 := ⟨[tr ((sR (dL PyData.int)) script_), tr ((sF PyData.int) k_2), tr ((sL (sF PyData.int)) v5.2), tr ((sF (dT (dT PyData.int))) net_here_2), tr ((sF PyData.int) x), tr ((sF (dT (dT PyData.int))) v5.1), tr ((sF PyData.bool) v6), w4], [(sR (dL PyData.int)) script_]⟩) (q_asg (q_fnr (R := []) (q_cons (q_vf (d := (dT (dT PyData.int)) net_here_2) rfl) (q_cons (q_vf (d := (dT (dT PyData.int)) v5.1) rfl) q_nil st_sv tr_sv) st_sv tr_sv) (trs_cons tr_sv (trs_cons tr_sv trs_nil)) rfl (by decide) (q_t__law_same_2 h6) (pb_sv (pb_sv pb_nil))) rfl) ?_
 obtain ⟨v7, h7, h⟩ := R.bind_ok h
 obtain ⟨v8, h8, h⟩ := R.bind_ok h
 refine sim_seq (S1 := ⟨[tr ((sR (dL PyData.int)) script_), tr ((sF PyData.int) k_2), tr ((sL (sF PyData.int)) v5.2), tr ((sF (dT (dT PyData.int))) net_here_2), tr ((sF PyData.int) x), tr ((sF (dT (dT PyData.int))) v5.1), tr ((sF PyData.bool) v6), tr ((sL (sF PyData.bool)) ([v7, v8] : (List Bool)))], [(sR (dL PyData.int)) script_]⟩) (q_asg (q_lstE (en := (sF PyData.bool)) (xs := [v7, v8]) (q_cons (q_fnr (R := []) (q_cons (q_vf (d := (dT (dT PyData.int)) net_here_2) rfl) (q_cons (q_vf (d := (dT (dT PyData.int)) v5.1) rfl) q_nil st_sv tr_sv) st_sv tr_sv) (trs_cons tr_sv (trs_cons tr_sv trs_nil)) rfl (by decide) (q_t_same_roads h7) (pb_sv (pb_sv pb_nil))) (q_cons (q_fnr (R := []) (q_cons (q_vf (d := (dT (dT PyData.int)) v5.1) rfl) (q_cons (q_vf (d := (dT (dT PyData.int)) net_here_2) rfl) q_nil st_sv tr_sv) st_sv tr_sv) (trs_cons tr_sv (trs_cons tr_sv trs_nil)) rfl (by decide) (q_t_same_roads h8) (pb_sv (pb_sv pb_nil))) q_nil st_sv tr_sv) st_sv tr_sv) rfl (Nat.le_of_ble_eq_true rfl)) rfl) ?_
 obtain ⟨v12, h12, h⟩ := R.bind_ok h
 refine sim_if (q_lor (q_tv (q_op2 (q_vl (i := 7) rfl) (q_lstE (en := (sF PyData.bool)) (xs := [v6, v6]) (q_cons (q_fzs (q_vf (d := PyData.bool v6) rfl) frz_fz) (q_cons (q_fzs (q_vf (d := PyData.bool v6) rfl) frz_fz) q_nil st_sv tr_sv) st_sv tr_sv) rfl (Nat.le_of_ble_eq_true rfl)) st_pk (tr_pk rfl) tr_sv (gNe_v (x := ([v7, v8] : (List Bool))) (y := ([v6, v6] : (List Bool))) (fai_L fai_b) (vw_L frz_F) (vw_L frz_F) (sha_ok (sha_L sha_b) (by decide) _) (sha_ok (sha_L sha_b) (by decide) _))) tr_sv) (fun hb => by have g := ite_f hb h12; obtain ⟨v9, h9, g⟩ := R.bind_ok g; obtain ⟨v11, h11, g⟩ := R.bind_ok g; obtain rfl := R.inj g; exact (q_lor (q_lnot (q_tv (q_isi (t := ((sF PyData.bool) v9)) (q_ix (q_vl (i := 7) rfl) q_c st_pk (tr_pk rfl) tr_sv (gIx_F h9)) tr_sv rfl rfl) tr_sv)) (fun hb => by have g := ite_f hb h11; obtain ⟨v10, h10, g⟩ := R.bind_ok g; obtain rfl := R.inj g; exact (q_lnot (q_tv (q_isi (t := ((sF PyData.bool) v10)) (q_ix (q_vl (i := 7) rfl) q_c st_pk (tr_pk rfl) tr_sv (gIx_F h10)) tr_sv rfl rfl) tr_sv))) (fun hb => (R.inj (ite_t hb h11)).symm))) (fun hb => (R.inj (ite_t hb h12)).symm)) (fun hb => ?_) (fun hb => ?_)
 ·replace h := ite_t hb h
  obtain rfl := R.inj h
  exact sim_ret (q_ret q_c) ⟨_, _, rfl, rfl, rfl⟩
 ·replace h := ite_f hb h
  refine sim_last (S1 := ⟨[tr ((sR (dL PyData.int)) script_), tr ((sF PyData.int) k_2), tr ((sL (sF PyData.int)) v5.2), tr ((sF (dT (dT PyData.int))) net_here_2), tr ((sF PyData.int) x), tr ((sF (dT (dT PyData.int))) v5.1), tr ((sF PyData.bool) v6), tr ((sL (sF PyData.bool)) ([v7, v8] : (List Bool)))], [(sR (dL PyData.int)) script_]⟩) rfl ?_
  obtain rfl := R.inj h
  exact ⟨_, .inl rfl, ⟨_, _, _, _, rfl⟩⟩
def t_law_86_L1 (script_ : (List Int)) (s : Unit) (x : Int) : R (Ctl (Bool) Unit) := (t__law_bag script_ x).bind fun v2 => (t__law_net v2 (9 : Int)).bind fun v3 => (rngR 0 (3 : Int)).bind fun v4 => (forC (t_law_86_L2 script_ x v3.1) v4 v3.2).bind fun (r13 : Ctl (Bool) ((List Int))) => r13.elim (fun s2 => (t_same_roads v3.1 v3.1).bind fun v14 => if (!(decide (v14 = true))) = true then (R.ok (Ctl.rt false)) else (R.ok (Ctl.nx ()))) (fun z2 => R.ok (Ctl.rt z2))
def st_law_86_L1 (script_ : (List Int)) (s : Unit) (S : DS) : Prop := ∃ w1 w2 w3 w4 w5 w6 w7 : Option Sl, S = ⟨[tr ((sR (dL PyData.int)) script_), w1, w2, w3, w4, w5, w6, w7], [(sR (dL PyData.int)) script_]⟩
theorem q_t_law_86_L1 {script_ : (List Int)} : ∀ (s : Unit) (x : Int) (c : Ctl (Bool) Unit) (S : DS), st_law_86_L1 script_ s S → t_law_86_L1 script_ s x = .ok c → ∃ S1, (gSet 1) (.fz (PyData.int x)) S = .nx S1 ∧ Sim (f2_law_86 S1) (CtlP (st_law_86_L1 script_) (fun z t A => t = (sF PyData.bool) z ∧ A = [(sR (dL PyData.int)) script_]) c) := by
 rintro s x c _ ⟨w1, w2, w3, w4, w5, w6, w7, rfl⟩ h
 unfold t_law_86_L1 at h
 refine ⟨⟨[tr ((sR (dL PyData.int)) script_), tr ((sF PyData.int) x), w2, w3, w4, w5, w6, w7], [(sR (dL PyData.int)) script_]⟩, rfl, ?_⟩
 unfold f2_law_86
 obtain ⟨v2, h2, h⟩ := R.bind_ok h
 refine sim_seq (S1 := ⟨[tr ((sR (dL PyData.int)) script_), tr ((sF PyData.int) x), tr ((sL (sF PyData.int)) v2), w3, w4, w5, w6, w7], [(sR (dL PyData.int)) script_]⟩) (q_asg (q_fnr (R := []) (q_cons (q_vr (d := (dL PyData.int) script_) rfl) (q_cons (q_vf (d := PyData.int x) rfl) q_nil st_sv tr_sv) st_sv tr_sv) (trs_cons tr_sv (trs_cons tr_sv trs_nil)) rfl (by decide) (q_t__law_bag h2) (pb_sv (pb_sv pb_nil))) rfl) ?_
 obtain ⟨v3, h3, h⟩ := R.bind_ok h
 refine sim_seq (S1 := ⟨[tr ((sR (dL PyData.int)) script_), tr ((sF PyData.int) x), tr ((sL (sF PyData.int)) v3.2), tr ((sF (dT (dT PyData.int))) v3.1), w4, w5, w6, w7], [(sR (dL PyData.int)) script_]⟩) (q_asg (q_fnr (R := [.s 2]) (q_cons (q_vl (i := 2) rfl) (q_cons q_c q_nil st_sv tr_sv) st_pk (tr_pk rfl)) (trs_cons (tr_pk rfl) (trs_cons tr_sv trs_nil)) rfl (by decide) (q_t__law_net h3) (pb_pk rfl (pb_sv pb_nil))) rfl) ?_
 obtain ⟨v4, h4, h⟩ := R.bind_ok h
 obtain ⟨r13, h13, h⟩ := R.bind_ok h
 have q2 := loop_cases (for_c (en := PyData.int) q_t_law_86_L2 _ _ _ _ (show st_law_86_L2 script_ x v3.1 v3.2 ⟨[tr ((sR (dL PyData.int)) script_), tr ((sF PyData.int) x), tr ((sL (sF PyData.int)) v3.2), tr ((sF (dT (dT PyData.int))) v3.1), w4, w5, w6, w7], [(sR (dL PyData.int)) script_]⟩ from ⟨_, _, _, _, rfl⟩) h13)
 rcases q2 with ⟨s2, _, ec, e2, o1, o2, o3, o4, rfl⟩ | ⟨z2, t2, A2, ec, e2, q2⟩
 ·replace h := (ec _ _).symm.trans h
  refine sim_seq ((forI (q_ir1 (q_cons q_c q_nil st_sv tr_sv) h4)).trans e2) ?_
  obtain ⟨v14, h14, h⟩ := R.bind_ok h
  refine sim_if (q_tv (q_op2 (q_fnr (R := []) (q_cons (q_vf (d := (dT (dT PyData.int)) v3.1) rfl) (q_cons (q_vf (d := (dT (dT PyData.int)) v3.1) rfl) q_nil st_sv tr_sv) st_sv tr_sv) (trs_cons tr_sv (trs_cons tr_sv trs_nil)) rfl (by decide) (q_t_same_roads h14) (pb_sv (pb_sv pb_nil))) q_c st_sv tr_sv tr_sv gNotX_b) tr_sv) (fun hb => ?_) (fun hb => ?_)
  ·replace h := ite_t hb h
   obtain rfl := R.inj h
   exact sim_ret (q_ret q_c) ⟨_, _, rfl, rfl, rfl⟩
  ·replace h := ite_f hb h
   refine sim_last (S1 := ⟨[tr ((sR (dL PyData.int)) script_), tr ((sF PyData.int) x), tr ((sL (sF PyData.int)) s2), tr ((sF (dT (dT PyData.int))) v3.1), o1, o2, o3, o4], [(sR (dL PyData.int)) script_]⟩) rfl ?_
   obtain rfl := R.inj h
   exact ⟨_, .inl rfl, ⟨_, _, _, _, _, _, _, rfl⟩⟩
 ·replace h := (ec _ _).symm.trans h
  obtain rfl := R.inj h
  exact sim_rt ((forI (q_ir1 (q_cons q_c q_nil st_sv tr_sv) h4)).trans e2) ⟨_, _, rfl, q2⟩
def t_law_86 (script_ : (List Int)) : R (Bool) := (rngR 0 (iMax (1 : Int) (iMin (6 : Int) (script_.length : Int)))).bind fun v1 => (forC (t_law_86_L1 script_) v1 ()).bind fun (r15 : Ctl (Bool) Unit) => r15.elim (fun s1 => R.ok true) (fun z1 => R.ok z1)
theorem q_t_law_86 {script_ : (List Int)} {out : (Bool)} (h : t_law_86 script_ = .ok out) : m_law_86 [(sR (dL PyData.int)) script_] = .ret ((sF PyData.bool) out) [(sR (dL PyData.int)) script_] := by
 unfold t_law_86 at h
 refine runFn_fin ⟨rfl, by decide⟩ ?_
 show Sim (b_law_86 ⟨[tr ((sR (dL PyData.int)) script_), none, none, none, none, none, none, none], [(sR (dL PyData.int)) script_]⟩) _
 unfold b_law_86
 obtain ⟨v1, h1, h⟩ := R.bind_ok h
 obtain ⟨r15, h15, h⟩ := R.bind_ok h
 have q1 := loop_cases (for_c (en := PyData.int) q_t_law_86_L1 _ _ _ _ (show st_law_86_L1 script_ () ⟨[tr ((sR (dL PyData.int)) script_), none, none, none, none, none, none, none], [(sR (dL PyData.int)) script_]⟩ from ⟨_, _, _, _, _, _, _, rfl⟩) h15)
 rcases q1 with ⟨s1, _, ec, e1, o5, o6, o7, o8, o9, o10, o11, rfl⟩ | ⟨z1, t1, A1, ec, e1, q1⟩
 ·replace h := (ec _ _).symm.trans h
  refine sim_seq ((forI (q_ir1 (q_cons (q_callB (q_cons q_c (q_cons (q_callB (q_cons q_c (q_cons (q_callB (q_cons (q_vr (d := (dL PyData.int) script_) rfl) q_nil st_sv tr_sv) (trs_cons tr_sv trs_nil) (gLen_l len_RL)) q_nil st_sv tr_sv) st_sv tr_sv) (trs_cons tr_sv (trs_cons tr_sv trs_nil)) gMin_2) q_nil st_sv tr_sv) st_sv tr_sv) (trs_cons tr_sv (trs_cons tr_sv trs_nil)) gMax_2) q_nil st_sv tr_sv) h1)).trans e1) ?_
  obtain rfl := R.inj h
  exact sim_ret (q_ret q_c) (.inl rfl)
 ·replace h := (ec _ _).symm.trans h
  obtain rfl := R.inj h
  obtain ⟨rfl, rfl⟩ := q1
  exact sim_rt ((forI (q_ir1 (q_cons (q_callB (q_cons q_c (q_cons (q_callB (q_cons q_c (q_cons (q_callB (q_cons (q_vr (d := (dL PyData.int) script_) rfl) q_nil st_sv tr_sv) (trs_cons tr_sv trs_nil) (gLen_l len_RL)) q_nil st_sv tr_sv) st_sv tr_sv) (trs_cons tr_sv (trs_cons tr_sv trs_nil)) gMin_2) q_nil st_sv tr_sv) st_sv tr_sv) (trs_cons tr_sv (trs_cons tr_sv trs_nil)) gMax_2) q_nil st_sv tr_sv) h1)).trans e1) (.inl rfl)
end U
set_option maxRecDepth 100000
set_option maxHeartbeats 4000000
namespace U
open PySem PySem.Spec Y
open L2 (atI ixN)
def R.sat {α : Type} (r : R α) (P : α → Prop) : Prop := ∃ a, r = .ok a ∧ P a
section
variable {α β σ ρ : Type} {r : R α} {P : α → Prop} {Q : β → Prop} {f : α → R β}
theorem sat_ok {a : α} (h : P a) : (R.ok a).sat P := ⟨a, rfl, h⟩
theorem sat_bind (h : r.sat P) (k : ∀ a, P a → (f a).sat Q) : (r.bind f).sat Q := by
 obtain ⟨a, rfl, h⟩ := h
 exact k a h
theorem sat_mono {P' : α → Prop} (h : r.sat P) (k : ∀ a, P a → P' a) : r.sat P' := by
 obtain ⟨a, e, h⟩ := h
 exact ⟨a, e, k a h⟩
theorem sat_ite {b : Bool} {x y : R α} (h1 : b = true → x.sat P) (h0 : b = false → y.sat P) : (if b = true then x else y).sat P := by
 cases b with
 | true => rw [if_pos rfl]; exact h1 rfl
 | false => rw [if_neg (by simp)]; exact h0 rfl
theorem bind_eq {a : α} (h : r = .ok a) : r.bind f = f a := by rw [h]; rfl
theorem bind_id : (r.bind fun x => R.ok x) = r := by cases r <;> rfl
theorem sat_forR {body : σ → α → R σ} : ∀ (xs : List α) (I : Nat → σ → Prop), (∀ i s x, xs[i]? = some x → I i s → (body s x).sat (I (i + 1))) → ∀ s, I 0 s → (forR body xs s).sat (I xs.length)
 | [], I, _, s, h => ⟨s, rfl, h⟩
 | x :: xs, I, k, s, h => by
  obtain ⟨s', e, h'⟩ := k 0 s x rfl h
  obtain ⟨s2, e2, h2⟩ := sat_forR xs (fun i => I (i + 1)) (fun i s y hy hs => k (i + 1) s y (by simpa using hy) hs) s' h'
  refine ⟨s2, ?_, h2⟩
  unfold forR
  rw [e]
  exact e2
theorem sat_forC {body : σ → α → R (Ctl ρ σ)} : ∀ (xs : List α) (I : Nat → σ → Prop), (∀ i s x, xs[i]? = some x → I i s → (body s x).sat fun c => ∃ s', c = .nx s' ∧ I (i + 1) s') → ∀ s, I 0 s → (forC body xs s).sat fun c => ∃ s', c = .nx s' ∧ I xs.length s'
 | [], I, _, s, h => ⟨.nx s, rfl, s, rfl, h⟩
 | x :: xs, I, k, s, h => by
  obtain ⟨_, e, s', rfl, h'⟩ := k 0 s x rfl h
  obtain ⟨c, e2, h2⟩ := sat_forC xs (fun i => I (i + 1)) (fun i s y hy hs => k (i + 1) s y (by simpa using hy) hs) s' h'
  refine ⟨c, ?_, h2⟩
  unfold forC
  rw [e]
  exact e2
theorem forC_unit {body : Unit → α → R (Ctl ρ Unit)} {xs : List α} (k : ∀ x ∈ xs, body () x = .ok (.nx ())) : forC body xs () = .ok (.nx ()) := by
 induction xs with
 | nil => rfl
 | cons x xs ih =>
  unfold forC
  rw [k x List.mem_cons_self]
  exact ih fun y hy => k y (List.mem_cons_of_mem _ hy)
theorem mapR_ok {body : α → R β} {f : α → β} : ∀ {xs : List α}, (∀ x ∈ xs, body x = .ok (f x)) → mapR body xs = .ok (xs.map f)
 | [], _ => rfl
 | x :: xs, h => by
  unfold mapR
  rw [h x List.mem_cons_self, mapR_ok (xs := xs) fun y hy => h y (List.mem_cons_of_mem _ hy)]
  rfl
theorem lcR_eq {body : α → R β} {xs : List α} (f : α → β) (hl : xs.length ≤ 16777216) (h : ∀ x ∈ xs, body x = .ok (f x)) : lcR xs body = .ok (xs.map f) := by
 unfold lcR
 rw [if_pos (by rw [sizeLine_eq]; exact hl), mapR_ok h]
theorem fmapR_ok {body : α → R (Option β)} {f : α → Option β} : ∀ {xs : List α}, (∀ x ∈ xs, body x = .ok (f x)) → fmapR body xs = .ok (xs.filterMap f)
 | [], _ => rfl
 | x :: xs, h => by
  unfold fmapR
  rw [h x List.mem_cons_self, fmapR_ok (xs := xs) fun y hy => h y (List.mem_cons_of_mem _ hy)]
  cases e : f x with
  | none => rw [List.filterMap_cons_none e]; rfl
  | some y => rw [List.filterMap_cons_some e]; rfl
theorem lcF_eq {body : α → R (Option β)} {xs : List α} (f : α → Option β) (hl : xs.length ≤ 16777216) (h : ∀ x ∈ xs, body x = .ok (f x)) : lcF xs body = .ok (xs.filterMap f) := by
 unfold lcF
 rw [if_pos (by rw [sizeLine_eq]; exact hl), fmapR_ok h]
theorem sat_mapR {body : α → R β} {T : α → β → Prop} : ∀ {xs : List α}, (∀ x ∈ xs, (body x).sat (T x)) → (mapR body xs).sat fun ys => ys.length = xs.length ∧ ∀ (i : Nat) x y, xs[i]? = some x → ys[i]? = some y → T x y
 | [], _ => ⟨[], rfl, rfl, fun i x y h => by simp at h⟩
 | x :: xs, h => by
  obtain ⟨y, e, hy⟩ := h x List.mem_cons_self
  obtain ⟨ys, e2, h2, h3⟩ := sat_mapR (xs := xs) fun z hz => h z (List.mem_cons_of_mem _ hz)
  refine ⟨y :: ys, ?_, by simp [h2], fun i a b ha hb => ?_⟩
  ·unfold mapR
   rw [e]
   show ((mapR body xs).bind fun ys => R.ok (y :: ys)) = _
   rw [e2]
   rfl
  ·cases i with
   | zero => simp at ha hb; subst ha; subst hb; exact hy
   | succ i => exact h3 i a b (by simpa using ha) (by simpa using hb)
theorem sat_lcR {body : α → R β} {T : α → β → Prop} {xs : List α} (hl : xs.length ≤ 16777216) (h : ∀ x ∈ xs, (body x).sat (T x)) : (lcR xs body).sat fun ys => ys.length = xs.length ∧ ∀ (i : Nat) x y, xs[i]? = some x → ys[i]? = some y → T x y := by
 unfold lcR
 rw [if_pos (by rw [sizeLine_eq]; exact hl)]
 exact sat_mapR h
theorem ixR_nat {xs : List α} {i : Nat} (h : i < xs.length) : ixR xs (i : Int) = .ok xs[i] := by
 unfold ixR ixN
 rw [if_pos (by omega), if_pos (by omega)]
 dsimp only
 rw [show ((i : Int)).toNat = i by omega, List.getElem?_eq_getElem h]
theorem ixR_pos {xs : List α} {i : Int} (h0 : 0 ≤ i) (h : i < xs.length) : ixR xs i = .ok (xs[i.toNat]'(by omega)) := by
 have := ixR_nat (xs := xs) (i := i.toNat) (by omega)
 rw [show ((i.toNat : Nat) : Int) = i by omega] at this
 exact this
theorem ixR_neg {xs : List α} {i : Int} (h0 : i < 0) (h : -(xs.length : Int) ≤ i) : ixR xs i = .ok (xs[(i + xs.length).toNat]'(by omega)) := by
 unfold ixR ixN
 rw [if_neg (by omega), if_pos (by omega)]
 dsimp only
 rw [List.getElem?_eq_getElem (by omega)]
theorem ixk_pos {n : Nat} {i : Int} (h0 : 0 ≤ i) (h : i < n) : ixk n i = i.toNat := by
 unfold ixk ixN
 rw [if_pos h0, if_pos h]
 rfl
theorem appR_eq {xs : List α} {x : α} (h : xs.length < 16777216) : appR xs x = .ok (xs ++ [x]) := by
 unfold appR
 rw [if_pos (by rw [sizeLine_eq]; exact h)]
theorem catR_eq {xs ys : List α} (h : xs.length + ys.length ≤ 16777216) : catR xs ys = .ok (xs ++ ys) := by
 unfold catR
 rw [if_pos (by rw [sizeLine_eq]; exact h)]
theorem setR_pos {xs : List α} {i : Int} {x : α} (h0 : 0 ≤ i) (h : i < xs.length) : setR xs i x = .ok (xs.set i.toNat x) := by
 unfold setR ixN
 rw [if_pos h0, if_pos h]
theorem popR_pos {xs : List α} {i : Int} (h0 : 0 ≤ i) (h : i < xs.length) (hl : xs.length ≤ 16777216) : popR xs i = .ok (xs[i.toNat]'(by omega), xs.eraseIdx i.toNat) := by
 have p63 : (2 : Int) ^ 63 = 9223372036854775808 := by decide
 have e2 : seqIndex? i xs.length = some i.toNat := by
  unfold seqIndex?
  simp
  omega
 unfold popR
 rw [if_pos (by rw [p63]; omega), e2]
 dsimp only
 rw [List.getElem?_eq_getElem (by omega)]
theorem p62 : (2 : Int) ^ 62 = 4611686018427387904 := by decide
theorem rgOk_of {a b : Int} (h1 : -4611686018427387904 ≤ a) (h2 : a < 4611686018427387904) (h3 : -4611686018427387904 ≤ b) (h4 : b < 4611686018427387904) : rgOk a b = true := by
 unfold rgOk
 rw [p62, decide_eq_true h1, decide_eq_true h2, decide_eq_true h3, decide_eq_true h4]
 rfl
def iota (n : Nat) : List Int := (List.range n).map fun (i : Nat) => (i : Int)
theorem iota_len {n : Nat} : (iota n).length = n := by unfold iota; simp
theorem iota_mem {n : Nat} {x : Int} : x ∈ iota n ↔ 0 ≤ x ∧ x < n := by
 unfold iota
 rw [List.mem_map]
 constructor
 ·rintro ⟨i, hi, rfl⟩
  have := List.mem_range.mp hi
  omega
 ·intro h
  exact ⟨x.toNat, List.mem_range.mpr (by omega), by omega⟩
theorem iota_at {n i : Nat} {x : Int} (h : (iota n)[i]? = some x) : i < n ∧ x = i := by
 unfold iota at h
 rw [List.getElem?_map] at h
 cases e : (List.range n)[i]? with
 | none => rw [e] at h; cases h
 | some j =>
  rw [e] at h
  obtain ⟨h1, h2⟩ := List.getElem?_eq_some_iff.mp e
  rw [List.getElem_range] at h2
  rw [List.length_range] at h1
  subst h2
  exact ⟨h1, by simpa using h.symm⟩
theorem iota_nodup {n : Nat} : (iota n).Nodup := by
 unfold iota
 refine List.Pairwise.map _ (fun a b h => ?_) (List.nodup_range (n := n))
 omega
theorem rangeI_iota {n : Nat} : rangeI 0 n = iota n := by
 unfold rangeI iota
 exact List.map_congr_left fun i _ => by omega
theorem rngR_eq {n : Int} (h0 : 0 ≤ n) (h : n ≤ 16777216) : rngR 0 n = .ok (iota n.toNat) := by
 unfold rngR
 rw [if_pos (rgOk_of (by omega) (by omega) (by omega) (by omega)), Int.sub_zero, rangeI_iota]
theorem rngR_nat {n : Nat} (h : n ≤ 16777216) : rngR 0 (n : Int) = .ok (iota n) := rngR_eq (n := (n : Int)) (by omega) (by omega)
theorem rngL_eq {n : Int} (h0 : 0 ≤ n) (h : n ≤ 16777216) : rngL 0 n = .ok (iota n.toNat) := by
 unfold rngL rgB
 rw [rgOk_of (by omega) (by omega) (by omega) (by omega), if_pos (by rw [Int.sub_zero]; exact decide_eq_true (by omega)), Int.sub_zero, rangeI_iota]
theorem rngL_nat {n : Nat} (h : n ≤ 16777216) : rngL 0 (n : Int) = .ok (iota n) := rngL_eq (n := (n : Int)) (by omega) (by omega)
theorem log2_small {n k : Nat} (h : n < 2 ^ k) (hk : 0 < k) : n.log2 < k := by
 by_cases z : n = 0
 ·subst z; simpa using hk
 ·exact (Nat.log2_lt z).mpr h
theorem cMul_ok {i j : Int} (hi : i.natAbs < 2 ^ 4000) (hj : j.natAbs < 2 ^ 4000) : cMul i j = true := by
 unfold cMul
 have h1 := log2_small hi (by decide)
 have h2 := log2_small hj (by decide)
 exact decide_eq_true (by omega)
theorem pow4000 {i : Int} (h : i.natAbs < 18446744073709551616) : i.natAbs < 2 ^ 4000 :=
 Nat.lt_of_lt_of_le (show i.natAbs < 2 ^ 64 from h) (Nat.pow_le_pow_right (by decide) (by decide))
theorem mulR_eq {i j : Int} (hi : i.natAbs < 18446744073709551616) (hj : j.natAbs < 18446744073709551616) : mulR i j = .ok (i * j) := by
 unfold mulR
 rw [if_pos (cMul_ok (pow4000 hi) (pow4000 hj))]
theorem l9000 {j : Int} (h1 : 0 < j) (h2 : j < 18446744073709551616) : j.natAbs.log2 < 9000 := by
 have h3 : j.natAbs < 2 ^ 64 := by omega
 exact Nat.lt_trans (log2_small h3 (by decide)) (by decide)
theorem fdivR_eq {i j : Int} (h1 : 0 < j) (h2 : j < 18446744073709551616) : fdivR i j = .ok (i / j) := by
 unfold fdivR cDiv
 rw [decide_eq_true h1, decide_eq_true (l9000 h1 h2), if_pos (by rfl)]
theorem modR_eq {i j : Int} (h1 : 0 < j) : modR i j = .ok (i % j) := by
 unfold modR cMod
 rw [decide_eq_true h1, if_pos rfl]
theorem powR_1018 : powR 10 18 = .ok 1000000000000000000 := by
 unfold powR cPow
 simp
theorem repR_eq {xs : List α} {k : Int} (h0 : 0 ≤ k) (h : k ≤ 1000) (hl : xs.length ≤ 1000) : repR xs k = .ok (List.replicate k.toNat xs).flatten := by
 have p63 : (2 : Int) ^ 63 = 9223372036854775808 := by decide
 unfold repR
 have : xs.length * k.toNat ≤ 1000 * 1000 := Nat.mul_le_mul hl (by omega)
 rw [if_pos ⟨h0, by rw [p63]; omega, by rw [sizeLine_eq]; omega⟩]
def R.val {α : Type} [Inhabited α] (r : R α) : α := match r with
 | .ok a => a
 | _ => default
end
end U
set_option maxRecDepth 100000
set_option maxHeartbeats 4000000
namespace U
open PySem PySem.Spec Y
open L2 (atI ixN)
def IsBag (b : List Int) : Prop := ∃ c m : Int, b = [c, m] ∧ 0 ≤ c ∧ 0 ≤ m ∧ m < 2147483648
theorem ix0 {α : Type} {a b : α} : ixR [a, b] 0 = .ok a := rfl
theorem ix1 {α : Type} {a b : α} : ixR [a, b] 1 = .ok b := rfl
theorem set0 {α : Type} {a b x : α} : setR [a, b] 0 x = .ok [x, b] := rfl
theorem set1 {α : Type} {a b x : α} : setR [a, b] 1 x = .ok [a, x] := rfl
def TakeP (many : Int) (r : Int × List Int) : Prop := 0 ≤ r.1 ∧ r.1 < many ∧ IsBag r.2
theorem whileR_step {σ : Type} {cond : σ → R Bool} {body : σ → R σ} (n : Nat) (s : σ) : whileR cond body (n + 1) s = (cond s).bind fun b => if b = true then (body s).bind fun s' => whileR cond body n s' else .ok s := rfl
theorem take_turn {c m many : Int} (hm : 0 ≤ m ∧ m < 2147483648) : (t__law_take_L1 many (0, 1, [c, m])).sat fun s => 0 ≤ s.1 ∧ s.2.1 = 1073741789 ∧ ∃ m', s.2.2 = [c, m'] ∧ 0 ≤ m' ∧ m' < 2147483648 := by
 unfold t__law_take_L1
 simp only [ix1, R.ok_bind]
 rw [mulR_eq (by omega) (by omega)]
 simp only [R.ok_bind]
 rw [modR_eq (by omega)]
 simp only [R.ok_bind, set1]
 rw [mulR_eq (by omega) (by omega)]
 simp only [R.ok_bind, ix1]
 rw [fdivR_eq (by omega) (by omega)]
 simp only [R.ok_bind]
 rw [mulR_eq (by omega) (by omega)]
 simp only [R.ok_bind]
 rw [modR_eq (by omega)]
 simp only [R.ok_bind]
 rw [mulR_eq (by omega) (by omega)]
 simp only [R.ok_bind]
 refine sat_ok ⟨?_, (show (1 : Int) * 1073741789 = 1073741789 by omega), _, rfl, ?_, ?_⟩
 ·dsimp only; omega
 ·omega
 ·omega
theorem take_ok {b : List Int} {many : Int} (hb : IsBag b) (h1 : 1 ≤ many) (h2 : many ≤ 1000000000) : (t__law_take b many).sat (TakeP many) := by
 obtain ⟨c, m, rfl, h3, h4, h5⟩ := hb
 unfold t__law_take
 rw [bind_eq ix0]
 refine sat_ite (fun hc => ?_) (fun hc => ?_)
 ·rw [bind_eq ix0, bind_eq (modR_eq (by omega)), bind_eq ix0, bind_eq (fdivR_eq (by omega) (by omega)), bind_eq set0]
  exact sat_ok ⟨Int.emod_nonneg _ (by omega), Int.emod_lt_of_pos _ (by omega), _, _, rfl, Int.ediv_nonneg h3 (by omega), h4, h5⟩
 ·refine sat_bind (P := fun s => 0 ≤ s.1 ∧ ∃ m', s.2.2 = [c, m'] ∧ 0 ≤ m' ∧ m' < 2147483648) ?_ ?_
  ·rw [show (1000000 : Nat) = 999998 + 1 + 1 from rfl, whileR_step]
   rw [show t__law_take_L1_c many (0, 1, [c, m]) = .ok (decide (1 < many)) from rfl, R.ok_bind]
   refine sat_ite (fun hm => ?_) (fun hm => sat_ok ⟨by simp, m, rfl, h4, h5⟩)
   refine sat_bind (take_turn ⟨h4, h5⟩) ?_
   rintro ⟨s1, s2, s3⟩ ⟨q1, q2, m', q3, q4, q5⟩
   dsimp only at q1 q2 q3
   subst q2 q3
   rw [whileR_step, show t__law_take_L1_c many (s1, 1073741789, [c, m']) = .ok (decide (1073741789 < many)) from rfl, R.ok_bind]
   refine sat_ite (fun hm => ?_) (fun hm => sat_ok ⟨q1, m', rfl, q4, q5⟩)
   have := of_decide_eq_true hm
   omega
  ·rintro ⟨s1, s2, s3⟩ ⟨q1, m', q3, q4, q5⟩
   dsimp only at q1 q3 ⊢
   subst q3
   rw [bind_eq (modR_eq (by omega))]
   exact sat_ok ⟨Int.emod_nonneg _ (by omega), Int.emod_lt_of_pos _ (by omega), _, _, rfl, h3, q4, q5⟩
theorem bag_ok {ns : List Int} (hn : ns.length ≤ 63) {k : Int} (hk : 0 ≤ k) (hk2 : k ≤ 1000) : (t__law_bag ns k).sat IsBag := by
 unfold t__law_bag
 refine sat_bind (P := fun c => 0 ≤ c) (sat_ite (fun h => ?_) fun _ => sat_ok (by omega)) fun c hc => ?_
 ·have h := of_decide_eq_true h
  rw [bind_eq (ixR_pos hk h)]
  refine sat_ok ?_
  split <;> omega
 rw [bind_eq (mulR_eq (by omega) (by omega))]
 have hmin : 0 ≤ iMin (ns.length : Int) 60 ∧ iMin (ns.length : Int) 60 ≤ ns.length ∧ iMin (ns.length : Int) 60 ≤ 60 := by unfold iMin; split <;> omega
 rw [bind_eq (rngR_eq (by omega) (by omega))]
 refine sat_bind (P := fun m => 0 ≤ m ∧ m < 2147483648) ?_ fun m hm => ?_
 ·refine sat_forR _ (fun _ m => 0 ≤ m ∧ m < 2147483648) (fun i s x hx hs => ?_) _ (by omega)
  obtain ⟨h1, h2⟩ := iota_at hx
  unfold t__law_bag_L2
  rw [bind_eq (mulR_eq (by omega) (by omega)), bind_eq (ixR_pos (by omega) (by omega)), bind_eq (modR_eq (by omega)), bind_eq (modR_eq (by omega))]
  exact sat_ok ⟨Int.emod_nonneg _ (by omega), Int.lt_trans (Int.emod_lt_of_pos _ (by omega)) (by omega)⟩
 rw [bind_eq powR_1018]
 refine sat_bind (P := fun c => 0 ≤ c) (sat_ite (fun h => sat_ok (by omega)) fun _ => sat_ok hc) fun c hc => ?_
 exact sat_ok ⟨c, m, rfl, hc, hm⟩
theorem perm_pop {α : Type} {rest found l : List α} {k : Nat} {x : α} (h : (found ++ rest).Perm l) (hk : rest[k]? = some x) : ((found ++ [x]) ++ rest.eraseIdx k).Perm l := by
 refine List.Perm.trans ?_ h
 rw [List.append_assoc]
 refine List.Perm.append_left _ ?_
 exact L2.erase_perm rest k x hk
theorem order_ok {b : List Int} (hb : IsBag b) {many : Nat} (hm : many ≤ 1000) : (t__law_order b many).sat fun r => r.1.Perm (iota many) ∧ IsBag r.2 := by
 unfold t__law_order
 rw [bind_eq (rngL_nat (by omega)), bind_eq (rngR_nat (by omega))]
 refine sat_bind (sat_forR _ (fun i s => (s.2.1 ++ s.1).Perm (iota many) ∧ s.2.1.length = i ∧ IsBag s.2.2) (fun i s x hx hs => ?_) _ ⟨by simp, rfl, hb⟩) fun s hs => ?_
 ·obtain ⟨h1, rfl⟩ := iota_at hx
  obtain ⟨h2, h3, h4⟩ := hs
  have hlen := h2.length_eq
  rw [List.length_append, iota_len] at hlen
  unfold t__law_order_L1
  refine sat_bind (take_ok h4 (by omega) (by omega)) fun r hr => ?_
  obtain ⟨r1, r2, r3⟩ := hr
  rw [bind_eq (popR_pos r1 r2 (by omega)), bind_eq (appR_eq (by omega))]
  exact sat_ok ⟨perm_pop h2 (List.getElem?_eq_getElem (by omega)), by simp [h3], r3⟩
 ·obtain ⟨h1, h2, h3⟩ := hs
  have hlen := h1.length_eq
  rw [List.length_append, iota_len, h2, iota_len] at hlen
  have : s.1 = [] := List.length_eq_zero_iff.mp (by omega)
  rw [this, List.append_nil] at h1
  exact sat_ok ⟨h1, h3⟩
end U
set_option maxRecDepth 100000
set_option maxHeartbeats 4000000
namespace U
open PySem PySem.Spec Y
open L2 (atI ixN)
structure NetOk (n : List (List Int)) : Prop where
 l1 : 1 ≤ n.length
 l9 : n.length ≤ 9
 w : ∃ w : Nat, (w = 2 ∨ w = 3) ∧ ∀ r ∈ n, r.length = w
 e : ∀ r ∈ n, ∀ x ∈ r, 0 ≤ x ∧ x < n.length
def Rng (many : Nat) (l : List Int) : Prop := ∀ x ∈ l, 0 ≤ x ∧ x < many
def Wf (many fans : Nat) (rows : List (List Int)) : Prop := rows.length = many ∧ ∀ r ∈ rows, r.length = fans ∧ Rng many r
theorem wf_set {many fans : Nat} {rows : List (List Int)} {r : List Int} (h : Wf many fans rows) (i : Nat) (h1 : r.length = fans) (h2 : Rng many r) : Wf many fans (rows.set i r) := by
 refine ⟨by rw [List.length_set]; exact h.1, fun q hq => ?_⟩
 rcases List.mem_or_eq_of_mem_set hq with z | z
 ·exact h.2 q z
 ·subst z; exact ⟨h1, h2⟩
theorem rng_set {many : Nat} {l : List Int} {x : Int} (h : Rng many l) (i : Nat) (hx : 0 ≤ x ∧ x < many) : Rng many (l.set i x) := fun y hy => by
 rcases List.mem_or_eq_of_mem_set hy with z | z
 ·exact h y z
 ·subst z; exact hx
theorem getD_of {α : Type} {l : List α} {i : Nat} {d : α} (h : i < l.length) : l.getD i d = l[i] := by
 rw [List.getD_eq_getElem?_getD, List.getElem?_eq_getElem h]; rfl
structure RowsI (many : Nat) (order : List Int) (rows : List (List Int)) (len : Nat → Nat) : Prop where
 ln : rows.length = many
 le : ∀ j, (h : j < order.length) → (rows.getD order[j].toNat []).length = len j
 rg : ∀ r ∈ rows, Rng many r
theorem rows_set {many k : Nat} {order : List Int} {rows : List (List Int)} {len : Nat → Nat} {r : List Int} (h : RowsI many order rows len) (hp : order.Perm (iota many)) (hk : k < order.length) (hr : Rng many r) : RowsI many order (rows.set order[k].toNat r) (fun j => if j = k then r.length else len j) := by
 have ho : ∀ j, (h : j < order.length) → 0 ≤ order[j] ∧ order[j] < many := fun j h => iota_mem.mp (hp.mem_iff.mp (List.getElem_mem h))
 refine ⟨by rw [List.length_set]; exact h.ln, fun j hj => ?_, fun q hq => ?_⟩
 ·by_cases z : j = k
  ·subst z
   rw [if_pos rfl, List.getD_eq_getElem?_getD, List.getElem?_set_self (by have := h.ln; have := ho j hj; omega)]
   rfl
  ·rw [if_neg z, ← h.le j hj, List.getD_eq_getElem?_getD, List.getElem?_set_ne, List.getD_eq_getElem?_getD]
   intro e
   have h1 := ho j hj
   have h2 := ho k hk
   have e2 : order[k] = order[j] := by omega
   have nd : order.Nodup := hp.nodup_iff.mpr iota_nodup
   exact z ((List.getElem?_inj hj nd).mp (by rw [List.getElem?_eq_getElem hj, List.getElem?_eq_getElem hk, e2]))
 ·rcases List.mem_or_eq_of_mem_set hq with y | y
  ·exact h.rg q y
  ·subst y; exact hr
theorem net_fans {most many fans0 kind lap k : Int} {order goals : List Int} {m fans kn : Nat} (hp : order.Perm (iota m)) (hg : goals ≠ []) (hg9 : goals.length ≤ 9) (hgr : Rng m goals) (hf : fans ≤ 3) (hk : k = kn) (hkn : kn < order.length) {rows : List (List Int)} {b : List Int} (hb : IsBag b) {len : Nat → Nat} (h : RowsI m order rows len) (h0 : len kn = 0) :
  (forR (t__law_net_L5 most many fans0 kind lap order k goals) (iota fans) (rows, b)).sat fun s => RowsI m order s.1 (fun j => if j = kn then fans else len j) ∧ IsBag s.2 := by
 have ho : ∀ j, (h : j < order.length) → 0 ≤ order[j] ∧ order[j] < m := fun j h => iota_mem.mp (hp.mem_iff.mp (List.getElem_mem h))
 have hpos : 0 < goals.length := List.length_pos_iff.mpr hg
 have := sat_forR (body := t__law_net_L5 most many fans0 kind lap order k goals) (iota fans) (fun i s => RowsI m order s.1 (fun j => if j = kn then i else len j) ∧ IsBag s.2) (fun i s x hx hs => by
  obtain ⟨h1, h2⟩ := hs
  obtain ⟨hi, _⟩ := iota_at hx
  have hok := ho kn hkn
  unfold t__law_net_L5
  subst hk
  have hln := h1.ln
  rw [bind_eq (ixR_nat hkn), bind_eq (ixR_pos hok.1 (by omega))]
  refine sat_bind (take_ok h2 (by omega) (by omega)) fun r ⟨r1, r2, r3⟩ => ?_
  have hlen := h1.le kn hkn
  rw [if_pos rfl, getD_of (by omega)] at hlen
  rw [bind_eq (ixR_pos r1 r2), bind_eq (appR_eq (by rw [hlen]; omega))]
  refine sat_ok ⟨?_, r3⟩
  dsimp only
  rw [ixk_pos hok.1 (by omega)]
  have := rows_set h1 hp hkn (r := s.1[order[kn].toNat]'(by omega) ++ [goals[r.1.toNat]'(by omega)]) (fun y hy => by
   rcases List.mem_append.mp hy with z | z
   ·exact h1.rg _ (List.getElem_mem _) y z
   ·rw [List.mem_singleton.mp z]; exact hgr _ (List.getElem_mem _))
  refine ⟨this.ln, fun j hj => ?_, this.rg⟩
  rw [this.le j hj]
  by_cases z : j = kn
  ·rw [if_pos z, if_pos z, List.length_append, hlen]; rfl
  ·rw [if_neg z, if_neg z, if_neg z]) (rows, b) ⟨⟨h.ln, fun j hj => by
   rw [h.le j hj]
   by_cases z : j = kn
   ·rw [if_pos z, z, h0]
   ·rw [if_neg z], h.rg⟩, hb⟩
 rw [iota_len] at this
 exact this
theorem net_rows {most kind : Int} {order : List Int} {m fans lap : Nat} (hp : order.Perm (iota m)) (hm : m ≤ 9) (hf : fans ≤ 3) (hl : 1 ≤ lap) (hlm : lap ≤ m) {b : List Int} (hb : IsBag b) :
  (forR (t__law_net_L3 most m fans kind lap order) (iota m) (List.replicate m [], b)).sat fun s => Wf m fans s.1 ∧ IsBag s.2 := by
 have hol : order.length = m := by rw [hp.length_eq, iota_len]
 have := sat_forR (body := t__law_net_L3 most m fans kind lap order) (iota m) (fun i s => RowsI m order s.1 (fun j => if j < i then fans else 0) ∧ IsBag s.2) (fun i s x hx hs => by
  obtain ⟨h1, h2⟩ := hs
  obtain ⟨hi, rfl⟩ := iota_at hx
  unfold t__law_net_L3
  rw [bind_eq (rngR_nat (by omega))]
  have e := lcF_eq (xs := iota m) (body := fun (x4 : Int) => (modR x4 (lap : Int)).bind fun v12 => (modR ((i : Int) + (1 : Int)) (lap : Int)).bind fun v13 => if (decide (v12 = v13)) = true then ((ixR order x4).bind fun v14 => R.ok (some v14)) else R.ok none)
   (fun x4 => if x4 % (lap : Int) = ((i : Int) + 1) % lap then some (order.getD x4.toNat 0) else none) (by rw [iota_len]; omega) (fun x4 hx4 => by
    obtain ⟨a1, a2⟩ := iota_mem.mp hx4
    rw [bind_eq (modR_eq (by omega)), bind_eq (modR_eq (by omega))]
    by_cases z : x4 % (lap : Int) = ((i : Int) + 1) % lap
    ·rw [if_pos (decide_eq_true z), if_pos z, bind_eq (ixR_pos a1 (by omega)), getD_of (by omega)]
    ·rw [if_neg (by simpa using z), if_neg z])
  rw [bind_eq e, bind_eq (rngR_nat (by omega))]
  have hmem : ∀ y ∈ (iota m).filterMap (fun x4 => if x4 % (lap : Int) = ((i : Int) + 1) % lap then some (order.getD x4.toNat 0) else none), 0 ≤ y ∧ y < m := fun y hy => by
   obtain ⟨x4, hx4, e4⟩ := List.mem_filterMap.mp hy
   obtain ⟨a1, a2⟩ := iota_mem.mp hx4
   split at e4
   ·cases e4
    rw [getD_of (by omega)]
    exact iota_mem.mp (hp.mem_iff.mp (List.getElem_mem _))
   ·cases e4
  have hne : (iota m).filterMap (fun x4 => if x4 % (lap : Int) = ((i : Int) + 1) % lap then some (order.getD x4.toNat 0) else none) ≠ [] := by
   have b1 : 0 ≤ ((i : Int) + 1) % lap := Int.emod_nonneg _ (by omega)
   have b2 : ((i : Int) + 1) % lap < lap := Int.emod_lt_of_pos _ (by omega)
   have : order.getD (((i : Int) + 1) % lap).toNat 0 ∈ (iota m).filterMap (fun x4 => if x4 % (lap : Int) = ((i : Int) + 1) % lap then some (order.getD x4.toNat 0) else none) :=
    List.mem_filterMap.mpr ⟨((i : Int) + 1) % lap, iota_mem.mpr ⟨b1, by omega⟩, by rw [if_pos (Int.emod_emod_of_dvd _ (Int.dvd_refl _))]⟩
   intro z
   rw [z] at this
   cases this
  refine sat_bind (net_fans (kn := i) hp hne (by refine Nat.le_trans (List.length_filterMap_le _ _) ?_; rw [iota_len]; exact hm) hmem hf rfl (by omega) h2 h1 (by simp)) fun r ⟨r1, r2⟩ => ?_
  refine sat_ok ⟨⟨r1.ln, fun j hj => ?_, r1.rg⟩, r2⟩
  rw [r1.le j hj]
  by_cases z : j = i
  ·rw [if_pos z, if_pos (by omega)]
  ·rw [if_neg z]
   by_cases y : j < i
   ·rw [if_pos y, if_pos (by omega)]
   ·rw [if_neg y, if_neg (by omega)]) (List.replicate m [], b) ⟨⟨List.length_replicate, fun j hj => by
    rw [if_neg (by omega), List.getD_eq_getElem?_getD]
    cases e : (List.replicate m ([] : List Int))[order[j].toNat]? with
    | none => rfl
    | some z =>
     have := List.mem_of_getElem? e
     rw [(List.mem_replicate.mp this).2]
     rfl, fun r hr => by rw [(List.mem_replicate.mp hr).2]; intro y hy; cases hy⟩, hb⟩
 refine sat_mono this fun s ⟨h1, h2⟩ => ⟨⟨h1.ln, fun r hr => ⟨?_, h1.rg r hr⟩⟩, h2⟩
 obtain ⟨p, hp2, e⟩ := List.getElem_of_mem hr
 have : (p : Int) ∈ order := hp.mem_iff.mpr (iota_mem.mpr ⟨by omega, by have := h1.ln; omega⟩)
 obtain ⟨j, hj, e2⟩ := List.getElem_of_mem this
 have := h1.le j hj
 rw [e2, iota_len, if_pos (by omega), Int.toNat_natCast, getD_of hp2, e] at this
 exact this
theorem ord_at {order : List Int} {m : Nat} (hp : order.Perm (iota m)) {k : Int} (h1 : -(m : Int) ≤ k) (h2 : k < m) : ∃ y, ixR order k = .ok y ∧ 0 ≤ y ∧ y < m := by
 have hol : order.length = m := by rw [hp.length_eq, iota_len]
 by_cases h : 0 ≤ k
 ·exact ⟨_, ixR_pos h (by omega), iota_mem.mp (hp.mem_iff.mp (List.getElem_mem _))⟩
 ·exact ⟨_, ixR_neg (by omega) (by omega), iota_mem.mp (hp.mem_iff.mp (List.getElem_mem _))⟩
theorem net_ok {b : List Int} (hb : IsBag b) {most : Int} (h1 : 1 ≤ most) (h9 : most ≤ 9) : (t__law_net b most).sat fun r => NetOk r.1 ∧ r.1.length ≤ most ∧ IsBag r.2 := by
 unfold t__law_net
 refine sat_bind (take_ok hb h1 (by omega)) fun v1 ⟨a1, a2, a3⟩ => ?_
 refine sat_bind (take_ok a3 (by omega) (by omega)) fun v2 ⟨b1, b2, b3⟩ => ?_
 refine sat_bind (take_ok b3 (by omega) (by omega)) fun v3 ⟨c1, c2, c3⟩ => ?_
 refine sat_bind (P := fun s : Int × Int × List Int => ∃ m lap : Nat, s.1 = m ∧ s.2.1 = lap ∧ 1 ≤ lap ∧ lap ≤ m ∧ (m : Int) ≤ most ∧ IsBag s.2.2) (sat_ite (fun _ => ?_) fun _ => ?_) fun s1 hs => ?_
 ·refine sat_bind (take_ok c3 (by omega) (by omega)) fun v4 ⟨d1, d2, d3⟩ => ?_
  have hmin : 1 ≤ iMin ((2 : Int) + v4.1) ((1 : Int) + v1.1) ∧ iMin ((2 : Int) + v4.1) ((1 : Int) + v1.1) ≤ 1 + v1.1 := by unfold iMin; split <;> omega
  generalize iMin ((2 : Int) + v4.1) ((1 : Int) + v1.1) = lap at hmin ⊢
  rw [bind_eq (fdivR_eq (by omega) (by omega))]
  have hq : 1 ≤ (1 + v1.1) / lap := Int.le_ediv_of_mul_le (by omega) (by omega)
  have hq2 : (1 + v1.1) / lap * lap ≤ 1 + v1.1 := Int.ediv_mul_le _ (by omega)
  have hq3 : 1 * lap ≤ (1 + v1.1) / lap * lap := Int.mul_le_mul_of_nonneg_right hq (by omega)
  have hq4 : (1 + v1.1) / lap * 1 ≤ (1 + v1.1) / lap * lap := Int.mul_le_mul_of_nonneg_left hmin.1 (by omega)
  rw [bind_eq (mulR_eq (by omega) (by omega))]
  refine sat_ok ⟨((1 + v1.1) / lap * lap).toNat, lap.toNat, ?_, ?_, ?_, ?_, ?_, d3⟩ <;> (try dsimp only) <;> omega
 ·exact sat_ok ⟨(1 + v1.1).toNat, 1, by dsimp only; omega, rfl, by omega, by omega, by omega, c3⟩
 obtain ⟨m, lap, e1, e2, l1, l2, l3, hb1⟩ := hs
 obtain ⟨fans, hf⟩ : ∃ fans : Nat, (2 : Int) + v2.1 = fans := ⟨(2 + v2.1).toNat, by omega⟩
 rw [e1, e2, hf]
 refine sat_bind (order_ok hb1 (by omega)) fun v7 ⟨hp, hb2⟩ => ?_
 rw [bind_eq (rngR_nat (by omega))]
 have er := lcR_eq (xs := iota m) (body := fun (x2 : Int) => R.ok ([] : List Int)) (fun _ => []) (by rw [iota_len]; omega) (fun _ _ => rfl)
 rw [bind_eq er, bind_eq (rngR_nat (by omega)), List.map_const', iota_len]
 refine sat_bind (net_rows hp (by omega) (by omega) l1 l2 hb2) fun s2 ⟨w2, hb3⟩ => ?_
 refine sat_bind (P := fun s => Wf m fans s.1 ∧ IsBag s.2) (sat_ite (fun _ => ?_) fun _ => sat_ok ⟨w2, hb3⟩) fun s3 ⟨w3, hb4⟩ => ?_
 ·rw [bind_eq (rngR_nat (by omega))]
  refine sat_bind (sat_forR _ (fun _ s => Wf m fans s.1 ∧ IsBag s.2) (fun i s x hx hs => ?_) _ ⟨w2, hb3⟩) fun s hs => sat_ok hs
  obtain ⟨hi, rfl⟩ := iota_at hx
  obtain ⟨w, hbb⟩ := hs
  obtain ⟨y1, g1, g2, g3⟩ := ord_at hp (k := (i : Int)) (by omega) (by omega)
  obtain ⟨y2, g4, g5, g6⟩ := ord_at hp (k := (i : Int) - 1) (by omega) (by omega)
  unfold t__law_net_L7
  have wl := w.1
  rw [bind_eq g1, bind_eq g4, bind_eq (ixR_pos g5 (by omega))]
  refine sat_bind (take_ok hbb (by omega) (by omega)) fun r ⟨r1, r2, r3⟩ => ?_
  have hrow := w.2 (s.1[y2.toNat]'(by omega)) (List.getElem_mem _)
  rw [bind_eq (setR_pos r1 (by rw [hrow.1]; omega))]
  exact sat_ok ⟨wf_set w _ (by rw [List.length_set]; exact hrow.1) (rng_set hrow.2 _ ⟨g2, g3⟩), r3⟩
 refine sat_bind (P := fun s => Wf m fans s.1 ∧ IsBag s.2) (sat_ite (fun _ => ?_) fun _ => sat_ok ⟨w3, hb4⟩) fun s4 ⟨w4, hb5⟩ => ?_
 ·rw [bind_eq (rngR_nat (by omega))]
  refine sat_bind (sat_forR _ (fun _ s => Wf m fans s) (fun i s x hx w => ?_) _ w3) fun s w => ?_
  ·obtain ⟨hi, rfl⟩ := iota_at hx
   obtain ⟨y1, g1, g2, g3⟩ := ord_at hp (k := (i : Int)) (by omega) (by omega)
   obtain ⟨y2, g4, g5, g6⟩ := ord_at hp (k := (i : Int) - 1) (by omega) (by omega)
   unfold t__law_net_L9
   have wl := w.1
   rw [bind_eq g1, bind_eq (repR_eq (by omega) (by omega) (by simp)), bind_eq g4, bind_eq (setR_pos g5 (by omega))]
   refine sat_ok (wf_set w _ ?_ fun y hy => ?_)
   ·simp
   ·have : y = y1 := by have := hy; simp at this; exact this.2
    subst this; exact ⟨g2, g3⟩
  ·refine sat_bind (take_ok hb4 (by omega) (by omega)) fun r ⟨r1, r2, r3⟩ => ?_
   have wl := w.1
   rw [bind_eq (ixR_pos (by omega) (by omega))]
   have hrow := w.2 (s[(0 : Int).toNat]'(by show 0 < s.length; omega)) (List.getElem_mem _)
   rw [bind_eq (setR_pos (by omega) (by rw [hrow.1]; omega))]
   exact sat_ok ⟨wf_set w _ (by rw [List.length_set]; exact hrow.1) (rng_set hrow.2 _ ⟨r1, r2⟩), r3⟩
 have ei := lcR_eq (xs := s4.1) (body := fun (x10 : List Int) => R.ok x10) (fun x => x) (by have := w4.1; omega) (fun _ _ => rfl)
 rw [bind_eq ei, List.map_id']
 have wl := w4.1
 refine sat_ok ⟨⟨by dsimp only; omega, by dsimp only; omega, ⟨fans, by omega, fun r hr => (w4.2 r hr).1⟩, fun r hr x hx => ?_⟩, by dsimp only; omega, hb5⟩
 have := (w4.2 r hr).2 x hx
 dsimp only
 rw [wl]; exact this
end U
set_option maxRecDepth 100000
set_option maxHeartbeats 4000000
namespace U
open PySem PySem.Spec Y
open L2 (atI ixN)
def width (n : List (List Int)) : Nat := (n.getD 0 []).length
theorem width_of {n : List (List Int)} (h : NetOk n) : (width n = 2 ∨ width n = 3) ∧ ∀ r ∈ n, r.length = width n := by
 obtain ⟨w, hw, hr⟩ := h.w
 have : width n = w := by
  unfold width
  rw [getD_of (by have := h.l1; omega)]
  exact hr _ (List.getElem_mem _)
 rw [this]; exact ⟨hw, hr⟩
theorem row0 {n : List (List Int)} (h : NetOk n) : ∃ r, ixR n 0 = .ok r ∧ r.length = width n := by
 have l1 := h.l1
 exact ⟨_, ixR_pos (by omega) (by omega), (width_of h).2 _ (List.getElem_mem _)⟩
theorem is_one_of_eq {i n : Int} : t_is_one_of i n = .ok (decide (0 ≤ i) && decide (i < n)) := rfl
theorem is_row_ok {r : List Int} {many ways : Int} (hr : ∀ x ∈ r, 0 ≤ x ∧ x < many) (hw : (r.length : Int) = ways) (h9 : r.length ≤ 9) : t_is_row r many ways = .ok true := by
 unfold t_is_row
 rw [if_neg (by simp [hw])]
 rw [bind_eq (lcR_eq (fun _ => true) (by omega) (fun x hx => by
  rw [is_one_of_eq, R.ok_bind, decide_eq_true (hr x hx).1, decide_eq_true (hr x hx).2]; rfl))]
 simp
theorem mem23 {w : Nat} (h : w = 2 ∨ w = 3) : memB (w : Int) ([(2 : Int), (3 : Int)] : List Int) = true := by
 rcases h with rfl | rfl <;> rfl
theorem is_net_ok {n : List (List Int)} (h : NetOk n) : t_is_net n = .ok true := by
 obtain ⟨r0, e0, hr0⟩ := row0 h
 have hw := width_of h
 have l1 := h.l1
 have l9 := h.l9
 unfold t_is_net
 rw [if_neg (by simp; omega), bind_eq e0]
 have : (if false = true then R.ok true else ((ixR n (0 : Int)).bind fun v2 => R.ok (!(memB (v2.length : Int) ([(2 : Int), (3 : Int)] : (List Int)))))) = R.ok false := by
  rw [if_neg (by simp), bind_eq e0, hr0, mem23 hw.1]
  rfl
 rw [bind_eq this, if_neg (by simp)]
 rw [bind_eq (lcR_eq (fun _ => true) (by omega) (fun r hr => by
  rw [bind_eq e0, bind_eq (is_row_ok (h.e r hr) (by rw [hr0, hw.2 r hr]) (by rw [hw.2 r hr]; omega))]))]
 simp
theorem look_net_ok {n : List (List Int)} (h : NetOk n) : t_look_net n = .ok () := by
 unfold t_look_net
 rw [bind_eq (is_net_ok h)]
 rfl
def mkW (ds : List Nat) : Str := ⟨(ds.map (97 + ·)).toArray⟩
def goalOf (n : List (List Int)) (p : Int) (j : Nat) : Int := (n.getD p.toNat []).getD j 0
theorem goal_in {n : List (List Int)} (h : NetOk n) {p : Int} (h0 : 0 ≤ p) (h1 : p < n.length) {j : Nat} (hj : j < width n) : 0 ≤ goalOf n p j ∧ goalOf n p j < n.length := by
 have hm : n.getD p.toNat [] ∈ n := by rw [getD_of (by omega)]; exact List.getElem_mem _
 have hl := (width_of h).2 _ hm
 refine h.e _ hm _ ?_
 unfold goalOf
 rw [getD_of (l := n.getD p.toNat []) (by rw [hl]; exact hj)]
 exact List.getElem_mem _
end U
set_option maxRecDepth 100000
set_option maxHeartbeats 4000000
namespace U
open PySem PySem.Spec Y
open L2 (atI ixN)
theorem rise_nodup {l : List Int} (h : l.Pairwise (· < ·)) : l.Nodup := h.imp fun {a b} hab => by omega
theorem nodup_len : ∀ (n : Nat) (l : List Int), l.Nodup → (∀ x ∈ l, 0 ≤ x ∧ x < n) → l.length ≤ n
 | 0, l, _, h => by
  cases l with
  | nil => simp
  | cons x l => have := h x List.mem_cons_self; omega
 | n + 1, l, nd, h => by
  by_cases z : (n : Int) ∈ l
  ·have h1 := nodup_len n (l.erase n) (nd.erase _) fun x hx => by
    have h2 := (nd.mem_erase_iff).mp hx
    have h3 := h x h2.2
    have : x ≠ n := h2.1
    omega
   rw [List.length_erase_of_mem z] at h1
   omega
  ·have h1 := nodup_len n l nd fun x hx => by
    have h3 := h x hx
    have : x ≠ n := fun e => z (by rw [← e]; exact hx)
    omega
   omega
structure SetOk (n : List (List Int)) (ps : List Int) : Prop where
 ne : ps ≠ []
 rg : Rng n.length ps
 ri : ps.Pairwise (· < ·)
theorem SetOk.len {n : List (List Int)} {ps : List Int} (h : SetOk n ps) : ps.length ≤ n.length := nodup_len _ _ (rise_nodup h.ri) h.rg
end U
set_option maxRecDepth 100000
set_option maxHeartbeats 4000000
namespace U
open PySem PySem.Spec Y
open L2 (atI ixN)
open PySem.W (dataLe)
theorem le_int {a b : Int} : dataLe false id (.int a) (.int b) = decide (a ≤ b) := by
 show (!((decide (b < a)) || (!(decide (a < b)) && false))) = decide (a ≤ b)
 by_cases h : a ≤ b
 ·rw [decide_eq_true h, decide_eq_false (by omega)]; simp
 ·rw [decide_eq_false h, decide_eq_true (by omega)]; simp
def srt (l : List Int) : List Int := sortBy PyData.int l
theorem srt_perm (l : List Int) : (srt l).Perm l := List.mergeSort_perm _ _
theorem srt_sorted (l : List Int) : (srt l).Pairwise (· ≤ ·) := by
 have := List.pairwise_mergeSort (le := fun a b => dataLe false id (PyData.int a) (PyData.int b)) (fun a b c h1 h2 => by
  simp only [le_int, decide_eq_true_eq] at h1 h2 ⊢; omega) (fun a b => by
  simp only [le_int, Bool.or_eq_true, decide_eq_true_eq]; omega) l
 exact this.imp fun {a b} h => by simpa [le_int] using h
theorem srt_eq {l m : List Int} : srt l = srt m ↔ l.Perm m :=
 ⟨fun h => (srt_perm l).symm.trans (h ▸ srt_perm m), fun h => List.Perm.eq_of_pairwise (le := (· ≤ ·)) (fun a b _ _ h1 h2 => Int.le_antisymm h1 h2) (srt_sorted l) (srt_sorted m) ((srt_perm l).trans (h.trans (srt_perm m).symm))⟩
theorem sort_ok_int (l : List Int) (h : l.length ≤ 16777216) : sortOk (l.map PyData.int) = true := by
 unfold sortOk
 simp only [Bool.and_eq_true, Bool.or_eq_true, decide_eq_true_eq, List.all_eq_true, List.length_map]
 refine ⟨⟨⟨?_, .inr fun d hd => ?_⟩, fun d hd => ?_⟩, by rw [sizeLine_eq]; exact h⟩
 ·unfold allAlikeB
  simp only [List.all_eq_true]
  intro d hd e he
  obtain ⟨a, _, rfl⟩ := List.mem_map.mp hd
  obtain ⟨b, _, rfl⟩ := List.mem_map.mp he
  rfl
 ·obtain ⟨a, _, rfl⟩ := List.mem_map.mp hd
  rfl
 ·obtain ⟨a, _, rfl⟩ := List.mem_map.mp hd
  exact Nat.le_of_ble_eq_true rfl
theorem sortR_int {l : List Int} (h : l.length ≤ 16777216) : sortR PyData.int l = .ok (srt l) := by
 unfold sortR
 rw [if_pos (sort_ok_int l h)]
 rfl
def sameB (a b : List (List Int)) : Bool := decide (a.length = b.length) && (decide (width a = width b) && decide (a.map srt = b.map srt))
theorem many_ways_ok {n : List (List Int)} (h : NetOk n) : t_many_ways n = .ok (width n : Int) := by
 obtain ⟨r, er, hr⟩ := row0 h
 unfold t_many_ways
 rw [bind_eq er, hr]
theorem zip_all {a b : List (List Int)} : a.length = b.length → (((a.zip b).map fun x => decide (srt x.1 = srt x.2)).all id) = decide (a.map srt = b.map srt) := by
 induction a generalizing b with
 | nil =>
  intro h
  cases b with
  | nil => rfl
  | cons y b => simp at h
 | cons x a ih =>
  intro h
  cases b with
  | nil => simp at h
  | cons y b =>
   rw [List.zip_cons_cons, List.map_cons, List.all_cons, ih (by simpa using h), List.map_cons, List.map_cons]
   by_cases e1 : srt x = srt y
   ·by_cases e2 : a.map srt = b.map srt <;> simp [e1, e2]
   ·simp [e1]
theorem have_same_ok {a b : List (List Int)} (ha : NetOk a) (hb : NetOk b) : t_have_same_roads a b = .ok (sameB a b) := by
 unfold t_have_same_roads sameB
 by_cases h1 : a.length = b.length
 ·rw [if_neg (by simp [h1])]
  rw [bind_eq (many_ways_ok ha), bind_eq (many_ways_ok hb)]
  by_cases h2 : width a = width b
  ·rw [decide_eq_true h1, decide_eq_true h2]
   show (if (!(decide ((width a : Int) = (width b : Int)))) = true then _ else _) = _
   rw [if_neg (by simp [h2])]
   have : lcR (a.zip b) (fun (x1 : (List Int) × (List Int)) => (sortR PyData.int x1.1).bind fun v4 => (sortR PyData.int x1.2).bind fun v5 => R.ok (decide (v4 = v5))) = .ok ((a.zip b).map fun x => decide (srt x.1 = srt x.2)) :=
    lcR_eq _ (by rw [List.length_zip]; have := ha.l9; omega) fun x hx => by
     have l1 := (width_of ha).2 x.1 (List.of_mem_zip hx).1
     have l2 := (width_of hb).2 x.2 (List.of_mem_zip hx).2
     have w1 := (width_of ha).1
     have w2 := (width_of hb).1
     rw [bind_eq (sortR_int (by omega)), bind_eq (sortR_int (by omega))]
   rw [bind_eq this, zip_all h1]
   simp
  ·rw [decide_eq_true h1, decide_eq_false h2]
   show (if (!(decide ((width a : Int) = (width b : Int)))) = true then _ else _) = _
   rw [if_pos (by simp; omega)]
   rfl
 ·rw [if_pos (by simp; omega), decide_eq_false h1]
  rfl
end U
set_option maxRecDepth 100000
set_option maxHeartbeats 4000000
namespace U
open PySem PySem.Spec Y
open L2 (atI ixN)
theorem two {r : List Int} (h : r.length = 2) : ∃ a b, r = [a, b] := by
 match r, h with
 | [a, b], _ => exact ⟨a, b, rfl⟩
section
variable {κ ν : Type} [DecidableEq κ] {kvs : List (κ × ν)} {x : κ} {v : ν}
theorem lookM_in (h : x ∈ kvs.map (·.1)) : ∃ v, lookM x kvs = some v ∧ (x, v) ∈ kvs := by
 induction kvs with
 | nil => cases h
 | cons p r ih =>
  obtain ⟨k, w⟩ := p
  unfold lookM
  by_cases q : k = x
  ·subst q
   exact ⟨w, by rw [if_pos rfl], List.mem_cons_self⟩
  ·rw [if_neg q]
   obtain ⟨v, h1, h2⟩ := ih ((List.mem_cons.mp h).resolve_left fun e => q e.symm)
   exact ⟨v, h1, List.mem_cons_of_mem _ h2⟩
theorem putM_new (h : x ∉ kvs.map (·.1)) : putM x v kvs = kvs ++ [(x, v)] := by
 induction kvs with
 | nil => rfl
 | cons p r ih =>
  obtain ⟨k, w⟩ := p
  unfold putM
  rw [if_neg fun q => h (by rw [q]; exact List.mem_cons_self), ih fun z => h (List.mem_cons_of_mem _ z)]
  rfl
theorem setM_new (h : x ∉ kvs.map (·.1)) (hl : kvs.length < 16777216) (hn : (kvs.map (·.1)).Nodup) : setM kvs x v = .ok (kvs ++ [(x, v)]) := by
 unfold setM
 rw [if_pos ⟨by rw [sizeLine_eq]; exact hl, hn⟩, putM_new h]
end
end U
set_option maxRecDepth 100000
set_option maxHeartbeats 4000000
namespace U
open PySem PySem.Spec Y
open L2 (atI ixN)
section
variable {α β σ : Type}
theorem cut_take {xs : List α} {i : Int} (h0 : 0 ≤ i) : cutL xs none (some i) = xs.take i.toNat := by
 unfold cutL
 have e1 : HT.sIx xs.length 0 none = 0 := rfl
 have e2 : HT.sIx xs.length xs.length (some i) = min i.toNat xs.length := by
  unfold HT.sIx
  dsimp only
  rw [if_neg (by omega)]
 rw [e1, e2, List.drop_zero, Nat.sub_zero]
 by_cases z : i.toNat ≤ xs.length
 ·rw [Nat.min_eq_left z]
 ·rw [Nat.min_eq_right (by omega), List.take_of_length_le (by simp), List.take_of_length_le (by omega)]
theorem cut_drop {xs : List α} {i : Int} (h0 : 0 ≤ i) : cutL xs (some i) none = xs.drop i.toNat := by
 unfold cutL
 have e1 : HT.sIx xs.length xs.length none = xs.length := rfl
 have e2 : HT.sIx xs.length 0 (some i) = min i.toNat xs.length := by
  unfold HT.sIx
  dsimp only
  rw [if_neg (by omega)]
 rw [e1, e2]
 by_cases z : i.toNat ≤ xs.length
 ·rw [Nat.min_eq_left z, List.take_of_length_le (by simp)]
 ·rw [Nat.min_eq_right (by omega), Nat.sub_self, List.take_zero, List.drop_eq_nil_of_le (by omega)]
end
end U
set_option maxRecDepth 100000
set_option maxHeartbeats 4000000
namespace U
open PySem PySem.Spec Y
open L2 (atI ixN)
def netD (n : List (List Int)) : PyData := dT (dT PyData.int) n
end U
set_option maxRecDepth 100000
set_option maxHeartbeats 4000000
namespace U
open PySem PySem.Spec Y
open L2 (atI ixN)
theorem flat_le {f : α → List β} {B : Nat} : ∀ l : List α, (∀ x ∈ l, (f x).length ≤ B) → (l.flatMap f).length ≤ l.length * B
 | [], _ => by simp
 | x :: l, h => by
  rw [List.flatMap_cons, List.length_append, List.length_cons, Nat.succ_mul]
  have h1 := h x (by simp)
  have h2 := flat_le l fun y hy => h y (by simp [hy])
  omega
end U
set_option maxRecDepth 100000
set_option maxHeartbeats 4000000
namespace U
open PySem PySem.Spec Y
open L2 (atI ixN)
section bfs
variable {α : Type} [DecidableEq α]
abbrev Qu (α : Type) := List (α × List Nat)
def keys (q : Qu α) : List α := q.map (·.1)
def push1 (w : List Nat) (q : Qu α) (y : α × Nat) : Qu α := if y.1 ∈ keys q then q else q ++ [(y.1, w ++ [y.2])]
def push (w : List Nat) : Qu α → List (α × Nat) → Qu α
 | q, [] => q
 | q, y :: ys => push w (push1 w q y) ys
def bfs (nx : α → List (α × Nat)) : Nat → Qu α → Nat → Qu α
 | 0, q, _ => q
 | n + 1, q, i => match q[i]? with
  | none => q
  | some x => bfs nx n (push x.2 q (nx x.1)) (i + 1)
variable {Al : List α} {w : Nat} {q : Qu α} {nx : α → List (α × Nat)}
theorem push1_pre {v : List Nat} {y : α × Nat} : ∃ t, push1 v q y = q ++ t := by
 unfold push1
 by_cases z : y.1 ∈ keys q
 ·exact ⟨[], by rw [if_pos z, List.append_nil]⟩
 ·exact ⟨_, by rw [if_neg z]⟩
theorem push_pre {v : List Nat} : ∀ (ys : List (α × Nat)) (q : Qu α), ∃ t, push v q ys = q ++ t
 | [], q => ⟨[], by rw [List.append_nil]; rfl⟩
 | y :: ys, q => by
  obtain ⟨t, ht⟩ := push1_pre (v := v) (q := q) (y := y)
  obtain ⟨t2, ht2⟩ := push_pre (v := v) ys (push1 v q y)
  exact ⟨t ++ t2, by show push v (push1 v q y) ys = _; rw [ht2, ht, List.append_assoc]⟩
def Cl (Al : List α) (w : Nat) (nx : α → List (α × Nat)) : Prop := ∀ x ∈ Al, ∀ y ∈ nx x, y.1 ∈ Al ∧ y.2 < w
def start (x : α) : Qu α := [(x, [])]
def reach (Al : List α) (nx : α → List (α × Nat)) (x : α) : Qu α := bfs nx Al.length (start x) 0
inductive Leads (nx : α → List (α × Nat)) (x : α) : α → List Nat → Prop
 | nil : Leads nx x x []
 | snoc {y z : α} {v : List Nat} {k : Nat} : Leads nx x y v → (z, k) ∈ nx y → Leads nx x z (v ++ [k])
end bfs
end U
set_option maxRecDepth 100000
set_option maxHeartbeats 4000000
namespace U
open PySem PySem.Spec Y
open L2 (atI ixN)
section sux
variable {α : Type} [DecidableEq α] {Al : List α} {w : Nat} {q : Qu α}
def suxL (g : Nat → Option α) (ks : List Nat) : List (α × Nat) := ks.filterMap fun k => (g k).map fun y => (y, k)
def sux (w : Nat) (g : Nat → Option α) : List (α × Nat) := suxL g (List.range w)
theorem mem_suxL {g : Nat → Option α} {ks : List Nat} {y : α} {k : Nat} : (y, k) ∈ suxL g ks ↔ k ∈ ks ∧ g k = some y := by
 unfold suxL
 rw [List.mem_filterMap]
 constructor
 ·rintro ⟨a, ha, e⟩
  cases e1 : g a with
  | none => rw [e1] at e; cases e
  | some z => rw [e1] at e; cases e; exact ⟨ha, e1⟩
 ·rintro ⟨ha, e⟩
  exact ⟨k, ha, by rw [e]; rfl⟩
theorem mem_sux {g : Nat → Option α} {y : α} {k : Nat} : (y, k) ∈ sux w g ↔ k < w ∧ g k = some y := by
 unfold sux
 rw [mem_suxL, List.mem_range]
def kv (q : Qu α) : List (α × Str) := q.map fun e => (e.1, mkW e.2)
end sux
def pairsA (m : Nat) : List (Int × Int) := (iota m).flatMap fun i => (iota m).map fun j => (i, j)
theorem pairsA_mem {m : Nat} {x : Int × Int} : x ∈ pairsA m ↔ x.1 ∈ iota m ∧ x.2 ∈ iota m := by
 obtain ⟨a, b⟩ := x
 unfold pairsA
 rw [List.mem_flatMap]
 constructor
 ·rintro ⟨i, hi, hx⟩
  obtain ⟨j, hj, e⟩ := List.mem_map.mp hx
  cases e
  exact ⟨hi, hj⟩
 ·rintro ⟨h1, h2⟩
  exact ⟨a, h1, List.mem_map.mpr ⟨b, h2, rfl⟩⟩
theorem pairsA_len {m : Nat} (h : m ≤ 9) : (pairsA m).length ≤ 81 := by
 have := flat_le (f := fun i => (iota m).map fun j => (i, j)) (B := 9) (iota m) fun i _ => by rw [List.length_map, iota_len]; exact h
 rw [iota_len] at this
 show ((iota m).flatMap _).length ≤ _
 omega
def ledP (n : List (List Int)) (x : Int × Int) (k : Nat) : Int × Int := (iMin (goalOf n x.1 k) (goalOf n x.2 k), iMax (goalOf n x.1 k) (goalOf n x.2 k))
theorem ledP_in {n : List (List Int)} (h : NetOk n) {x : Int × Int} (hx : x ∈ pairsA n.length) {k : Nat} (hk : k < width n) : ledP n x k ∈ pairsA n.length ∧ (ledP n x k).1 ≤ (ledP n x k).2 := by
 obtain ⟨h1, h2⟩ := pairsA_mem.mp hx
 have h1 := iota_mem.mp h1
 have h2 := iota_mem.mp h2
 have g1 := goal_in h h1.1 h1.2 hk
 have g2 := goal_in h h2.1 h2.2 hk
 unfold ledP iMin iMax
 refine ⟨pairsA_mem.mpr ⟨iota_mem.mpr ?_, iota_mem.mpr ?_⟩, ?_⟩
 ·dsimp only; split <;> omega
 ·dsimp only; split <;> omega
 ·dsimp only; split <;> split <;> omega
def gP (n : List (List Int)) (x : Int × Int) (k : Nat) : Option (Int × Int) := if (ledP n x k).1 = (ledP n x k).2 then none else some (ledP n x k)
abbrev nxP (n : List (List Int)) (x : Int × Int) : List ((Int × Int) × Nat) := sux (width n) (gP n x)
def rP (n : List (List Int)) (x : Int × Int) : Qu (Int × Int) := reach (pairsA n.length) (nxP n) x
end U
set_option maxRecDepth 100000
set_option maxHeartbeats 4000000
namespace U
open PySem PySem.Spec Y
open L2 (atI ixN)
theorem sat_smapI {σ α β : Type} {body : σ → α → R (σ × β)} (I : σ → List β → Prop) : ∀ {xs : List α} (ys : List β), (∀ s (i : Nat) x zs, xs[i]? = some x → zs.length = ys.length + i → I s zs → (body s x).sat fun r => I r.1 (zs ++ [r.2])) → ∀ s, I s ys →
  (smapR body xs s).sat fun r => I r.1 (ys ++ r.2) ∧ r.2.length = xs.length
 | [], ys, _, s, h => ⟨_, rfl, by simpa using h, rfl⟩
 | x :: xs, ys, k, s, h => by
  obtain ⟨r, e1, h1⟩ := k s 0 x ys (by simp) (by simp) h
  obtain ⟨q, e2, h2, l2⟩ := sat_smapI I (ys ++ [r.2]) (fun s i y zs hy hl hI => k s (i + 1) y zs (by simpa using hy) (by rw [hl, List.length_append]; simp; omega) hI) r.1 h1
  refine ⟨(q.1, r.2 :: q.2), ?_, by simpa using h2, by simp [l2]⟩
  unfold smapR
  rw [e1]
  show (smapR body xs r.1).bind _ = _
  rw [e2]
  rfl
theorem sat_lcI {σ α β : Type} {body : σ → α → R (σ × β)} (I : σ → List β → Prop) {xs : List α} (hl : xs.length ≤ 16777216) (k : ∀ s (i : Nat) x zs, xs[i]? = some x → zs.length = i → I s zs → (body s x).sat fun r => I r.1 (zs ++ [r.2])) {s : σ} (h : I s []) :
  (lcS xs s body).sat fun r => I r.1 r.2 ∧ r.2.length = xs.length := by
 unfold lcS
 rw [if_pos (by rw [sizeLine_eq]; exact hl)]
 have := sat_smapI (xs := xs) I [] (fun s i x zs hx hz hI => k s i x zs hx (by simpa using hz) hI) s h
 simpa using this
end U
set_option maxRecDepth 100000
set_option maxHeartbeats 4000000
namespace U
open PySem PySem.Spec Y
open L2 (atI ixN)
theorem mm_eq {a b : Int} : iMin a b = iMax a b ↔ a = b := by
 unfold iMin iMax
 split <;> split <;> omega
def tog (n : List (List Int)) (x : Int × Int) (k : Nat) : Bool := decide (goalOf n x.1 k = goalOf n x.2 k)
theorem gP_t {n : List (List Int)} {x : Int × Int} {k : Nat} (h : tog n x k = true) : gP n x k = none := by
 have h := of_decide_eq_true h
 unfold gP ledP
 rw [if_pos (mm_eq.mpr h)]
theorem gP_f {n : List (List Int)} {x : Int × Int} {k : Nat} (h : tog n x k = false) : gP n x k = some (ledP n x k) := by
 have h := of_decide_eq_false h
 have hne : ¬ (ledP n x k).1 = (ledP n x k).2 := fun e => h (mm_eq.mp e)
 unfold gP
 rw [if_neg hne]
end U
set_option maxRecDepth 100000
set_option maxHeartbeats 4000000
namespace U
open PySem PySem.Spec Y
open L2 (atI ixN)
open PySem.W (dataLe)
def row1 (m i : Nat) : List (Int × Int) := (List.range' (i + 1) (m - (i + 1))).map fun j : Nat => ((i : Int), (j : Int))
def prs (m : Nat) : List (Int × Int) := (List.range m).flatMap (row1 m)
theorem prs_mem {m : Nat} {x : Int × Int} : x ∈ prs m ↔ 0 ≤ x.1 ∧ x.1 < x.2 ∧ x.2 < m := by
 unfold prs row1
 rw [List.mem_flatMap]
 constructor
 ·rintro ⟨i, hi, hx⟩
  obtain ⟨j, hj, rfl⟩ := List.mem_map.mp hx
  have := List.mem_range'_1.mp hj
  have := List.mem_range.mp hi
  dsimp only
  omega
 ·obtain ⟨a, b⟩ := x
  rintro ⟨h1, h2, h3⟩
  dsimp only at h1 h2 h3
  exact ⟨a.toNat, List.mem_range.mpr (by omega), List.mem_map.mpr ⟨b.toNat, List.mem_range'_1.mpr (by omega), by ext <;> simp <;> omega⟩⟩
theorem prs_A {m : Nat} {x : Int × Int} (h : x ∈ prs m) : x ∈ pairsA m ∧ x.1 < x.2 := by
 have := prs_mem.mp h
 exact ⟨pairsA_mem.mpr ⟨iota_mem.mpr (by omega), iota_mem.mpr (by omega)⟩, this.2.1⟩
theorem prs_of {m : Nat} {x : Int × Int} (h : x ∈ pairsA m) (h2 : x.1 < x.2) : x ∈ prs m := by
 obtain ⟨a, b⟩ := pairsA_mem.mp h
 have a := iota_mem.mp a
 have b := iota_mem.mp b
 exact prs_mem.mpr (by omega)
end U
set_option maxRecDepth 100000
set_option maxHeartbeats 4000000
namespace U
open PySem PySem.Spec Y
open L2 (atI ixN)
theorem Leads.head {α : Type} {nx : α → List (α × Nat)} {x z y : α} {k : Nat} {v : List Nat} (h : (z, k) ∈ nx x) (l : Leads nx z y v) : ∃ v', Leads nx x y v' := by
 induction l with
 | nil => exact ⟨_, .snoc .nil h⟩
 | snoc _ hz ih =>
  obtain ⟨v', h'⟩ := ih
  exact ⟨_, .snoc h' hz⟩
theorem tog_led {n : List (List Int)} {x : Int × Int} {k : Nat} : tog n x k = true ↔ (ledP n x k).1 = (ledP n x k).2 := by
 unfold tog
 rw [decide_eq_true_iff]
 exact mm_eq.symm
theorem nxP_mem {n : List (List Int)} {x z : Int × Int} {k : Nat} : (z, k) ∈ nxP n x ↔ k < width n ∧ tog n x k = false ∧ ledP n x k = z := by
 rw [mem_sux]
 constructor
 ·rintro ⟨h1, h2⟩
  cases t : tog n x k with
  | true => rw [gP_t t] at h2; cases h2
  | false => rw [gP_f t] at h2; exact ⟨h1, rfl, Option.some.inj h2⟩
 ·rintro ⟨h1, h2, h3⟩
  exact ⟨h1, by rw [gP_f h2, h3]⟩
theorem led_lt {n : List (List Int)} (h : NetOk n) {x : Int × Int} (hx : x ∈ pairsA n.length) {k : Nat} (hk : k < width n) (t : tog n x k = false) : ledP n x k ∈ prs n.length := by
 obtain ⟨h1, h2⟩ := ledP_in h hx hk
 refine prs_of h1 ?_
 have : ¬ (ledP n x k).1 = (ledP n x k).2 := fun e => by
  rw [tog_led.mpr e] at t; cases t
 omega
def callB (n : List (List Int)) (l : List (Int × Int)) : Bool := l.any fun x => (List.range (width n)).any (tog n x)
def callP (n : List (List Int)) (x : Int × Int) : Bool := callB n (keys (rP n x))
def FSound (n : List (List Int)) (Gd F : List (Int × Int)) : Prop := ∀ S : Int × Int → Prop, (∀ g ∈ Gd, S g) → (∀ x ∈ prs n.length, ∀ k, k < width n → S (ledP n x k) → S x) → ∀ x ∈ F, S x
def FClosed (n : List (List Int)) (F : List (Int × Int)) : Prop := ∀ x ∈ prs n.length, ∀ k, k < width n → ledP n x k ∈ F → x ∈ F
structure FI (n : List (List Int)) (Gd F : List (Int × Int)) : Prop where
 nd : F.Nodup
 sub : ∀ x ∈ F, x ∈ pairsA n.length
 gd : ∀ g ∈ Gd, g ∈ F
 snd : FSound n Gd F
theorem FI.len {n : List (List Int)} (h : NetOk n) {Gd F : List (Int × Int)} (hF : FI n Gd F) : F.length ≤ 81 := Nat.le_trans (hF.nd.length_le_of_subset hF.sub) (pairsA_len h.l9)
theorem back {n : List (List Int)} (h : NetOk n) {F : List (Int × Int)} (hc : FClosed n F) {x y : Int × Int} {v : List Nat} (hx : x ∈ prs n.length) (l : Leads (nxP n) x y v) : y ∈ prs n.length ∧ (y ∈ F → x ∈ F) := by
 induction l with
 | nil => exact ⟨hx, id⟩
 | snoc _ hz ih =>
  obtain ⟨a, b⟩ := ih
  obtain ⟨q1, q2, rfl⟩ := nxP_mem.mp hz
  exact ⟨led_lt h (prs_A a).1 q1 q2, fun hf => b (hc _ a _ q1 hf)⟩
end U
set_option maxRecDepth 100000
set_option maxHeartbeats 4000000
namespace U
open PySem PySem.Spec Y
open L2 (atI ixN)
def lostB (n : List (List Int)) (x : Int × Int) : Bool := (keys (rP n x)).any fun y => !(callP n y)
def stbN (n : List (List Int)) : List (Int × Int) := (prs n.length).filter fun x => !(lostB n x)
end U
set_option maxRecDepth 100000
set_option maxHeartbeats 4000000
namespace U
open PySem PySem.Spec Y
open L2 (atI ixN)
def alike (n : List (List Int)) (p q : Int) : Bool := decide (p = q) || memB (iMin p q, iMax p q) (stbN n)
def part (n : List (List Int)) (p : Int) : List Int := (iota n.length).filter (alike n p)
def clsN (n : List (List Int)) : List (List Int) := (iota n.length).filterMap fun p => if (part n p).head? = some p then some (part n p) else none
def num (n : List (List Int)) (p : Int) : Int := ((clsN n).idxOf (part n p) : Nat)
end U
set_option maxRecDepth 100000
set_option maxHeartbeats 4000000
namespace U
open PySem PySem.Spec Y
open L2 (atI ixN)
def nk (n : List (List Int)) (l : List Int) : List (Int × Int) := l.map fun p => (p, num n p)
end U
set_option maxRecDepth 100000
set_option maxHeartbeats 4000000
namespace U
open PySem PySem.Spec Y
open L2 (atI ixN)
section
variable {α : Type} [DecidableEq α] {Al : List α} {w : Nat} {nx : α → List (α × Nat)}
theorem push_has {v : List Nat} : ∀ (ys : List (α × Nat)) (q : Qu α) {y : α × Nat}, y ∈ ys → (∃ e ∈ q, e.1 = y.1) ∨ (∃ e ∈ push v q ys, e.1 = y.1 ∧ e.2.length = v.length + 1)
 | z :: ys, q, y, hy => by
  rcases List.mem_cons.mp hy with rfl | hy
  ·by_cases c : y.1 ∈ keys q
   ·left
    obtain ⟨e, he, ee⟩ := List.mem_map.mp c
    exact ⟨e, he, ee⟩
   ·right
    obtain ⟨t, ht⟩ := push_pre (v := v) ys (push1 v q y)
    refine ⟨(y.1, v ++ [y.2]), ?_, rfl, by simp⟩
    show _ ∈ push v (push1 v q y) ys
    rw [ht]
    unfold push1
    rw [if_neg c]
    simp
  ·rcases push_has ys (push1 v q z) hy with ⟨e, he, ee⟩ | h
   ·unfold push1 at he
    by_cases c : z.1 ∈ keys q
    ·rw [if_pos c] at he
     exact .inl ⟨e, he, ee⟩
    ·rw [if_neg c] at he
     rcases List.mem_append.mp he with a | a
     ·exact .inl ⟨e, a, ee⟩
     ·right
      obtain ⟨t, ht⟩ := push_pre (v := v) ys (push1 v q z)
      refine ⟨e, ?_, ee, by rw [List.mem_singleton.mp a]; simp⟩
      show _ ∈ push v (push1 v q z) ys
      rw [ht]
      unfold push1
      rw [if_neg c]
      exact List.mem_append_left _ (List.mem_append_right _ a)
   ·exact .inr h
structure Lv (nx : α → List (α × Nat)) (q : Qu α) (i : Nat) : Prop where
 up : q.Pairwise fun a b => a.2.length ≤ b.2.length
 near : ∀ x, q[i]? = some x → ∀ e ∈ q, e.2.length ≤ x.2.length + 1
 done : ∀ j, j < i → ∀ x, q[j]? = some x → ∀ y ∈ nx x.1, ∃ e ∈ q, e.1 = y.1 ∧ e.2.length ≤ x.2.length + 1
theorem push1_up {v : List Nat} {q : Qu α} {y : α × Nat} (h : q.Pairwise fun a b => a.2.length ≤ b.2.length) (hn : ∀ e ∈ q, e.2.length ≤ v.length + 1) : (push1 v q y).Pairwise (fun a b => a.2.length ≤ b.2.length) ∧ ∀ e ∈ push1 v q y, e.2.length ≤ v.length + 1 := by
 unfold push1
 by_cases c : y.1 ∈ keys q
 ·rw [if_pos c]; exact ⟨h, hn⟩
 ·rw [if_neg c]
  refine ⟨List.pairwise_append.mpr ⟨h, List.pairwise_singleton .., fun a ha b hb => ?_⟩, fun e he => ?_⟩
  ·rw [List.mem_singleton.mp hb]
   have := hn a ha
   simp; omega
  ·rcases List.mem_append.mp he with a | a
   ·exact hn e a
   ·rw [List.mem_singleton.mp a]; simp
theorem push_up {v : List Nat} : ∀ (ys : List (α × Nat)) {q : Qu α}, q.Pairwise (fun a b => a.2.length ≤ b.2.length) → (∀ e ∈ q, e.2.length ≤ v.length + 1) → (push v q ys).Pairwise (fun a b => a.2.length ≤ b.2.length) ∧ ∀ e ∈ push v q ys, e.2.length ≤ v.length + 1
 | [], q, h, hn => ⟨h, hn⟩
 | y :: ys, q, h, hn => by
  obtain ⟨a, b⟩ := push1_up (y := y) h hn
  exact push_up ys a b
theorem Lv.step {q : Qu α} {i : Nat} (h : Lv nx q i) (hi : i < q.length) : Lv nx (push q[i].2 q (nx q[i].1)) (i + 1) := by
 have hn := h.near q[i] (List.getElem?_eq_getElem hi)
 obtain ⟨a, b⟩ := push_up (nx q[i].1) h.up hn
 obtain ⟨t, ht⟩ := push_pre (v := q[i].2) (nx q[i].1) q
 refine ⟨a, fun x hx e he => ?_, fun j hj x hx y hy => ?_⟩
 ·have h1 := b e he
  have h2 : q[i].2.length ≤ x.2.length := by
   obtain ⟨hl, hle⟩ := List.getElem?_eq_some_iff.mp hx
   have hl' : i < (push q[i].2 q (nx q[i].1)).length := by rw [ht, List.length_append]; omega
   have := List.pairwise_iff_getElem.mp a i (i + 1) hl' hl (by omega)
   have e1 : (push q[i].2 q (nx q[i].1))[i] = q[i] := by
    have : (push q[i].2 q (nx q[i].1))[i]? = q[i]? := by rw [ht, List.getElem?_append_left hi]
    rw [List.getElem?_eq_getElem hl', List.getElem?_eq_getElem hi] at this
    exact Option.some.inj this
   rw [e1, hle] at this
   exact this
  omega
 ·by_cases z : j < i
  ·rw [ht, List.getElem?_append_left (by omega)] at hx
   obtain ⟨e, he, e1, e2⟩ := h.done j z x hx y hy
   exact ⟨e, by rw [ht]; exact List.mem_append_left _ he, e1, e2⟩
  ·have : j = i := by omega
   subst this
   rw [ht, List.getElem?_append_left hi, List.getElem?_eq_getElem hi] at hx
   cases hx
   rcases push_has (v := q[j].2) (nx q[j].1) q hy with ⟨e, he, ee⟩ | ⟨e, he, ee, el⟩
   ·exact ⟨e, by rw [ht]; exact List.mem_append_left _ he, ee, hn e he⟩
   ·exact ⟨e, he, ee, by omega⟩
end
end U
set_option maxRecDepth 100000
set_option maxHeartbeats 4000000
namespace U
open PySem PySem.Spec Y
open L2 (atI ixN)
section
variable {κ ν : Type} [DecidableEq κ]
structure DictOf (f : κ → ν) (kvs : List (κ × ν)) : Prop where
 nd : (kvs.map (·.1)).Nodup
 va : ∀ e ∈ kvs, e.2 = f e.1
theorem putM_same {f : κ → ν} {x : κ} : ∀ {kvs : List (κ × ν)}, (∀ e ∈ kvs, e.2 = f e.1) → x ∈ kvs.map (·.1) → putM x (f x) kvs = kvs
 | [], _, h => by cases h
 | (k, v) :: r, hv, h => by
  unfold putM
  by_cases z : k = x
  ·rw [if_pos z]
   have : v = f k := hv (k, v) (by simp)
   rw [this, z]
  ·rw [if_neg z]
   rw [List.map_cons] at h
   have h' := (List.mem_cons.mp h).resolve_left fun e => z e.symm
   rw [putM_same (fun e he => hv e (by simp [he])) h']
theorem DictOf.set {f : κ → ν} {kvs : List (κ × ν)} (h : DictOf f kvs) (hl : kvs.length < 16777216) (x : κ) : ∃ kvs', setM kvs x (f x) = .ok kvs' ∧ DictOf f kvs' ∧ (∀ k, k ∈ kvs'.map (·.1) ↔ k = x ∨ k ∈ kvs.map (·.1)) ∧ kvs'.length ≤ kvs.length + 1 := by
 by_cases z : x ∈ kvs.map (·.1)
 ·refine ⟨kvs, ?_, h, fun k => ⟨.inr, fun o => o.elim (fun e => e ▸ z) id⟩, by omega⟩
  unfold setM
  rw [if_pos ⟨by rw [sizeLine_eq]; exact hl, h.nd⟩, putM_same h.va z]
 ·refine ⟨kvs ++ [(x, f x)], setM_new z hl h.nd, ⟨?_, fun e he => ?_⟩, fun k => ?_, by simp⟩
  ·rw [List.map_append]
   exact List.nodup_append.mpr ⟨h.nd, by simp, fun a ha b hb e => by
    have : b = x := by simpa using hb
    exact z (this ▸ e ▸ ha)⟩
  ·rcases List.mem_append.mp he with a | a
   ·exact h.va e a
   ·rw [List.mem_singleton.mp a]
  ·rw [List.map_append, List.mem_append]
   simp only [List.map_cons, List.map_nil, List.mem_singleton]
   exact or_comm
theorem DictOf.get {f : κ → ν} {kvs : List (κ × ν)} (h : DictOf f kvs) {x : κ} (hx : x ∈ kvs.map (·.1)) : getM kvs x = .ok (f x) := by
 obtain ⟨v, e1, e2⟩ := lookM_in hx
 unfold getM
 rw [e1, ← h.va _ e2]
end
section
variable {m : Nat} {Rl : Int → Int → Bool}
end
end U
set_option maxRecDepth 100000
set_option maxHeartbeats 4000000
namespace U
open PySem PySem.Spec Y
open L2 (atI ixN)
theorem sameB_comm12 {a b : List (List Int)} : sameB a b = sameB b a := by
 have e : ∀ {α : Type} [DecidableEq α] (x y : α), decide (x = y) = decide (y = x) := fun x y => decide_eq_decide.mpr ⟨Eq.symm, Eq.symm⟩
 unfold sameB
 rw [e a.length, e (width a), e (a.map srt)]
theorem sameB_refl12 {a : List (List Int)} : sameB a a = true := by
 unfold sameB
 rw [decide_eq_true rfl, decide_eq_true rfl, decide_eq_true rfl]
 rfl
theorem counts12 {N : Nat} {x y : List Int} (hx : Rng N x) (hy : Rng N y) : ((iota N).map fun p => ((x.count p : Nat) : Int)) = ((iota N).map fun p => ((y.count p : Nat) : Int)) ↔ srt x = srt y := by
 rw [srt_eq, List.perm_iff_count, List.map_inj_left]
 constructor
 ·intro h a
  by_cases q : 0 ≤ a ∧ a < N
  ·have := h a (iota_mem.mpr q)
   omega
  ·rw [List.count_eq_zero.mpr fun m => q (hx a m), List.count_eq_zero.mpr fun m => q (hy a m)]
 ·intro h a _
  rw [h a]
theorem same_loop12 {a b one : List (List Int)} (ho : one.length ≤ 9) : ∀ (l : List (List Int × List Int)), (∀ x ∈ l, Rng one.length x.1 ∧ Rng one.length x.2) → forC (t__law_same_2_L1 one b) l () = .ok (if (l.map fun x => decide (srt x.1 = srt x.2)).all id = true then .nx () else .rt false)
 | [], _ => rfl
 | x :: l, h => by
  obtain ⟨h1, h2⟩ := h x (by simp)
  have e1 : lcR (iota one.length) (fun (x2 : Int) => R.ok ((x.1.count x2 : Nat) : Int)) = .ok ((iota one.length).map fun p => ((x.1.count p : Nat) : Int)) := lcR_eq _ (by rw [iota_len]; omega) fun _ _ => rfl
  have e2 : lcR (iota one.length) (fun (x3 : Int) => R.ok ((x.2.count x3 : Nat) : Int)) = .ok ((iota one.length).map fun p => ((x.2.count p : Nat) : Int)) := lcR_eq _ (by rw [iota_len]; omega) fun _ _ => rfl
  have ih := same_loop12 (a := a) (b := b) ho l fun y hy => h y (List.mem_cons_of_mem _ hy)
  have step : t__law_same_2_L1 one b () x = .ok (if srt x.1 = srt x.2 then .nx () else .rt false) := by
   unfold t__law_same_2_L1
   rw [bind_eq (rngR_nat (by omega)), bind_eq e1, bind_eq (rngR_nat (by omega)), bind_eq e2]
   by_cases q : srt x.1 = srt x.2
   ·rw [if_neg (by rw [decide_eq_true ((counts12 h1 h2).mpr q)]; simp), if_pos q]
   ·rw [if_pos (by rw [decide_eq_false fun z => q ((counts12 h1 h2).mp z)]; rfl), if_neg q]
  unfold forC
  rw [bind_eq step, List.map_cons, List.all_cons]
  by_cases q : srt x.1 = srt x.2
  ·rw [if_pos q, decide_eq_true q]
   exact ih
  ·rw [if_neg q, decide_eq_false q]
   rfl
theorem same12 {a b : List (List Int)} (ha : NetOk a) (hb : NetOk b) : t__law_same_2 a b = .ok (sameB a b) := by
 obtain ⟨r, er, hr⟩ := row0 ha
 obtain ⟨q, eq, hq⟩ := row0 hb
 unfold t__law_same_2 sameB
 by_cases h1 : a.length = b.length
 ·rw [if_neg (by simp [h1]), bind_eq er, bind_eq eq, hr, hq, decide_eq_true h1]
  by_cases h2 : width a = width b
  ·have hd : decide ((width a : Int) = (width b : Int)) = true := decide_eq_true (by omega)
   rw [hd, decide_eq_true h2, R.ok_bind, if_neg (by simp), bind_eq (same_loop12 (a := a) ha.l9 _ fun x hx => ⟨fun y hy => ha.e _ (List.of_mem_zip hx).1 y hy, fun y hy => by
    have := hb.e _ (List.of_mem_zip hx).2 y hy
    omega⟩), zip_all h1]
   cases decide (a.map srt = b.map srt) <;> rfl
  ·have hd : decide ((width a : Int) = (width b : Int)) = false := decide_eq_false (by omega)
   rw [hd, decide_eq_false h2, R.ok_bind, if_pos (by rfl)]
   rfl
 ·rw [if_pos (by simp; omega), decide_eq_false h1]
  rfl
theorem netOk_of {m w : Nat} {n : List (List Int)} (h : Wf m w n) (h1 : 1 ≤ m) (h9 : m ≤ 9) (hw : w = 2 ∨ w = 3) : NetOk n :=
 ⟨by rw [h.1]; exact h1, by rw [h.1]; exact h9, ⟨w, hw, fun r hr => (h.2 r hr).1⟩, fun r hr x hx => by rw [h.1]; exact (h.2 r hr).2 x hx⟩
theorem turned12 {n : List (List Int)} (h : NetOk n) {b : List Int} (hb : IsBag b) : (t__law_turned b n).sat fun r => Wf n.length (width n) r.1 ∧ IsBag r.2 := by
 have l9 := h.l9
 have w23 := (width_of h).1
 unfold t__law_turned
 refine sat_bind (sat_lcI (fun s ys => (∀ r ∈ ys, r.length = width n ∧ Rng n.length r) ∧ IsBag s) (by omega) (fun s i x zs hx hz hs => ?_) ⟨fun r hr => (by cases hr), hb⟩) fun r hr => ?_
 ·have hm := List.mem_of_getElem? hx
  have hl := (width_of h).2 x hm
  refine sat_bind (order_ok hs.2 (by omega)) fun o ⟨hp, hbo⟩ => ?_
  have ol : o.1.length = x.length := by rw [hp.length_eq, iota_len]
  refine sat_bind (sat_lcR (xs := o.1) (T := fun (_ : Int) (y : Int) => 0 ≤ y ∧ y < (n.length : Int)) (by omega) fun y hy => ?_) fun z hz => ?_
  ·obtain ⟨y0, y1⟩ := iota_mem.mp (hp.mem_iff.mp hy)
   rw [bind_id, ixR_pos y0 y1]
   exact sat_ok (h.e x hm _ (List.getElem_mem _))
  ·obtain ⟨z1, z2⟩ := hz
   refine sat_ok ⟨fun r hr => ?_, hbo⟩
   rcases List.mem_append.mp hr with a | a
   ·exact hs.1 r a
   ·rw [List.mem_singleton.mp a]
    show z.length = width n ∧ Rng n.length z
    refine ⟨by omega, fun y hy => ?_⟩
    obtain ⟨j, hj, e⟩ := List.mem_iff_getElem.mp hy
    exact z2 j _ y (List.getElem?_eq_getElem (by omega)) (by rw [List.getElem?_eq_getElem hj, e])
 ·exact sat_ok ⟨⟨hr.2, hr.1.1⟩, hr.1.2⟩
theorem other12 {n : List (List Int)} (h : NetOk n) {b : List Int} (hb : IsBag b) : (t__law_other b n).sat fun r => NetOk r.1 ∧ IsBag r.2 := by
 have l9 := h.l9
 have l1 := h.l1
 have w23 := (width_of h).1
 unfold t__law_other
 refine sat_bind (take_ok hb (by omega) (by omega)) fun v1 ⟨_, _, hb1⟩ => ?_
 refine sat_bind (take_ok hb1 (by omega) (by omega)) fun v2 ⟨a0, a1, hb2⟩ => ?_
 refine sat_bind (take_ok hb2 (by omega) (by omega)) fun v3 ⟨t0, t1, hb3⟩ => ?_
 refine sat_bind (turned12 h hb3) fun v4 ⟨hw, hb4⟩ => ?_
 have wl := hw.1
 refine sat_ite (fun _ => ?_) fun _ => sat_ite (fun _ => ?_) fun _ => sat_ite (fun _ => ?_) fun _ => sat_ite (fun _ => ?_) fun _ => sat_ite (fun _ => ?_) fun _ => sat_ite (fun _ => ?_) fun _ => ?_
 ·-- a goal exchanged
  have hk : v2.1.toNat < v4.1.length := by omega
  have hr := hw.2 _ (List.getElem_mem hk)
  rw [bind_eq (ixR_pos a0 (by omega)), cut_drop (by omega)]
  have dl : (v4.1[v2.1.toNat].drop (1 : Int).toNat).length = width n - 1 := by rw [List.length_drop, hr.1]; rfl
  rw [bind_eq (catR_eq (by rw [dl]; simp; omega)), cut_take a0, cut_drop (by omega)]
  have e : v4.1.take v2.1.toNat ++ [[v3.1] ++ v4.1[v2.1.toNat].drop (1 : Int).toNat] ++ v4.1.drop (v2.1 + 1).toNat = v4.1.set v2.1.toNat ([v3.1] ++ v4.1[v2.1.toNat].drop (1 : Int).toNat) := by
   rw [List.set_eq_take_append_cons_drop, if_pos hk, show (v2.1 + 1).toNat = v2.1.toNat + 1 by omega]
   simp
  have tl : (v4.1.take v2.1.toNat).length ≤ 9 := by rw [List.length_take]; omega
  rw [bind_eq (catR_eq (by simp; omega)), bind_eq (catR_eq (by simp; omega)), e]
  refine sat_ok ⟨netOk_of (wf_set hw _ (by rw [List.length_append, dl]; simp; omega) fun x hx => ?_) l1 l9 w23, hb4⟩
  rcases List.mem_append.mp hx with q | q
  ·rw [List.mem_singleton.mp q]; exact ⟨t0, t1⟩
  ·exact hr.2 x (List.mem_of_mem_drop q)
 ·-- two rows exchanged
  have hk : v2.1.toNat < v4.1.length := by omega
  have hj : v3.1.toNat < v4.1.length := by omega
  rw [bind_eq (ixR_pos t0 (by omega)), bind_eq (ixR_pos a0 (by omega))]
  dsimp only
  have r1 := hw.2 _ (List.getElem_mem hj)
  have r2 := hw.2 _ (List.getElem_mem hk)
  rw [bind_eq (setR_pos a0 (by omega)), bind_eq (setR_pos t0 (by rw [List.length_set]; omega))]
  exact sat_ok ⟨netOk_of (wf_set (wf_set hw _ r1.1 r1.2) _ r2.1 r2.2) l1 l9 w23, hb4⟩
 ·-- rows more
  rw [bind_eq (catR_eq (by omega)), cut_take (by omega)]
  have tl : ((v4.1 ++ v4.1).take (9 : Int).toNat).length = min 9 (n.length + n.length) := by rw [List.length_take, List.length_append, wl]; rfl
  refine sat_ok ⟨netOk_of (m := min 9 (n.length + n.length)) (w := width n) ⟨tl, fun r hr => ?_⟩ (by omega) (by omega) w23, hb4⟩
  have hm := List.mem_of_mem_take hr
  have hr' := hw.2 r ((List.mem_append.mp hm).elim id id)
  exact ⟨hr'.1, fun x hx => by have := hr'.2 x hx; omega⟩
 ·-- a goal of each row more
  have e : lcR v4.1 (fun (x1 : (List Int)) => (catR x1 x1).bind fun v14 => R.ok (cutL v14 none (some (3 : Int)))) = .ok (v4.1.map fun r => (r ++ r).take 3) := lcR_eq _ (by omega) fun r hr => by
   have := (hw.2 r hr).1
   rw [bind_eq (catR_eq (by omega)), cut_take (by omega)]
   rfl
  rw [bind_eq e]
  refine sat_ok ⟨netOk_of (m := n.length) (w := 3) ⟨by rw [List.length_map, wl], fun r hr => ?_⟩ l1 l9 (.inr rfl), hb4⟩
  obtain ⟨q, hq, rfl⟩ := List.mem_map.mp hr
  have hq' := hw.2 q hq
  refine ⟨by rw [List.length_take, List.length_append, hq'.1]; omega, fun x hx => ?_⟩
  exact hq'.2 x ((List.mem_append.mp (List.mem_of_mem_take hx)).elim id id)
 ·-- or less
  have e : lcR v4.1 (fun (x2 : (List Int)) => R.ok (cutL x2 none (some (2 : Int)))) = .ok (v4.1.map fun r => r.take 2) := lcR_eq _ (by omega) fun r hr => by
   rw [cut_take (by omega)]
   rfl
  rw [bind_eq e]
  refine sat_ok ⟨netOk_of (m := n.length) (w := 2) ⟨by rw [List.length_map, wl], fun r hr => ?_⟩ l1 l9 (.inl rfl), hb4⟩
  obtain ⟨q, hq, rfl⟩ := List.mem_map.mp hr
  have hq' := hw.2 q hq
  exact ⟨by rw [List.length_take, hq'.1]; omega, fun x hx => hq'.2 x (List.mem_of_mem_take hx)⟩
 ·refine sat_bind (net_ok hb4 (most := 9) (by omega) (by omega)) fun r hr => sat_ok ⟨hr.1, hr.2.2⟩
 ·exact sat_ok ⟨netOk_of hw l1 l9 w23, hb4⟩
theorem law12_true {ns : List Int} (hn : ns.length ≤ 63) : t_law_86 ns = .ok true := by
 unfold t_law_86
 have hmin : 0 ≤ iMax 1 (iMin 6 (ns.length : Int)) ∧ iMax 1 (iMin 6 (ns.length : Int)) ≤ 16 := by unfold iMax iMin; split <;> split <;> omega
 rw [bind_eq (rngR_eq (by omega) (by omega))]
 have same : ∀ {a b : List (List Int)}, NetOk a → NetOk b → t_same_roads a b = .ok (sameB a b) := fun ha hb => by
  unfold t_same_roads
  rw [bind_eq (look_net_ok ha), bind_eq (look_net_ok hb), bind_id, have_same_ok ha hb]
 have : forC (t_law_86_L1 ns) (iota (iMax 1 (iMin 6 (ns.length : Int))).toNat) () = .ok (.nx ()) := forC_unit fun k hk => by
  obtain ⟨k0, k1⟩ := iota_mem.mp hk
  obtain ⟨b, eb, hb⟩ := bag_ok hn (k := k) k0 (by omega)
  obtain ⟨⟨n, b1⟩, er, h, _, hb1⟩ := net_ok hb (most := 9) (by omega) (by omega)
  dsimp only at h hb1
  have loop : (forC (t_law_86_L2 ns k n) (iota 3) b1).sat fun c => ∃ s, c = .nx s ∧ IsBag s := by
   refine sat_forC (iota 3) (fun _ s => IsBag s) (fun i s x hx hs => ?_) _ hb1
   obtain ⟨⟨o, b2⟩, eo, ho, hb2⟩ := other12 h hs
   dsimp only at ho hb2
   unfold t_law_86_L2
   rw [bind_eq eo]
   dsimp only
   rw [bind_eq (same12 h ho), bind_eq (same h ho), bind_eq (same ho h), sameB_comm12 (a := o), if_neg (by simp)]
   exact ⟨_, rfl, _, rfl, hb2⟩
  obtain ⟨c, ec, s, rfl, _⟩ := loop
  unfold t_law_86_L1
  rw [bind_eq eb, bind_eq er]
  dsimp only
  have e3 : rngR 0 (3 : Int) = .ok (iota 3) := rngR_nat (n := 3) (by omega)
  have e14 := same h h
  rw [sameB_refl12] at e14
  rw [bind_eq e3, bind_eq ec]
  show ((t_same_roads n n).bind _) = _
  rw [bind_eq e14, if_neg (by simp)]
 rw [bind_eq this]
 rfl
end U
set_option maxHeartbeats 4000000
namespace Q12
open PySem PySem.Spec L2 Y D
def top (i : Nat) : Stmt := PySem.Challenge.pw_roadcall_k12_the_same_roads.main.body.getD i (.Pass ⟨0, 0, 0, 0⟩)
structure Fx (K : PySem.W.Frag) (mg : Str → Option Value) where
 f_is_whole : Addr
 fd_is_whole : FuncData
 F_is_whole : FunD K "is_whole" "is_whole" (defArgs (top 6)) (defBody (top 6)) (defScope (top 6)) [] [] f_is_whole fd_is_whole
 g_is_whole : mg "is_whole" = some (.ref f_is_whole)
 f_is_one_of : Addr
 fd_is_one_of : FuncData
 F_is_one_of : FunD K "is_one_of" "is_one_of" (defArgs (top 7)) (defBody (top 7)) (defScope (top 7)) [] [] f_is_one_of fd_is_one_of
 g_is_one_of : mg "is_one_of" = some (.ref f_is_one_of)
 f_is_row : Addr
 fd_is_row : FuncData
 F_is_row : FunD K "is_row" "is_row" (defArgs (top 8)) (defBody (top 8)) (defScope (top 8)) [] [] f_is_row fd_is_row
 g_is_row : mg "is_row" = some (.ref f_is_row)
 f_is_net : Addr
 fd_is_net : FuncData
 F_is_net : FunD K "is_net" "is_net" (defArgs (top 9)) (defBody (top 9)) (defScope (top 9)) [] [] f_is_net fd_is_net
 g_is_net : mg "is_net" = some (.ref f_is_net)
 f_look_net : Addr
 fd_look_net : FuncData
 F_look_net : FunD K "look_net" "look_net" (defArgs (top 10)) (defBody (top 10)) (defScope (top 10)) [] [] f_look_net fd_look_net
 g_look_net : mg "look_net" = some (.ref f_look_net)
 f_many_ways : Addr
 fd_many_ways : FuncData
 F_many_ways : FunD K "many_ways" "many_ways" (defArgs (top 11)) (defBody (top 11)) (defScope (top 11)) [] [] f_many_ways fd_many_ways
 g_many_ways : mg "many_ways" = some (.ref f_many_ways)
 f_have_same_roads : Addr
 fd_have_same_roads : FuncData
 F_have_same_roads : FunD K "have_same_roads" "have_same_roads" (defArgs (top 13)) (defBody (top 13)) (defScope (top 13)) [] [] f_have_same_roads fd_have_same_roads
 g_have_same_roads : mg "have_same_roads" = some (.ref f_have_same_roads)
 f_same_roads : Addr
 fd_same_roads : FuncData
 F_same_roads : FunD K "same_roads" "same_roads" (defArgs (top 14)) (defBody (top 14)) (defScope (top 14)) [] [] f_same_roads fd_same_roads
 g_same_roads : mg "same_roads" = some (.ref f_same_roads)
 f__law_bag : Addr
 fd__law_bag : FuncData
 F__law_bag : FunD K "_law_bag" "_law_bag" (defArgs (top 16)) (defBody (top 16)) (defScope (top 16)) [] [] f__law_bag fd__law_bag
 g__law_bag : mg "_law_bag" = some (.ref f__law_bag)
 f__law_take : Addr
 fd__law_take : FuncData
 F__law_take : FunD K "_law_take" "_law_take" (defArgs (top 17)) (defBody (top 17)) (defScope (top 17)) [] [] f__law_take fd__law_take
 g__law_take : mg "_law_take" = some (.ref f__law_take)
 f__law_order : Addr
 fd__law_order : FuncData
 F__law_order : FunD K "_law_order" "_law_order" (defArgs (top 18)) (defBody (top 18)) (defScope (top 18)) [] [] f__law_order fd__law_order
 g__law_order : mg "_law_order" = some (.ref f__law_order)
 f__law_net : Addr
 fd__law_net : FuncData
 F__law_net : FunD K "_law_net" "_law_net" (defArgs (top 19)) (defBody (top 19)) (defScope (top 19)) [] [] f__law_net fd__law_net
 g__law_net : mg "_law_net" = some (.ref f__law_net)
 f__law_turned : Addr
 fd__law_turned : FuncData
 F__law_turned : FunD K "_law_turned" "_law_turned" (defArgs (top 20)) (defBody (top 20)) (defScope (top 20)) [] [] f__law_turned fd__law_turned
 g__law_turned : mg "_law_turned" = some (.ref f__law_turned)
 f__law_other : Addr
 fd__law_other : FuncData
 F__law_other : FunD K "_law_other" "_law_other" (defArgs (top 21)) (defBody (top 21)) (defScope (top 21)) [] [] f__law_other fd__law_other
 g__law_other : mg "_law_other" = some (.ref f__law_other)
 f__law_same : Addr
 fd__law_same : FuncData
 F__law_same : FunD K "_law_same" "_law_same" (defArgs (top 22)) (defBody (top 22)) (defScope (top 22)) [] [] f__law_same fd__law_same
 g__law_same : mg "_law_same" = some (.ref f__law_same)
 f_law : Addr
 fd_law : FuncData
 F_law : FunD K "law" "law" (defArgs (top 23)) (defBody (top 23)) (defScope (top 23)) [] [] f_law fd_law
 g_law : mg "law" = some (.ref f_law)
 n_abs : mg "abs" = none
 n_all : mg "all" = none
 n_bool : mg "bool" = none
 n_int : mg "int" = none
 n_isinstance : mg "isinstance" = none
 n_len : mg "len" = none
 n_list : mg "list" = none
 n_max : mg "max" = none
 n_min : mg "min" = none
 n_range : mg "range" = none
 n_sorted : mg "sorted" = none
 n_tuple : mg "tuple" = none
 n_zip : mg "zip" = none
 c_MOST_PLACES : ∃ t, mg "MOST_PLACES" = some (.int 9 t)
 a_WAYS : Addr
 g_WAYS : mg "WAYS" = some (.ref a_WAYS)
 c_WAYS : ∀ F, Dp K F (.ref a_WAYS) (.tuple [(.int 2), (.int 3)])
 g_NoNet : mg "NoNet" = some (.ref (He.ga K "NoNet"))
 r_NoNet : RzOk K mg "NoNet"
section
variable {P : Program} {w : World} {K : PySem.W.Frag} {mg : Str → Option Value} {base : Heap} (Y : Fx K mg)
include Y
theorem k_is_whole : PySem.W.keepIn K (.ref Y.f_is_whole) = true := Y.F_is_whole.kp
theorem b_is_whole_ : Binds K Y.fd_is_whole ["thing"] [] := Y.F_is_whole.bindsN fun _ _ _ _ _ _ us hl => match us, hl with | [_], _ => rfl
theorem s_is_whole : FnScope ["thing"] ["thing"] (defScope (top 6)) := ⟨rfl, rfl, rfl, by decide +kernel, rfl, by decide +kernel, by decide +kernel⟩
theorem w_is_whole : FnOk P w K mg base (L2N.CX P w) 1 Y.f_is_whole Y.fd_is_whole ["thing"] (spOf K mg m_is_whole) := by
 have hN : (["thing"] : List Str).Nodup := (s_is_whole Y).nd
 refine fn_ok Y.F_is_whole (s_is_whole Y) (fun _ _ _ _ => False) fun cdv A outer s H E hr => ?_
 have tk := L2N.takes_of (X := CxF P w K mg base ["thing"] "is_whole" (defScope (top 6)) Y.f_is_whole cdv A outer s H E) (E := E) rfl rfl rfl rfl
 exact (ds_one (ds_ret (de_and (de_isi .int (yv 0) rfl Y.n_isinstance rfl Y.n_int (by with_unfolding_all rfl)) (de_one (de_not (de_isi .bool (yv 0) rfl Y.n_isinstance rfl Y.n_bool (by with_unfolding_all rfl)))))))
theorem k_is_one_of : PySem.W.keepIn K (.ref Y.f_is_one_of) = true := Y.F_is_one_of.kp
theorem b_is_one_of_ : Binds K Y.fd_is_one_of ["thing", "many"] [] := Y.F_is_one_of.bindsN fun _ _ _ _ _ _ us hl => match us, hl with | [_, _], _ => rfl
theorem s_is_one_of : FnScope ["thing", "many"] ["thing", "many"] (defScope (top 7)) := ⟨rfl, rfl, rfl, by decide +kernel, rfl, by decide +kernel, by decide +kernel⟩
theorem w_is_one_of : FnOk P w K mg base (L2N.CX P w) 2 Y.f_is_one_of Y.fd_is_one_of ["thing", "many"] (spOf K mg m_is_one_of) := by
 have hN : (["thing", "many"] : List Str).Nodup := (s_is_one_of Y).nd
 refine fn_ok Y.F_is_one_of (s_is_one_of Y) (fun _ _ _ _ => False) fun cdv A outer s H E hr => ?_
 have tk := L2N.takes_of (X := CxF P w K mg base ["thing", "many"] "is_one_of" (defScope (top 7)) Y.f_is_one_of cdv A outer s H E) (E := E) rfl rfl rfl rfl
 exact (ds_one (ds_ret (de_and (de_fn ((w_is_whole Y).mono (by decide)) hr rfl Y.g_is_whole (k_is_whole Y) (b_is_whole_ Y) tk (da_cons (yv 0) da_nil)) (de_one (de_chain (og_le hr.units) (og_lt hr.units) de_int (yv 0) (yv 1))))))
theorem k_is_row : PySem.W.keepIn K (.ref Y.f_is_row) = true := Y.F_is_row.kp
theorem b_is_row_ : Binds K Y.fd_is_row ["thing", "many", "ways"] [] := Y.F_is_row.bindsN fun _ _ _ _ _ _ us hl => match us, hl with | [_, _, _], _ => rfl
theorem s_is_row : FnScope ["thing", "many", "ways", "place"] ["thing", "many", "ways"] (defScope (top 8)) := ⟨rfl, rfl, rfl, by decide +kernel, rfl, by decide +kernel, by decide +kernel⟩
theorem w_is_row : FnOk P w K mg base (L2N.CX P w) 3 Y.f_is_row Y.fd_is_row ["thing", "many", "ways"] (spOf K mg m_is_row) := by
 have hN : (["thing", "many", "ways", "place"] : List Str).Nodup := (s_is_row Y).nd
 refine fn_ok Y.F_is_row (s_is_row Y) (fun _ _ _ _ => False) fun cdv A outer s H E hr => ?_
 have tk := L2N.takes_of (X := CxF P w K mg base ["thing", "many", "ways", "place"] "is_row" (defScope (top 8)) Y.f_is_row cdv A outer s H E) (E := E) rfl rfl rfl rfl
 exact (ds_cons (ds_if (dt_w (dw_or (dt_not (dt_val (de_isi .tuple (yv 0) rfl Y.n_isinstance rfl Y.n_tuple (by with_unfolding_all rfl)))) (dw_or1 (dt_cmp (og_ne hr.units) (de_callB cb_len rfl Y.n_len (by with_unfolding_all rfl) (da_cons (yv 0) da_nil)) (yv 2) (nomark _))))) (ds_one (ds_ret de_bl)) ds_nil) (ds_one (ds_ret (de_view 0 (de_callB (cb_all rfl) rfl Y.n_all (by with_unfolding_all rfl) (da_cons (de_lc (own := [("place", 3)]) ct_name rfl hN (di_seq (yv 0)) (blkOk_by (by kernel_rfl)) (fun _ _ _ _ _ => yg 3 hN) (fun _ _ _ _ _ => dts_nil) (fun _ _ _ _ _ => (de_fn ((w_is_one_of Y).mono (by decide)) hr rfl Y.g_is_one_of (k_is_one_of Y) (b_is_one_of_ Y) takes_never (da_cons (yv 3) (da_cons (yv 1) da_nil))))) da_nil))))))
theorem k_is_net : PySem.W.keepIn K (.ref Y.f_is_net) = true := Y.F_is_net.kp
theorem b_is_net_ : Binds K Y.fd_is_net ["thing"] [] := Y.F_is_net.bindsN fun _ _ _ _ _ _ us hl => match us, hl with | [_], _ => rfl
theorem s_is_net : FnScope ["thing", "row"] ["thing"] (defScope (top 9)) := ⟨rfl, rfl, rfl, by decide +kernel, rfl, by decide +kernel, by decide +kernel⟩
theorem w_is_net : FnOk P w K mg base (L2N.CX P w) 4 Y.f_is_net Y.fd_is_net ["thing"] (spOf K mg m_is_net) := by
 have hN : (["thing", "row"] : List Str).Nodup := (s_is_net Y).nd
 refine fn_ok Y.F_is_net (s_is_net Y) (fun _ _ _ _ => False) fun cdv A outer s H E hr => ?_
 have tk := L2N.takes_of (X := CxF P w K mg base ["thing", "row"] "is_net" (defScope (top 9)) Y.f_is_net cdv A outer s H E) (E := E) rfl rfl rfl rfl
 exact (ds_cons (ds_if (dt_w (dw_or (dt_not (dt_val (de_isi .tuple (yv 0) rfl Y.n_isinstance rfl Y.n_tuple (by with_unfolding_all rfl)))) (dw_or1 (dt_not (dt_chain (og_le hr.units) (og_le hr.units) de_int (de_callB cb_len rfl Y.n_len (by with_unfolding_all rfl) (da_cons (yv 0) da_nil)) (yglobI Y.c_MOST_PLACES)))))) (ds_one (ds_ret de_bl)) ds_nil) (ds_cons (ds_if (dt_w (dw_or (dt_not (dt_val (de_isi .tuple (de_ix (hu1 hr :) (yv 0) de_int) rfl Y.n_isinstance rfl Y.n_tuple (by with_unfolding_all rfl)))) (dw_or1 (dt_cmp (og_notIn (hu65 hr :)) (de_callB cb_len rfl Y.n_len (by with_unfolding_all rfl) (da_cons (de_ix (hu1 hr :) (yv 0) de_int) da_nil)) (yglobT Y.g_WAYS Y.c_WAYS) rfl)))) (ds_one (ds_ret de_bl)) ds_nil) (ds_one (ds_ret (de_view 0 (de_callB (cb_all rfl) rfl Y.n_all (by with_unfolding_all rfl) (da_cons (de_lc (own := [("row", 1)]) ct_name rfl hN (di_seq (yv 0)) (blkOk_by (by kernel_rfl)) (fun _ _ _ _ _ => yg 1 hN) (fun _ _ _ _ _ => dts_nil) (fun _ _ _ _ _ => (de_fn ((w_is_row Y).mono (by decide)) hr rfl Y.g_is_row (k_is_row Y) (b_is_row_ Y) takes_never (da_cons (yv 1) (da_cons (de_callB cb_len rfl Y.n_len (by with_unfolding_all rfl) (da_cons (yv 0) da_nil)) (da_cons (de_callB cb_len rfl Y.n_len (by with_unfolding_all rfl) (da_cons (de_ix (hu1 hr :) (yv 0) de_int) da_nil)) da_nil)))))) da_nil)))))))
theorem k_look_net : PySem.W.keepIn K (.ref Y.f_look_net) = true := Y.F_look_net.kp
theorem b_look_net_ : Binds K Y.fd_look_net ["thing"] [] := Y.F_look_net.bindsN fun _ _ _ _ _ _ us hl => match us, hl with | [_], _ => rfl
theorem s_look_net : FnScope ["thing"] ["thing"] (defScope (top 10)) := ⟨rfl, rfl, rfl, by decide +kernel, rfl, by decide +kernel, by decide +kernel⟩
theorem w_look_net : FnOk P w K mg base (L2N.CX P w) 5 Y.f_look_net Y.fd_look_net ["thing"] (spOf K mg m_look_net) := by
 have hN : (["thing"] : List Str).Nodup := (s_look_net Y).nd
 refine fn_ok Y.F_look_net (s_look_net Y) (fun _ _ _ _ => False) fun cdv A outer s H E hr => ?_
 have tk := L2N.takes_of (X := CxF P w K mg base ["thing"] "look_net" (defScope (top 10)) Y.f_look_net cdv A outer s H E) (E := E) rfl rfl rfl rfl
 exact (ds_one (ds_if (dt_not (dt_val (de_fn ((w_is_net Y).mono (by decide)) hr rfl Y.g_is_net (k_is_net Y) (b_is_net_ Y) tk (da_cons (yv 0) da_nil)))) (ds_one (ds_raiseY Y.r_NoNet rfl tk)) ds_nil))
theorem k_many_ways : PySem.W.keepIn K (.ref Y.f_many_ways) = true := Y.F_many_ways.kp
theorem b_many_ways_ : Binds K Y.fd_many_ways ["net"] [] := Y.F_many_ways.bindsN fun _ _ _ _ _ _ us hl => match us, hl with | [_], _ => rfl
theorem s_many_ways : FnScope ["net"] ["net"] (defScope (top 11)) := ⟨rfl, rfl, rfl, by decide +kernel, rfl, by decide +kernel, by decide +kernel⟩
theorem w_many_ways : FnOk P w K mg base (L2N.CX P w) 1 Y.f_many_ways Y.fd_many_ways ["net"] (spOf K mg m_many_ways) := by
 have hN : (["net"] : List Str).Nodup := (s_many_ways Y).nd
 refine fn_ok Y.F_many_ways (s_many_ways Y) (fun _ _ _ _ => False) fun cdv A outer s H E hr => ?_
 have tk := L2N.takes_of (X := CxF P w K mg base ["net"] "many_ways" (defScope (top 11)) Y.f_many_ways cdv A outer s H E) (E := E) rfl rfl rfl rfl
 exact (ds_one (ds_ret (de_callB cb_len rfl Y.n_len (by with_unfolding_all rfl) (da_cons (de_ix (hu1 hr :) (yv 0) de_int) da_nil))))
theorem k_have_same_roads : PySem.W.keepIn K (.ref Y.f_have_same_roads) = true := Y.F_have_same_roads.kp
theorem b_have_same_roads_ : Binds K Y.fd_have_same_roads ["one", "other"] [] := Y.F_have_same_roads.bindsN fun _ _ _ _ _ _ us hl => match us, hl with | [_, _], _ => rfl
theorem s_have_same_roads : FnScope ["one", "other", "row", "twin"] ["one", "other"] (defScope (top 13)) := ⟨rfl, rfl, rfl, by decide +kernel, rfl, by decide +kernel, by decide +kernel⟩
theorem w_have_same_roads : FnOk P w K mg base (L2N.CX P w) 2 Y.f_have_same_roads Y.fd_have_same_roads ["one", "other"] (spOf K mg m_have_same_roads) := by
 have hN : (["one", "other", "row", "twin"] : List Str).Nodup := (s_have_same_roads Y).nd
 refine fn_ok Y.F_have_same_roads (s_have_same_roads Y) (fun _ _ _ _ => False) fun cdv A outer s H E hr => ?_
 have tk := L2N.takes_of (X := CxF P w K mg base ["one", "other", "row", "twin"] "have_same_roads" (defScope (top 13)) Y.f_have_same_roads cdv A outer s H E) (E := E) rfl rfl rfl rfl
 exact (ds_cons (ds_if (dt_w (dw_or (dt_cmp (og_ne hr.units) (de_callB cb_len rfl Y.n_len (by with_unfolding_all rfl) (da_cons (yv 0) da_nil)) (de_callB cb_len rfl Y.n_len (by with_unfolding_all rfl) (da_cons (yv 1) da_nil)) (nomark _)) (dw_or1 (dt_cmp (og_ne hr.units) (de_fn ((w_many_ways Y).mono (by decide)) hr rfl Y.g_many_ways (k_many_ways Y) (b_many_ways_ Y) tk (da_cons (yv 0) da_nil)) (de_fn ((w_many_ways Y).mono (by decide)) hr rfl Y.g_many_ways (k_many_ways Y) (b_many_ways_ Y) tk (da_cons (yv 1) da_nil)) (nomark _))))) (ds_one (ds_ret de_bl)) ds_nil) (ds_one (ds_ret (de_callB (cb_all rfl) rfl Y.n_all (by with_unfolding_all rfl) (da_cons (de_lc (own := [("row", 2), ("twin", 3)]) ct_tup rfl hN (di_zip Y.n_zip (da_cons (de_fz (yv 0)) (da_cons (de_fz (yv 1)) da_nil))) (blkOk_by (by kernel_rfl)) (fun _ _ _ _ _ => ygt (pgs_cons (ygn 2 hN) (pgs_cons (ygn 3 hN) (pgs_nil)))) (fun _ _ _ _ _ => dts_nil) (fun _ _ _ _ _ => (de_cmp (og_eq hr.units) (de_callB (cb_sorted hr.units) rfl Y.n_sorted (by with_unfolding_all rfl) (da_cons (yv 2) da_nil)) (de_callB (cb_sorted hr.units) rfl Y.n_sorted (by with_unfolding_all rfl) (da_cons (yv 3) da_nil)) (nomark _)))) da_nil)))))
theorem k_same_roads : PySem.W.keepIn K (.ref Y.f_same_roads) = true := Y.F_same_roads.kp
theorem b_same_roads_ : Binds K Y.fd_same_roads ["one", "other"] [] := Y.F_same_roads.bindsN fun _ _ _ _ _ _ us hl => match us, hl with | [_, _], _ => rfl
theorem s_same_roads : FnScope ["one", "other"] ["one", "other"] (defScope (top 14)) := ⟨rfl, rfl, rfl, by decide +kernel, rfl, by decide +kernel, by decide +kernel⟩
theorem w_same_roads : FnOk P w K mg base (L2N.CX P w) 6 Y.f_same_roads Y.fd_same_roads ["one", "other"] (spOf K mg m_same_roads) := by
 have hN : (["one", "other"] : List Str).Nodup := (s_same_roads Y).nd
 refine fn_ok Y.F_same_roads (s_same_roads Y) (fun _ _ _ _ => False) fun cdv A outer s H E hr => ?_
 have tk := L2N.takes_of (X := CxF P w K mg base ["one", "other"] "same_roads" (defScope (top 14)) Y.f_same_roads cdv A outer s H E) (E := E) rfl rfl rfl rfl
 exact (ds_cons (ds_expr (de_fn ((w_look_net Y).mono (by decide)) hr rfl Y.g_look_net (k_look_net Y) (b_look_net_ Y) tk (da_cons (yv 0) da_nil))) (ds_cons (ds_expr (de_fn ((w_look_net Y).mono (by decide)) hr rfl Y.g_look_net (k_look_net Y) (b_look_net_ Y) tk (da_cons (yv 1) da_nil))) (ds_one (ds_ret (de_fn ((w_have_same_roads Y).mono (by decide)) hr rfl Y.g_have_same_roads (k_have_same_roads Y) (b_have_same_roads_ Y) tk (da_cons (yv 0) (da_cons (yv 1) da_nil)))))))
theorem k__law_bag : PySem.W.keepIn K (.ref Y.f__law_bag) = true := Y.F__law_bag.kp
theorem b__law_bag_ : Binds K Y.fd__law_bag ["_law_script", "_law_at"] [] := Y.F__law_bag.bindsN fun _ _ _ _ _ _ us hl => match us, hl with | [_, _], _ => rfl
theorem s__law_bag : FnScope ["_law_script", "_law_at", "_law_cell", "_law_mix", "_law_k"] ["_law_script", "_law_at"] (defScope (top 16)) := ⟨rfl, rfl, rfl, by decide +kernel, rfl, by decide +kernel, by decide +kernel⟩
theorem w__law_bag : FnOk P w K mg base (L2N.CX P w) 1 Y.f__law_bag Y.fd__law_bag ["_law_script", "_law_at"] (spOf K mg m__law_bag) := by
 have hN : (["_law_script", "_law_at", "_law_cell", "_law_mix", "_law_k"] : List Str).Nodup := (s__law_bag Y).nd
 refine fn_ok Y.F__law_bag (s__law_bag Y) (fun _ _ _ _ => False) fun cdv A outer s H E hr => ?_
 have tk := L2N.takes_of (X := CxF P w K mg base ["_law_script", "_law_at", "_law_cell", "_law_mix", "_law_k"] "_law_bag" (defScope (top 16)) Y.f__law_bag cdv A outer s H E) (E := E) rfl rfl rfl rfl
 exact (ds_cons (yset 2 hN de_int) (ds_cons (ds_if (dt_cmp (og_lt hr.units) (yv 1) (de_callB cb_len rfl Y.n_len (by with_unfolding_all rfl) (da_cons (yv 0) da_nil)) (nomark _)) (ds_one (yset 2 hN (de_callB cb_abs rfl Y.n_abs (by with_unfolding_all rfl) (da_cons (de_ix (hu1 hr :) (yv 0) (yv 1)) da_nil)))) ds_nil) (ds_cons (yset 3 hN (de_op og_add (de_op og_mul de_int (yv 1)) de_int)) (ds_cons (ds_for (passes_of rfl) rfl (di_rng1 rfl Y.n_range (da_cons (de_callB (cb_min rfl) rfl Y.n_min (by with_unfolding_all rfl) (da_cons (de_callB cb_len rfl Y.n_len (by with_unfolding_all rfl) (da_cons (yv 0) da_nil)) (da_cons de_int da_nil))) da_nil)) (ysetg 4 hN) (ds_one (yset 3 hN (de_op og_mod (de_op og_add (de_op og_add (de_op og_mul (yv 3) de_int) (de_op og_mod (de_ix (hu1 hr :) (yv 0) (yv 4)) de_int)) (yv 4)) de_int)))) (ds_cons (ds_if (dt_cmp (og_lt hr.units) (yv 2) (de_op og_pow de_int de_int) (nomark _)) (ds_one (yset 2 hN de_int)) ds_nil) (ds_one (ds_ret (de_lst (da_cons (de_fz (yv 2)) (da_cons (de_fz (yv 3)) da_nil))))))))))
theorem k__law_take : PySem.W.keepIn K (.ref Y.f__law_take) = true := Y.F__law_take.kp
theorem b__law_take_ : Binds K Y.fd__law_take ["_law_bag_here", "_law_many"] [] := Y.F__law_take.bindsN fun _ _ _ _ _ _ us hl => match us, hl with | [_, _], _ => rfl
theorem s__law_take : FnScope ["_law_bag_here", "_law_many", "_law_digit", "_law_number", "_law_room"] ["_law_bag_here", "_law_many"] (defScope (top 17)) := ⟨rfl, rfl, rfl, by decide +kernel, rfl, by decide +kernel, by decide +kernel⟩
theorem w__law_take : FnOk P w K mg base (L2N.CX P w) 1 Y.f__law_take Y.fd__law_take ["_law_bag_here", "_law_many"] (spOf K mg m__law_take) := by
 have hN : (["_law_bag_here", "_law_many", "_law_digit", "_law_number", "_law_room"] : List Str).Nodup := (s__law_take Y).nd
 refine fn_ok Y.F__law_take (s__law_take Y) (fun _ _ _ _ => False) fun cdv A outer s H E hr => ?_
 have tk := L2N.takes_of (X := CxF P w K mg base ["_law_bag_here", "_law_many", "_law_digit", "_law_number", "_law_room"] "_law_take" (defScope (top 17)) Y.f__law_take cdv A outer s H E) (E := E) rfl rfl rfl rfl
 exact (ds_cons (ds_if (dt_cmp (og_gt hr.units) (de_ix (hu1 hr :) (yv 0) de_int) de_int (nomark _)) (ds_cons (yset 2 hN (de_op og_mod (de_ix (hu1 hr :) (yv 0) de_int) (yv 1))) (ds_cons (ds_asg (de_op og_fdiv (de_ix (hu1 hr :) (yv 0) de_int) (yv 1)) (dg_st (hu1 hr :) (yv 0) de_int)) (ds_one (ds_ret (de_mv (yv 2)))))) ds_nil) (ds_cons (yset 3 hN de_int) (ds_cons (yset 4 hN de_int) (ds_cons (ds_while (passes_of rfl) (dt_cmp (og_lt hr.units) (yv 4) (yv 1) (nomark _)) (ds_cons (ds_asg (de_op og_mod (de_op og_add (de_op og_mul (de_ix (hu1 hr :) (yv 0) de_int) de_int) de_int) de_int) (dg_st (hu1 hr :) (yv 0) de_int)) (ds_cons (yset 3 hN (de_op og_add (de_op og_mul (yv 3) de_int) (de_op og_mod (de_op og_mul (de_op og_fdiv (de_ix (hu1 hr :) (yv 0) de_int) de_int) de_int) de_int))) (ds_one (yset 4 hN (de_op og_mul (yv 4) de_int)))))) (ds_one (ds_ret (de_op og_mod (yv 3) (yv 1))))))))
theorem k__law_order : PySem.W.keepIn K (.ref Y.f__law_order) = true := Y.F__law_order.kp
theorem b__law_order_ : Binds K Y.fd__law_order ["_law_bag_here", "_law_many"] [] := Y.F__law_order.bindsN fun _ _ _ _ _ _ us hl => match us, hl with | [_, _], _ => rfl
theorem s__law_order : FnScope ["_law_bag_here", "_law_many", "_law_rest", "_law_found", "_law_k"] ["_law_bag_here", "_law_many"] (defScope (top 18)) := ⟨rfl, rfl, rfl, by decide +kernel, rfl, by decide +kernel, by decide +kernel⟩
theorem w__law_order : FnOk P w K mg base (L2N.CX P w) 2 Y.f__law_order Y.fd__law_order ["_law_bag_here", "_law_many"] (spOf K mg m__law_order) := by
 have hN : (["_law_bag_here", "_law_many", "_law_rest", "_law_found", "_law_k"] : List Str).Nodup := (s__law_order Y).nd
 refine fn_ok Y.F__law_order (s__law_order Y) (fun _ _ _ _ => False) fun cdv A outer s H E hr => ?_
 have tk := L2N.takes_of (X := CxF P w K mg base ["_law_bag_here", "_law_many", "_law_rest", "_law_found", "_law_k"] "_law_order" (defScope (top 18)) Y.f__law_order cdv A outer s H E) (E := E) rfl rfl rfl rfl
 exact (ds_cons (yset 2 hN (de_listRg rfl rfl Y.n_list (dr_1 rfl Y.n_range (yv 1)))) (ds_cons (yset 3 hN (de_lst da_nil)) (ds_cons (ds_for (passes_of rfl) rfl (di_rng1 rfl Y.n_range (da_cons (yv 1) da_nil)) (ysetg 4 hN) (ds_one (ds_expr (de_append (yv 3) (de_mut mm_popAt PySem.F.slot_list_pop (by with_unfolding_all rfl) (yv 2) (da_cons (de_fn ((w__law_take Y).mono (by decide)) hr rfl Y.g__law_take (k__law_take Y) (b__law_take_ Y) tk (da_cons (yv 0) (da_cons (de_callB cb_len rfl Y.n_len (by with_unfolding_all rfl) (da_cons (yv 2) da_nil)) da_nil))) da_nil)))))) (ds_one (ds_ret (de_mv (yv 3)))))))
theorem k__law_net : PySem.W.keepIn K (.ref Y.f__law_net) = true := Y.F__law_net.kp
theorem b__law_net_ : Binds K Y.fd__law_net ["_law_bag_here", "_law_most"] [] := Y.F__law_net.bindsN fun _ _ _ _ _ _ us hl => match us, hl with | [_, _], _ => rfl
theorem s__law_net : FnScope ["_law_bag_here", "_law_most", "_law_many", "_law_fans", "_law_kind", "_law_lap", "_law_order_here", "_law_rows", "_law_place", "_law_k", "_law_goals", "_law_j", "_law_fan", "_law_row"] ["_law_bag_here", "_law_most"] (defScope (top 19)) := ⟨rfl, rfl, rfl, by decide +kernel, rfl, by decide +kernel, by decide +kernel⟩
theorem w__law_net : FnOk P w K mg base (L2N.CX P w) 3 Y.f__law_net Y.fd__law_net ["_law_bag_here", "_law_most"] (spOf K mg m__law_net) := by
 have hN : (["_law_bag_here", "_law_most", "_law_many", "_law_fans", "_law_kind", "_law_lap", "_law_order_here", "_law_rows", "_law_place", "_law_k", "_law_goals", "_law_j", "_law_fan", "_law_row"] : List Str).Nodup := (s__law_net Y).nd
 refine fn_ok Y.F__law_net (s__law_net Y) (fun _ _ _ _ => False) fun cdv A outer s H E hr => ?_
 have tk := L2N.takes_of (X := CxF P w K mg base ["_law_bag_here", "_law_most", "_law_many", "_law_fans", "_law_kind", "_law_lap", "_law_order_here", "_law_rows", "_law_place", "_law_k", "_law_goals", "_law_j", "_law_fan", "_law_row"] "_law_net" (defScope (top 19)) Y.f__law_net cdv A outer s H E) (E := E) rfl rfl rfl rfl
 exact (ds_cons (yset 2 hN (de_op og_add de_int (de_fn ((w__law_take Y).mono (by decide)) hr rfl Y.g__law_take (k__law_take Y) (b__law_take_ Y) tk (da_cons (yv 0) (da_cons (yv 1) da_nil))))) (ds_cons (yset 3 hN (de_op og_add de_int (de_fn ((w__law_take Y).mono (by decide)) hr rfl Y.g__law_take (k__law_take Y) (b__law_take_ Y) tk (da_cons (yv 0) (da_cons de_int da_nil))))) (ds_cons (yset 4 hN (de_fn ((w__law_take Y).mono (by decide)) hr rfl Y.g__law_take (k__law_take Y) (b__law_take_ Y) tk (da_cons (yv 0) (da_cons de_int da_nil)))) (ds_cons (yset 5 hN de_int) (ds_cons (ds_if (dt_cmp (og_eq hr.units) (yv 4) de_int (nomark _)) (ds_cons (yset 5 hN (de_callB (cb_min rfl) rfl Y.n_min (by with_unfolding_all rfl) (da_cons (de_op og_add de_int (de_fn ((w__law_take Y).mono (by decide)) hr rfl Y.g__law_take (k__law_take Y) (b__law_take_ Y) tk (da_cons (yv 0) (da_cons de_int da_nil)))) (da_cons (yv 2) da_nil)))) (ds_one (yset 2 hN (de_op og_mul (de_op og_fdiv (yv 2) (yv 5)) (yv 5))))) ds_nil) (ds_cons (yset 6 hN (de_fn ((w__law_order Y).mono (by decide)) hr rfl Y.g__law_order (k__law_order Y) (b__law_order_ Y) tk (da_cons (yv 0) (da_cons (yv 2) da_nil)))) (ds_cons (ds_setLc (own := [("_law_place", 8)]) ct_name rfl hN rfl rfl rfl (di_rng1 rfl Y.n_range (da_cons (yv 2) da_nil)) (blkOk_by (by kernel_rfl)) (fun _ _ _ _ _ => yg 8 hN) (fun _ _ _ _ _ => dts_nil) (fun _ _ _ _ _ => (de_lst da_nil))) (ds_cons (ds_for (passes_of rfl) rfl (di_rng1 rfl Y.n_range (da_cons (yv 2) da_nil)) (ysetg 9 hN) (ds_cons (ds_setLc (own := [("_law_j", 11)]) ct_name rfl hN rfl rfl rfl (di_rng1 rfl Y.n_range (da_cons (yv 2) da_nil)) (blkOk_by (by kernel_rfl)) (fun _ _ _ _ _ => yg 11 hN) (fun _ _ _ _ _ => dts_one (dt_cmp (og_eq hr.units) (de_op og_mod (yv 11) (yv 5)) (de_op og_mod (de_op og_add (yv 9) de_int) (yv 5)) (nomark _))) (fun _ _ _ _ _ => (de_fz (de_ix (hu1 hr :) (yv 6) (yv 11))))) (ds_one (ds_for (passes_of rfl) rfl (di_rng1 rfl Y.n_range (da_cons (yv 3) da_nil)) (ysetg 12 hN) (ds_one (ds_expr (de_append (de_ix (hu1 hr :) (yv 7) (de_ix (hu1 hr :) (yv 6) (yv 9))) (de_fz (de_ix (hu1 hr :) (yv 10) (de_fn ((w__law_take Y).mono (by decide)) hr rfl Y.g__law_take (k__law_take Y) (b__law_take_ Y) tk (da_cons (yv 0) (da_cons (de_callB cb_len rfl Y.n_len (by with_unfolding_all rfl) (da_cons (yv 10) da_nil)) da_nil)))))))))))) (ds_cons (ds_if (dt_cmp (og_gt hr.units) (yv 4) de_int (nomark _)) (ds_one (ds_for (passes_of rfl) rfl (di_rng1 rfl Y.n_range (da_cons (yv 2) da_nil)) (ysetg 9 hN) (ds_one (ds_asg (de_fz (de_ix (hu1 hr :) (yv 6) (yv 9))) (dg_st (hu1 hr :) (de_ix (hu1 hr :) (yv 7) (de_ix (hu1 hr :) (yv 6) (de_op og_sub (yv 9) de_int))) (de_fn ((w__law_take Y).mono (by decide)) hr rfl Y.g__law_take (k__law_take Y) (b__law_take_ Y) tk (da_cons (yv 0) (da_cons (yv 3) da_nil)))))))) ds_nil) (ds_cons (ds_if (dt_cmp (og_eq hr.units) (yv 4) de_int (nomark _)) (ds_cons (ds_for (passes_of rfl) rfl (di_rng1 rfl Y.n_range (da_cons (yv 2) da_nil)) (ysetg 9 hN) (ds_one (ds_asg (de_op og_mul (de_lst (da_cons (de_fz (de_ix (hu1 hr :) (yv 6) (yv 9))) da_nil)) (yv 3)) (dg_st (hu1 hr :) (yv 7) (de_ix (hu1 hr :) (yv 6) (de_op og_sub (yv 9) de_int)))))) (ds_one (ds_asg (de_fn ((w__law_take Y).mono (by decide)) hr rfl Y.g__law_take (k__law_take Y) (b__law_take_ Y) tk (da_cons (yv 0) (da_cons (yv 2) da_nil))) (dg_st (hu1 hr :) (de_ix (hu1 hr :) (yv 7) de_int) de_int)))) ds_nil) (ds_one (ds_ret (de_callTy ct_tuple rfl Y.n_tuple (by with_unfolding_all rfl) (da_cons (de_lc (own := [("_law_row", 13)]) ct_name rfl hN (di_seq (yv 7)) (blkOk_by (by kernel_rfl)) (fun _ _ _ _ _ => yg 13 hN) (fun _ _ _ _ _ => dts_nil) (fun _ _ _ _ _ => (de_callTy ct_tuple rfl Y.n_tuple (by with_unfolding_all rfl) (da_cons (de_fz (yv 13)) da_nil)))) da_nil))))))))))))))
theorem k__law_turned : PySem.W.keepIn K (.ref Y.f__law_turned) = true := Y.F__law_turned.kp
theorem b__law_turned_ : Binds K Y.fd__law_turned ["_law_bag_here", "_law_net_here"] [] := Y.F__law_turned.bindsN fun _ _ _ _ _ _ us hl => match us, hl with | [_, _], _ => rfl
theorem s__law_turned : FnScope ["_law_bag_here", "_law_net_here", "_law_k", "_law_row"] ["_law_bag_here", "_law_net_here"] (defScope (top 20)) := ⟨rfl, rfl, rfl, by decide +kernel, rfl, by decide +kernel, by decide +kernel⟩
theorem w__law_turned : FnOk P w K mg base (L2N.CX P w) 3 Y.f__law_turned Y.fd__law_turned ["_law_bag_here", "_law_net_here"] (spOf K mg m__law_turned) := by
 have hN : (["_law_bag_here", "_law_net_here", "_law_k", "_law_row"] : List Str).Nodup := (s__law_turned Y).nd
 refine fn_ok Y.F__law_turned (s__law_turned Y) (fun _ _ _ _ => False) fun cdv A outer s H E hr => ?_
 have tk := L2N.takes_of (X := CxF P w K mg base ["_law_bag_here", "_law_net_here", "_law_k", "_law_row"] "_law_turned" (defScope (top 20)) Y.f__law_turned cdv A outer s H E) (E := E) rfl rfl rfl rfl
 exact (ds_one (ds_ret (de_callTy ct_tuple rfl Y.n_tuple (by with_unfolding_all rfl) (da_cons (de_lc (own := [("_law_row", 3)]) ct_name rfl hN (di_seq (yv 1)) (blkOk_by (by kernel_rfl)) (fun _ _ _ _ _ => yg 3 hN) (fun _ _ _ _ _ => dts_nil) (fun _ _ _ _ _ => (de_callTy ct_tuple rfl Y.n_tuple (by with_unfolding_all rfl) (da_cons (de_lc (own := [("_law_k", 2)]) ct_name rfl hN (di_seq (de_fn ((w__law_order Y).mono (by decide)) hr rfl Y.g__law_order (k__law_order Y) (b__law_order_ Y) takes_never (da_cons (yv 0) (da_cons (de_callB cb_len rfl Y.n_len (by with_unfolding_all rfl) (da_cons (yv 3) da_nil)) da_nil)))) (blkOk_by (by kernel_rfl)) (fun _ _ _ _ _ => yg 2 hN) (fun _ _ _ _ _ => dts_nil) (fun _ _ _ _ _ => (de_fz (de_ix (hu1 hr :) (yv 3) (yv 2))))) da_nil)))) da_nil))))
theorem k__law_other : PySem.W.keepIn K (.ref Y.f__law_other) = true := Y.F__law_other.kp
theorem b__law_other_ : Binds K Y.fd__law_other ["_law_bag_here", "_law_net_here"] [] := Y.F__law_other.bindsN fun _ _ _ _ _ _ us hl => match us, hl with | [_, _], _ => rfl
theorem s__law_other : FnScope ["_law_bag_here", "_law_net_here", "_law_how", "_law_at", "_law_to", "_law_made", "_law_rows", "_law_row"] ["_law_bag_here", "_law_net_here"] (defScope (top 21)) := ⟨rfl, rfl, rfl, by decide +kernel, rfl, by decide +kernel, by decide +kernel⟩
theorem w__law_other : FnOk P w K mg base (L2N.CX P w) 4 Y.f__law_other Y.fd__law_other ["_law_bag_here", "_law_net_here"] (spOf K mg m__law_other) := by
 have hN : (["_law_bag_here", "_law_net_here", "_law_how", "_law_at", "_law_to", "_law_made", "_law_rows", "_law_row"] : List Str).Nodup := (s__law_other Y).nd
 refine fn_ok Y.F__law_other (s__law_other Y) (fun _ _ _ _ => False) fun cdv A outer s H E hr => ?_
 have tk := L2N.takes_of (X := CxF P w K mg base ["_law_bag_here", "_law_net_here", "_law_how", "_law_at", "_law_to", "_law_made", "_law_rows", "_law_row"] "_law_other" (defScope (top 21)) Y.f__law_other cdv A outer s H E) (E := E) rfl rfl rfl rfl
 exact (ds_cons (yset 2 hN (de_fn ((w__law_take Y).mono (by decide)) hr rfl Y.g__law_take (k__law_take Y) (b__law_take_ Y) tk (da_cons (yv 0) (da_cons de_int da_nil)))) (ds_cons (yset 3 hN (de_fn ((w__law_take Y).mono (by decide)) hr rfl Y.g__law_take (k__law_take Y) (b__law_take_ Y) tk (da_cons (yv 0) (da_cons (de_callB cb_len rfl Y.n_len (by with_unfolding_all rfl) (da_cons (yv 1) da_nil)) da_nil)))) (ds_cons (yset 4 hN (de_fn ((w__law_take Y).mono (by decide)) hr rfl Y.g__law_take (k__law_take Y) (b__law_take_ Y) tk (da_cons (yv 0) (da_cons (de_callB cb_len rfl Y.n_len (by with_unfolding_all rfl) (da_cons (yv 1) da_nil)) da_nil)))) (ds_cons (yset 5 hN (de_fn ((w__law_turned Y).mono (by decide)) hr rfl Y.g__law_turned (k__law_turned Y) (b__law_turned_ Y) tk (da_cons (yv 0) (da_cons (yv 1) da_nil)))) (ds_cons (ds_if (dt_cmp (og_eq hr.units) (yv 2) de_int (nomark _)) (ds_one (ds_ret (de_op og_add (de_op og_add (de_sl (yv 5) do_none (do_some (yv 3))) (de_tup (da_cons (de_fz (de_op og_add (de_tup (da_cons (de_fz (yv 4)) da_nil)) (de_sl (de_ix (hu1 hr :) (yv 5) (yv 3)) (do_some de_int) do_none))) da_nil))) (de_sl (yv 5) (do_some (de_op og_add (yv 3) de_int)) do_none)))) ds_nil) (ds_cons (ds_if (dt_cmp (og_eq hr.units) (yv 2) de_int (nomark _)) (ds_cons (yset 6 hN (de_callTy (ct_list rfl) rfl Y.n_list (by with_unfolding_all rfl) (da_cons (yv 5) da_nil))) (ds_cons (ds_asg (de_tup (da_cons (de_fz (de_ix (hu1 hr :) (yv 6) (yv 4))) (da_cons (de_fz (de_ix (hu1 hr :) (yv 6) (yv 3))) da_nil))) (dg_tup rfl (dgs_cons (dg_st (hu1 hr :) (yv 6) (yv 3)) (dgs_cons (dg_st (hu1 hr :) (yv 6) (yv 4)) dgs_nil)))) (ds_one (ds_ret (de_callTy ct_tuple rfl Y.n_tuple (by with_unfolding_all rfl) (da_cons (de_fz (yv 6)) da_nil)))))) ds_nil) (ds_cons (ds_if (dt_cmp (og_eq hr.units) (yv 2) de_int (nomark _)) (ds_one (ds_ret (de_sl (de_op og_add (yv 5) (yv 5)) do_none (do_some de_int)))) ds_nil) (ds_cons (ds_if (dt_cmp (og_eq hr.units) (yv 2) de_int (nomark _)) (ds_one (ds_ret (de_callTy ct_tuple rfl Y.n_tuple (by with_unfolding_all rfl) (da_cons (de_lc (own := [("_law_row", 7)]) ct_name rfl hN (di_seq (yv 5)) (blkOk_by (by kernel_rfl)) (fun _ _ _ _ _ => yg 7 hN) (fun _ _ _ _ _ => dts_nil) (fun _ _ _ _ _ => (de_sl (de_op og_add (yv 7) (yv 7)) do_none (do_some de_int)))) da_nil)))) ds_nil) (ds_cons (ds_if (dt_cmp (og_eq hr.units) (yv 2) de_int (nomark _)) (ds_one (ds_ret (de_callTy ct_tuple rfl Y.n_tuple (by with_unfolding_all rfl) (da_cons (de_lc (own := [("_law_row", 7)]) ct_name rfl hN (di_seq (yv 5)) (blkOk_by (by kernel_rfl)) (fun _ _ _ _ _ => yg 7 hN) (fun _ _ _ _ _ => dts_nil) (fun _ _ _ _ _ => (de_sl (yv 7) do_none (do_some de_int)))) da_nil)))) ds_nil) (ds_cons (ds_if (dt_cmp (og_eq hr.units) (yv 2) de_int (nomark _)) (ds_one (ds_ret (de_fn ((w__law_net Y).mono (by decide)) hr rfl Y.g__law_net (k__law_net Y) (b__law_net_ Y) tk (da_cons (yv 0) (da_cons de_int da_nil))))) ds_nil) (ds_one (ds_ret (de_mv (yv 5))))))))))))))
theorem k__law_same : PySem.W.keepIn K (.ref Y.f__law_same) = true := Y.F__law_same.kp
theorem b__law_same_ : Binds K Y.fd__law_same ["_law_one", "_law_other_here"] [] := Y.F__law_same.bindsN fun _ _ _ _ _ _ us hl => match us, hl with | [_, _], _ => rfl
theorem s__law_same : FnScope ["_law_one", "_law_other_here", "_law_row", "_law_twin", "_law_place"] ["_law_one", "_law_other_here"] (defScope (top 22)) := ⟨rfl, rfl, rfl, by decide +kernel, rfl, by decide +kernel, by decide +kernel⟩
theorem w__law_same : FnOk P w K mg base (L2N.CX P w) 1 Y.f__law_same Y.fd__law_same ["_law_one", "_law_other_here"] (spOf K mg m__law_same_2) := by
 have hN : (["_law_one", "_law_other_here", "_law_row", "_law_twin", "_law_place"] : List Str).Nodup := (s__law_same Y).nd
 refine fn_ok Y.F__law_same (s__law_same Y) (fun _ _ _ _ => False) fun cdv A outer s H E hr => ?_
 have tk := L2N.takes_of (X := CxF P w K mg base ["_law_one", "_law_other_here", "_law_row", "_law_twin", "_law_place"] "_law_same" (defScope (top 22)) Y.f__law_same cdv A outer s H E) (E := E) rfl rfl rfl rfl
 exact (ds_cons (ds_if (dt_w (dw_or (dt_cmp (og_ne hr.units) (de_callB cb_len rfl Y.n_len (by with_unfolding_all rfl) (da_cons (yv 0) da_nil)) (de_callB cb_len rfl Y.n_len (by with_unfolding_all rfl) (da_cons (yv 1) da_nil)) (nomark _)) (dw_or1 (dt_cmp (og_ne hr.units) (de_callB cb_len rfl Y.n_len (by with_unfolding_all rfl) (da_cons (de_ix (hu1 hr :) (yv 0) de_int) da_nil)) (de_callB cb_len rfl Y.n_len (by with_unfolding_all rfl) (da_cons (de_ix (hu1 hr :) (yv 1) de_int) da_nil)) (nomark _))))) (ds_one (ds_ret de_bl)) ds_nil) (ds_cons (ds_for (passes_of rfl) rfl (di_zip Y.n_zip (da_cons (de_fz (yv 0)) (da_cons (de_fz (yv 1)) da_nil))) (dg_tup rfl (dgs_cons (ysetg 2 hN) (dgs_cons (ysetg 3 hN) dgs_nil))) (ds_one (ds_if (dt_cmp (og_ne hr.units) (de_lc (own := [("_law_place", 4)]) ct_name rfl hN (di_rng1 rfl Y.n_range (da_cons (de_callB cb_len rfl Y.n_len (by with_unfolding_all rfl) (da_cons (yv 0) da_nil)) da_nil)) (blkOk_by (by kernel_rfl)) (fun _ _ _ _ _ => yg 4 hN) (fun _ _ _ _ _ => dts_nil) (fun _ _ _ _ _ => (de_metT (mm_tcount (hu65 hr :)) PySem.F.plainAttrs_tuple PySem.F.slot_tuple_count (by with_unfolding_all rfl) (yv 2) (da_cons (yv 4) da_nil)))) (de_lc (own := [("_law_place", 4)]) ct_name rfl hN (di_rng1 rfl Y.n_range (da_cons (de_callB cb_len rfl Y.n_len (by with_unfolding_all rfl) (da_cons (yv 0) da_nil)) da_nil)) (blkOk_by (by kernel_rfl)) (fun _ _ _ _ _ => yg 4 hN) (fun _ _ _ _ _ => dts_nil) (fun _ _ _ _ _ => (de_metT (mm_tcount (hu65 hr :)) PySem.F.plainAttrs_tuple PySem.F.slot_tuple_count (by with_unfolding_all rfl) (yv 3) (da_cons (yv 4) da_nil)))) (nomark _)) (ds_one (ds_ret de_bl)) ds_nil))) (ds_one (ds_ret de_bl))))
theorem k_law : PySem.W.keepIn K (.ref Y.f_law) = true := Y.F_law.kp
theorem b_law_ : Binds K Y.fd_law ["_law_script"] [] := Y.F_law.bindsN fun _ _ _ _ _ _ us hl => match us, hl with | [_], _ => rfl
theorem s_law : FnScope ["_law_script", "_law_k", "_law_bag_here", "_law_net_here", "_law_j", "_law_other_here", "_law_due", "_law_found"] ["_law_script"] (defScope (top 23)) := ⟨rfl, rfl, rfl, by decide +kernel, rfl, by decide +kernel, by decide +kernel⟩
theorem w_law : FnOk P w K mg base (L2N.CX P w) 7 Y.f_law Y.fd_law ["_law_script"] (spOf K mg m_law_86) := by
 have hN : (["_law_script", "_law_k", "_law_bag_here", "_law_net_here", "_law_j", "_law_other_here", "_law_due", "_law_found"] : List Str).Nodup := (s_law Y).nd
 refine fn_ok Y.F_law (s_law Y) (fun _ _ _ _ => False) fun cdv A outer s H E hr => ?_
 have tk := L2N.takes_of (X := CxF P w K mg base ["_law_script", "_law_k", "_law_bag_here", "_law_net_here", "_law_j", "_law_other_here", "_law_due", "_law_found"] "law" (defScope (top 23)) Y.f_law cdv A outer s H E) (E := E) rfl rfl rfl rfl
 exact (ds_cons (ds_for (passes_of rfl) rfl (di_rng1 rfl Y.n_range (da_cons (de_callB (cb_max rfl) rfl Y.n_max (by with_unfolding_all rfl) (da_cons de_int (da_cons (de_callB (cb_min rfl) rfl Y.n_min (by with_unfolding_all rfl) (da_cons de_int (da_cons (de_callB cb_len rfl Y.n_len (by with_unfolding_all rfl) (da_cons (yv 0) da_nil)) da_nil))) da_nil))) da_nil)) (ysetg 1 hN) (ds_cons (yset 2 hN (de_fn ((w__law_bag Y).mono (by decide)) hr rfl Y.g__law_bag (k__law_bag Y) (b__law_bag_ Y) tk (da_cons (yv 0) (da_cons (yv 1) da_nil)))) (ds_cons (yset 3 hN (de_fn ((w__law_net Y).mono (by decide)) hr rfl Y.g__law_net (k__law_net Y) (b__law_net_ Y) tk (da_cons (yv 2) (da_cons de_int da_nil)))) (ds_cons (ds_for (passes_of rfl) rfl (di_rng1 rfl Y.n_range (da_cons de_int da_nil)) (ysetg 4 hN) (ds_cons (yset 5 hN (de_fn ((w__law_other Y).mono (by decide)) hr rfl Y.g__law_other (k__law_other Y) (b__law_other_ Y) tk (da_cons (yv 2) (da_cons (yv 3) da_nil)))) (ds_cons (yset 6 hN (de_fn ((w__law_same Y).mono (by decide)) hr rfl Y.g__law_same (k__law_same Y) (b__law_same_ Y) tk (da_cons (yv 3) (da_cons (yv 5) da_nil)))) (ds_cons (yset 7 hN (de_lst (da_cons (de_fn ((w_same_roads Y).mono (by decide)) hr rfl Y.g_same_roads (k_same_roads Y) (b_same_roads_ Y) tk (da_cons (yv 3) (da_cons (yv 5) da_nil))) (da_cons (de_fn ((w_same_roads Y).mono (by decide)) hr rfl Y.g_same_roads (k_same_roads Y) (b_same_roads_ Y) tk (da_cons (yv 5) (da_cons (yv 3) da_nil))) da_nil)))) (ds_one (ds_if (dt_w (dw_or (dt_cmp (og_ne hr.units) (yv 7) (de_lst (da_cons (de_fz (yv 6)) (da_cons (de_fz (yv 6)) da_nil))) (nomark _)) (dw_or (dt_not (dt_val (de_isi .bool (de_ix (hu1 hr :) (yv 7) de_int) rfl Y.n_isinstance rfl Y.n_bool (by with_unfolding_all rfl)))) (dw_or1 (dt_not (dt_val (de_isi .bool (de_ix (hu1 hr :) (yv 7) de_int) rfl Y.n_isinstance rfl Y.n_bool (by with_unfolding_all rfl)))))))) (ds_one (ds_ret de_bl)) ds_nil)))))) (ds_one (ds_if (dt_cmp og_notX (de_fn ((w_same_roads Y).mono (by decide)) hr rfl Y.g_same_roads (k_same_roads Y) (b_same_roads_ Y) tk (da_cons (yv 3) (da_cons (yv 3) da_nil))) de_bl (nomark _)) (ds_one (ds_ret de_bl)) ds_nil)))))) (ds_one (ds_ret de_bl)))
end
end Q12
set_option maxHeartbeats 0
namespace Q12
open PySem PySem.Spec PyProof.Rows L2 Y
theorem law_true : ∀ ns : List Int, ns.length ≤ 63 → ∃ A, D.m_law_86 [script ns] = .ret (.fz (.bool true)) A := fun ns hn => ⟨_, U.q_t_law_86 (U.law12_true hn)⟩
def d_is_whole : He.DefD := ⟨("is_whole", none), "is_whole", "is_whole", defArgs (top 6), defBody (top 6), defScope (top 6), [], []⟩
def d_is_one_of : He.DefD := ⟨("is_one_of", none), "is_one_of", "is_one_of", defArgs (top 7), defBody (top 7), defScope (top 7), [], []⟩
def d_is_row : He.DefD := ⟨("is_row", none), "is_row", "is_row", defArgs (top 8), defBody (top 8), defScope (top 8), [], []⟩
def d_is_net : He.DefD := ⟨("is_net", none), "is_net", "is_net", defArgs (top 9), defBody (top 9), defScope (top 9), [], []⟩
def d_look_net : He.DefD := ⟨("look_net", none), "look_net", "look_net", defArgs (top 10), defBody (top 10), defScope (top 10), [], []⟩
def d_many_ways : He.DefD := ⟨("many_ways", none), "many_ways", "many_ways", defArgs (top 11), defBody (top 11), defScope (top 11), [], []⟩
def d_have_same_roads : He.DefD := ⟨("have_same_roads", none), "have_same_roads", "have_same_roads", defArgs (top 13), defBody (top 13), defScope (top 13), [], []⟩
def d_same_roads : He.DefD := ⟨("same_roads", none), "same_roads", "same_roads", defArgs (top 14), defBody (top 14), defScope (top 14), [], []⟩
def d__law_bag : He.DefD := ⟨("_law_bag", none), "_law_bag", "_law_bag", defArgs (top 16), defBody (top 16), defScope (top 16), [], []⟩
def d__law_take : He.DefD := ⟨("_law_take", none), "_law_take", "_law_take", defArgs (top 17), defBody (top 17), defScope (top 17), [], []⟩
def d__law_order : He.DefD := ⟨("_law_order", none), "_law_order", "_law_order", defArgs (top 18), defBody (top 18), defScope (top 18), [], []⟩
def d__law_net : He.DefD := ⟨("_law_net", none), "_law_net", "_law_net", defArgs (top 19), defBody (top 19), defScope (top 19), [], []⟩
def d__law_turned : He.DefD := ⟨("_law_turned", none), "_law_turned", "_law_turned", defArgs (top 20), defBody (top 20), defScope (top 20), [], []⟩
def d__law_other : He.DefD := ⟨("_law_other", none), "_law_other", "_law_other", defArgs (top 21), defBody (top 21), defScope (top 21), [], []⟩
def d__law_same : He.DefD := ⟨("_law_same", none), "_law_same", "_law_same", defArgs (top 22), defBody (top 22), defScope (top 22), [], []⟩
def d_law : He.DefD := ⟨("law", none), "law", "law", defArgs (top 23), defBody (top 23), defScope (top 23), [], []⟩
def fn : List He.DefD := [d_is_whole, d_is_one_of, d_is_row, d_is_net, d_look_net, d_many_ways, d_have_same_roads, d_same_roads, d__law_bag, d__law_take, d__law_order, d__law_net, d__law_turned, d__law_other, d__law_same, d_law]
def ts : List He.Tab := []
def fa : List He.Fa := [.glo "is_whole", .glo "is_one_of", .glo "is_row", .glo "is_net", .glo "look_net", .glo "many_ways", .glo "have_same_roads", .glo "same_roads", .glo "_law_bag", .glo "_law_take", .glo "_law_order", .glo "_law_net", .glo "_law_turned", .glo "_law_other", .glo "_law_same", .glo "law", .free "abs", .free "all", .free "bool", .free "int", .free "isinstance", .free "len", .free "list", .free "max", .free "min", .free "range", .free "sorted", .free "tuple", .free "zip", .int "MOST_PLACES" 9, .glo "WAYS", .glo "NoNet", .exc "NoNet"]
def exB (K : PySem.W.Frag) : Bool := (He.tupB K "WAYS" [.int 2, .int 3] && true)
abbrev R : PySem.W.OpenRow := PySem.W.OpenLaw.row PySem.Challenge.rw_roadcall_k12_the_same_roads
abbrev hk : PySem.W.Hook := He.hookX 4 fa fn ts [] exB
def ob (s : PySem.W.SharedT) : He.AlX := He.obsX 4 fa fn ts [] exB (HandSHeadRun.getT s)
theorem ob_eq (s : PySem.W.SharedT) : ob s = hk.obs s.abs := He.obsX_eq (HandSHeadRun.getT_eq s)
def loose : List PySem.Str := (["MOST_PLACES", "WAYS", "RoadError", "NoNet", "is_whole", "is_one_of", "is_row", "is_net", "look_net", "many_ways", "have_same_roads", "same_roads", "_law_bag", "_law_take", "_law_order", "_law_net", "_law_turned", "_law_other", "_law_same"] : List PySem.Str)
theorem run (w : World) : HandSHeadRun.RunEq R (PySem.W.view R.prog [23]) hk ob 40000 loose w := by
 intro os
 kernel_rfl
theorem facts {K : PySem.W.Frag} {h : Heap} {mg : Str → Option Value} {w : World} (X : K.In h) (G : h.Ns mainGlobals mg) (c : He.SaysX fa fn ts [] exB w h K) : Nonempty (Fx K mg) := by
 obtain ⟨fd_is_whole, F_is_whole⟩ := c.t.d.def_ 0 (d := d_is_whole) rfl
 obtain ⟨fd_is_one_of, F_is_one_of⟩ := c.t.d.def_ 1 (d := d_is_one_of) rfl
 obtain ⟨fd_is_row, F_is_row⟩ := c.t.d.def_ 2 (d := d_is_row) rfl
 obtain ⟨fd_is_net, F_is_net⟩ := c.t.d.def_ 3 (d := d_is_net) rfl
 obtain ⟨fd_look_net, F_look_net⟩ := c.t.d.def_ 4 (d := d_look_net) rfl
 obtain ⟨fd_many_ways, F_many_ways⟩ := c.t.d.def_ 5 (d := d_many_ways) rfl
 obtain ⟨fd_have_same_roads, F_have_same_roads⟩ := c.t.d.def_ 6 (d := d_have_same_roads) rfl
 obtain ⟨fd_same_roads, F_same_roads⟩ := c.t.d.def_ 7 (d := d_same_roads) rfl
 obtain ⟨fd__law_bag, F__law_bag⟩ := c.t.d.def_ 8 (d := d__law_bag) rfl
 obtain ⟨fd__law_take, F__law_take⟩ := c.t.d.def_ 9 (d := d__law_take) rfl
 obtain ⟨fd__law_order, F__law_order⟩ := c.t.d.def_ 10 (d := d__law_order) rfl
 obtain ⟨fd__law_net, F__law_net⟩ := c.t.d.def_ 11 (d := d__law_net) rfl
 obtain ⟨fd__law_turned, F__law_turned⟩ := c.t.d.def_ 12 (d := d__law_turned) rfl
 obtain ⟨fd__law_other, F__law_other⟩ := c.t.d.def_ 13 (d := d__law_other) rfl
 obtain ⟨fd__law_same, F__law_same⟩ := c.t.d.def_ 14 (d := d__law_same) rfl
 obtain ⟨fd_law, F_law⟩ := c.t.d.def_ 15 (d := d_law) rfl
 have hx : exB K = true := c.more
 obtain ⟨t_WAYS, hx⟩ := He.ba hx
 exact ⟨{ f_is_whole := _, fd_is_whole := fd_is_whole, F_is_whole := F_is_whole, g_is_whole := He.glo_ok X G (c.t.d.fact 0 (f := .glo "is_whole") rfl), f_is_one_of := _, fd_is_one_of := fd_is_one_of, F_is_one_of := F_is_one_of, g_is_one_of := He.glo_ok X G (c.t.d.fact 1 (f := .glo "is_one_of") rfl), f_is_row := _, fd_is_row := fd_is_row, F_is_row := F_is_row, g_is_row := He.glo_ok X G (c.t.d.fact 2 (f := .glo "is_row") rfl), f_is_net := _, fd_is_net := fd_is_net, F_is_net := F_is_net, g_is_net := He.glo_ok X G (c.t.d.fact 3 (f := .glo "is_net") rfl), f_look_net := _, fd_look_net := fd_look_net, F_look_net := F_look_net, g_look_net := He.glo_ok X G (c.t.d.fact 4 (f := .glo "look_net") rfl), f_many_ways := _, fd_many_ways := fd_many_ways, F_many_ways := F_many_ways, g_many_ways := He.glo_ok X G (c.t.d.fact 5 (f := .glo "many_ways") rfl), f_have_same_roads := _, fd_have_same_roads := fd_have_same_roads, F_have_same_roads := F_have_same_roads, g_have_same_roads := He.glo_ok X G (c.t.d.fact 6 (f := .glo "have_same_roads") rfl), f_same_roads := _, fd_same_roads := fd_same_roads, F_same_roads := F_same_roads, g_same_roads := He.glo_ok X G (c.t.d.fact 7 (f := .glo "same_roads") rfl), f__law_bag := _, fd__law_bag := fd__law_bag, F__law_bag := F__law_bag, g__law_bag := He.glo_ok X G (c.t.d.fact 8 (f := .glo "_law_bag") rfl), f__law_take := _, fd__law_take := fd__law_take, F__law_take := F__law_take, g__law_take := He.glo_ok X G (c.t.d.fact 9 (f := .glo "_law_take") rfl), f__law_order := _, fd__law_order := fd__law_order, F__law_order := F__law_order, g__law_order := He.glo_ok X G (c.t.d.fact 10 (f := .glo "_law_order") rfl), f__law_net := _, fd__law_net := fd__law_net, F__law_net := F__law_net, g__law_net := He.glo_ok X G (c.t.d.fact 11 (f := .glo "_law_net") rfl), f__law_turned := _, fd__law_turned := fd__law_turned, F__law_turned := F__law_turned, g__law_turned := He.glo_ok X G (c.t.d.fact 12 (f := .glo "_law_turned") rfl), f__law_other := _, fd__law_other := fd__law_other, F__law_other := F__law_other, g__law_other := He.glo_ok X G (c.t.d.fact 13 (f := .glo "_law_other") rfl), f__law_same := _, fd__law_same := fd__law_same, F__law_same := F__law_same, g__law_same := He.glo_ok X G (c.t.d.fact 14 (f := .glo "_law_same") rfl), f_law := _, fd_law := fd_law, F_law := F_law, g_law := He.glo_ok X G (c.t.d.fact 15 (f := .glo "law") rfl), n_abs := He.free_ok X G (c.t.d.fact 16 (f := .free "abs") rfl), n_all := He.free_ok X G (c.t.d.fact 17 (f := .free "all") rfl), n_bool := He.free_ok X G (c.t.d.fact 18 (f := .free "bool") rfl), n_int := He.free_ok X G (c.t.d.fact 19 (f := .free "int") rfl), n_isinstance := He.free_ok X G (c.t.d.fact 20 (f := .free "isinstance") rfl), n_len := He.free_ok X G (c.t.d.fact 21 (f := .free "len") rfl), n_list := He.free_ok X G (c.t.d.fact 22 (f := .free "list") rfl), n_max := He.free_ok X G (c.t.d.fact 23 (f := .free "max") rfl), n_min := He.free_ok X G (c.t.d.fact 24 (f := .free "min") rfl), n_range := He.free_ok X G (c.t.d.fact 25 (f := .free "range") rfl), n_sorted := He.free_ok X G (c.t.d.fact 26 (f := .free "sorted") rfl), n_tuple := He.free_ok X G (c.t.d.fact 27 (f := .free "tuple") rfl), n_zip := He.free_ok X G (c.t.d.fact 28 (f := .free "zip") rfl), c_MOST_PLACES := He.int_ok X G (c.t.d.fact 29 (f := .int "MOST_PLACES" 9) rfl), a_WAYS := _, g_WAYS := He.glo_ok X G (c.t.d.fact 30 (f := .glo "WAYS") rfl), c_WAYS := fun F => .tup (He.tupB_ok t_WAYS F) (.cons (.int _) (.cons (.int _) (.nil))), g_NoNet := (He.glo_ok X G (c.t.d.fact 31 (f := .glo "NoNet") rfl)), r_NoNet := rzOk_of (He.glo_ok X G (c.t.d.fact 31 (f := .glo "NoNet") rfl)) (c.t.d.fact 32 (f := .exc "NoNet") rfl) }⟩
end Q12
open PySem PySem.W PySem.Calls PyProof.Rows
theorem PySem.Challenge.cw_roadcall_k12_the_same_roads_holds : PySem.Challenge.rw_roadcall_k12_the_same_roads.Holds := by
 w_on; o_law
 refine HandSHeadRun.head_any (r := OpenLaw.row PySem.Challenge.rw_roadcall_k12_the_same_roads) (q := view (OpenLaw.row PySem.Challenge.rw_roadcall_k12_the_same_roads).prog [23]) (H := Q12.hk) (ob := Q12.ob) (M := 40000) (loose := Q12.loose) (d := HandSHeadRun.topDef (OpenLaw.row PySem.Challenge.rw_roadcall_k12_the_same_roads).prog 23) (kwd := []) Q12.ob_eq
  (by kernel_rfl) (fun s => by kernel_rfl) Q12.run (by kernel_rfl) (by kernel_rfl) (by kernel_rfl) (by rfl) (by first | assumption | decide +kernel) (by decide +kernel) ⟨rfl, rfl, rfl, rfl, rfl, by decide +kernel⟩ ?hw ?hc
 case hw => w_witness2
 case hc =>
  refine L2.walk_ofE (l := PySem.Challenge.rw_roadcall_k12_the_same_roads) (n := 63) (k := 7) (x := "_law_script") (CX := L2.CX0) rfl (by decide) (by kernel_rfl) ⟨rfl, by decide, by decide⟩ ?F (fun _ _ _ _ z => z)
  intro w mg fa h Y G hmg0
  obtain ⟨K, KX, c⟩ := Y
  have hmg : mg ("law" : PySem.Str) = some (.ref fa) := by
   have e : (HandSHeadRun.topDef (OpenLaw.row PySem.Challenge.rw_roadcall_k12_the_same_roads).prog 23).name = ("law" : PySem.Str) := by kernel_rfl
   rw [← e]
   exact hmg0
  obtain ⟨Y⟩ := Q12.facts KX G c
  cases hmg.symm.trans Y.g_law
  exact ⟨K, Y.fd_law, _root_.Y.spLaw K 63, KX, fun s v => (L2.FunD.bindsA (ps := ["_law_script"]) Y.F_law fun _ _ _ _ _ _ us hl => match us, hl with | [_], _ => rfl) s [v] rfl, fun H a ns hl _ hS => ⟨a, ns, rfl, hS, hl, fun _ => rfl⟩, fun base _ _ => _root_.Y.law_fn (Q12.w_law Y) Q12.law_true⟩
