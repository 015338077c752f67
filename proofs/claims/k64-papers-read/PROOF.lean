import PyProof.Rows.All
import HandS.ForExc
import HandS.More
import HandS.Deep
import HandS.Conv
import HandS.Comp
import HandS.Iter
import HandS.Text
import HandS.Dict
import HandS.Zip
import PyProof.StrBlock2
import HandS.TupMul
import HandS.Lambda
import HandS.HeadHook4
import HandS.Wide
import HandS.TupAny
import HandS.Style
import PyProof.Rows.InDataRows
import KE.DataCmp
import KE.SortData
import HandS.SortInts
import HandS.IsInst
import HandS.TupLen
import HandS.RaiseMore
import HandS.WordsDict
import HandS.SetFor
import HandS.Strs
import PyProof.Rows.SetFrom
import HandS.Small
import HandS.Replace
import HandS.Defaults
import HandS.WordsExc
import KE.GoesEnum
import HandS.ExcIs
import HandS.HeadHook1
import PyProof.ExcBaseAll.ValueError
import KE.KDictDisplayH
import HandS.Rev
import KE.KDictWalk
import KE.KDictSum
import KE.DataMinMax
import HandS.TryOnly
import HandS.HotCalls
import HandS.HeadWalk
import KE.GoesZip
import KE.KDictZip
import HandS.SetKeys
import PyProof.DictRoadsH
import PyProof.Rows.TupTab
import HandS.TupSets
import HandS.ExcInit
import HandS.HeadHook3
import HandS.ClsMeth
import HandS.Head2
import KE.KDictList
import HandS.DictSubView
import PyProof.Rows.TupAdd
import PyProof.SumWalkG
import HandS.ExcOwn
import KE.KExcIs
import HandS.ExcField
import HandS.HeadEnd
import HandS.Exc
import HandS.ExcCtx
import PyProof.CompFree
import KE.GoesComp
import HandS.Head0
import HandS.Head1
import HandS.HeadHook2
import HandS.Words
import PySem.Challenge.RW_roadcall_k64_papers_read
set_option Elab.async false
set_option linter.all false
set_option maxRecDepth 100000
set_option maxHeartbeats 4000000
namespace Y
open PySem PySem.Spec L2
inductive DKey where
 | k (x : Key)
 | t (xs : List Key)
 deriving DecidableEq
inductive SV where
 | fz (d : PyData)
 | ro (d : PyData)
 | lst (xs : List SV)
 | dic (b : Bool) (kvs : List (DKey × SV))
 | fd (b : Bool) (kvs : List (DKey × PyData))
 | tb (x q : Str)
 | gone
 | nd (kvs : List (List (List Int) × PyData))
 | ob (c f : Str) (xs : List PyData)
inductive Rt where
 | s (i : Nat)
 | a (j : Nat)
 deriving DecidableEq
inductive Sl where
 | tr (t : SV)
 | ar (j : Nat)
 | ex (c : Str) (d : Option PyData)
structure DS where
 sl : List (Option Sl)
 ar : List SV
inductive EV where
 | sv (t : SV)
 | pk (r : Rt) (p : List Nat)
inductive Out (α : Type) where
 | fail
 | ok (x : α) (S : DS) (T : List Rt)
 | exc (c : Str) (d : Option PyData) (S : DS)
inductive SOut where
 | fail
 | nx (S : DS)
 | rt (t : SV) (A : List SV)
 | bk (S : DS)
 | ct (S : DS)
 | exc (c : Str) (d : Option PyData) (S : DS)
inductive FOut where
 | fail
 | ret (t : SV) (A : List SV)
 | exc (c : Str) (d : Option PyData) (A : List SV)
def Out.bind {α β : Type} (o : Out α) (f : α → DS → Out β) : Out β :=
 match o with
 | .fail => .fail
 | .exc c d S => .exc c d S
 | .ok x S T =>
  match f x S with
  | .fail => .fail
  | .exc c d S' => .exc c d S'
  | .ok y S' T' => .ok y S' (T ++ T')
def DS.get (S : DS) : Rt → Option SV
 | .s i => match S.sl[i]? with
  | some (some (.tr t)) => some t
  | _ => none
 | .a j => S.ar[j]?
def DS.put (S : DS) (r : Rt) (t : SV) : DS :=
 match r with
 | .s i => { S with sl := S.sl.set i (some (.tr t)) }
 | .a j => { S with ar := S.ar.set j t }
def SV.sub : SV → List Nat → Option SV
 | t, [] => some t
 | .lst xs, k :: p => match xs[k]? with
  | some x => x.sub p
  | none => none
 | _, _ :: _ => none
def SV.setAt : SV → List Nat → SV → SV
 | _, [], u => u
 | .lst xs, k :: p, u => match xs[k]? with
  | some x => .lst (xs.set k (x.setAt p u))
  | none => .lst xs
 | t, _ :: _, _ => t
mutual
inductive Fz (F : Hp) : V → PyData → Prop
 | non : Fz F .non .none
 | bl (b : Bool) : Fz F (.bl b) (.bool b)
 | int (i : Int) : Fz F (.int i) (.int i)
 | str (x : Str) : Fz F (.str x) (.str x)
 | lst {a : Addr} {xs : List V} {ds : List PyData} : F a = some (.lst xs) → FzAll F xs ds → Fz F (.ref a) (.list ds)
 | tup {a : Addr} {xs : List V} {ds : List PyData} : F a = some (.tup xs) → FzAll F xs ds → Fz F (.ref a) (.tuple ds)
inductive FzAll (F : Hp) : List V → List PyData → Prop
 | nil : FzAll F [] []
 | cons {v : V} {vs : List V} {d : PyData} {ds : List PyData} : Fz F v d → FzAll F vs ds → FzAll F (v :: vs) (d :: ds)
end
def FdOk (F : Hp) (b : Bool) (kvs : List (DKey × PyData)) (v : V) : Prop := ∃ a o us, v = .ref a ∧ FzAll F us (kvs.map (·.2)) ∧
 ((b = false ∧ ∃ ws, F a = some (.frz o (.dK ws)) ∧ ws.map (fun p => DKey.k p.1) = kvs.map (·.1) ∧ us = ws.map (·.2)) ∨
 (b = true ∧ ∃ ws, F a = some (.frz o (.dT ws)) ∧ ws.map (fun p => DKey.t p.1) = kvs.map (·.1) ∧ us = ws.map (·.2)))
def tbP (K : PySem.W.Frag) (x : Str) : Addr := (He.cT K (x, none)).2
def TbOk (P : Addr) (q : Str) (F H : Hp) : Prop := F P = none ∧ ∃ ps : Array Value, H P = some (.tbl ps) ∧ TriplesOk ps.toList ∧ ∀ (pos : Pos) (cv : Value), codeAmong pos ps.toList = some cv → ∃ c, cv = .ref c ∧ F c = some (LamX.CodeO c q)
theorem tbOk_mono {P : Addr} {q : Str} {F F' H H' : Hp} (k : ∀ a o, F a = some o → F' a = some o) (e1 : H' P = H P) (e2 : F' P = none) (h : TbOk P q F H) : TbOk P q F' H' := by
 obtain ⟨_, ps, h1, h2, h3⟩ := h
 refine ⟨e2, ps, e1.trans h1, h2, fun pos cv hc => ?_⟩
 obtain ⟨c, c1, c2⟩ := h3 pos cv hc
 exact ⟨c, c1, k _ _ c2⟩
def netD (ks : List (List Int)) : PyData := .tuple (ks.map fun k => .tuple (k.map .int))
def hashN (ks : List (List Int)) : Int := reduceHash (Builtin.Tuple.tupleHashOf (ks.map fun k => reduceHash (Builtin.Tuple.tupleHashOf (k.map hashInt))))
def NdO (a : Addr) (ws : List (List (List Int) × Addr × V)) (h : Heap) : Prop := ws.length ≤ sizeLine ∧ (a == sysModules) = false ∧ (ws.map (·.1)).Nodup ∧ ∃ vs : List Value, Vals (ws.map (·.2.2)) vs ∧
 ∃ o es ep, h.get? a = some o ∧ o.ExactDict ∧ o.data = .dict es ep ∧ es.toList = (ws.zip vs).map fun p => ⟨hashN p.1.1, .ref p.1.2.1, p.2⟩
def NdR (F : Hp) (ws : List (List (List Int) × Addr × V)) (kvs : List (List (List Int) × PyData)) : Prop :=
 ws.map (·.1) = kvs.map (·.1) ∧ FzAll F (ws.map fun p => .ref p.2.1) (kvs.map fun p => netD p.1) ∧ FzAll F (ws.map (·.2.2)) (kvs.map (·.2))
mutual
def Own (K : PySem.W.Frag) (F H : Hp) : SV → V → List Addr → Prop
 | .fz d, v, fp => Fz F v d ∧ fp = []
 | .ro d, v, fp => Dp K F v d ∧ fp = []
 | .lst xs, v, fp => ∃ a vs fq, v = .ref a ∧ fp = a :: fq ∧ H a = some (.lst vs) ∧ F a = none ∧ OwnL K F H xs vs fq
 | .dic b kvs, v, fp => ∃ a us fq, v = .ref a ∧ fp = a :: fq ∧ F a = none ∧ OwnD K F H kvs us fq ∧
   ((b = false ∧ ∃ ws, H a = some (.dK ws) ∧ ws.map (fun p => DKey.k p.1) = kvs.map (·.1) ∧ us = ws.map (·.2)) ∨
   (b = true ∧ ∃ ws, H a = some (.dT ws) ∧ ws.map (fun p => DKey.t p.1) = kvs.map (·.1) ∧ us = ws.map (·.2)))
 | .fd b kvs, v, fp => fp = [] ∧ FdOk F b kvs v
 | .tb x q, v, fp => v = .ref (tbP K x) ∧ fp = [tbP K x] ∧ TbOk (tbP K x) q F H
 | .gone, _, fp => fp = []
 | .nd kvs, v, fp => ∃ a ws, v = .ref a ∧ fp = [a] ∧ F a = none ∧ H a = some (.ext (NdO a ws)) ∧ NdR F ws kvs
 | .ob C f xs, v, fp => ∃ a dx l vs, v = .ref a ∧ fp = [a, dx, l] ∧ (F a = none ∧ F dx = none ∧ F l = none) ∧ H a = some (.ins (He.ga K C) dx [(f, .ref l)]) ∧ H dx = some (.own a) ∧ H l = some (.lst vs) ∧ FzAll F vs xs
def OwnL (K : PySem.W.Frag) (F H : Hp) : List SV → List V → List Addr → Prop
 | [], vs, fp => vs = [] ∧ fp = []
 | x :: xs, vs, fp => ∃ v r f g, vs = v :: r ∧ fp = f ++ g ∧ Own K F H x v f ∧ OwnL K F H xs r g
def OwnD (K : PySem.W.Frag) (F H : Hp) : List (DKey × SV) → List V → List Addr → Prop
 | [], vs, fp => vs = [] ∧ fp = []
 | (_, x) :: xs, vs, fp => ∃ v r f g, vs = v :: r ∧ fp = f ++ g ∧ Own K F H x v f ∧ OwnD K F H xs r g
end
structure Cn where
 K : PySem.W.Frag
 mg : Str → Option Value
 EX : Hp → V → Str → Option PyData → Prop
def SlOk (C : Cn) (AV : List V) (F H : Hp) (v : V) : Sl → List Addr → Prop
 | .tr t, fp => Own C.K F H t v fp
 | .ar j, fp => AV[j]? = some v ∧ fp = []
 | .ex c d, fp => (∃ F₀, (∀ a o, F₀ a = some o → F a = some o) ∧ C.EX F₀ v c d) ∧ fp = []
theorem slEx_mono {C : Cn} {AV AV' : List V} {F F' H H' : Hp} {v : V} {c : Str} {d : Option PyData} {fp : List Addr} (k : ∀ a o, F a = some o → F' a = some o) (h : SlOk C AV F H v (.ex c d) fp) : SlOk C AV' F' H' v (.ex c d) fp := by
 obtain ⟨⟨F₀, h1, h2⟩, h3⟩ := h
 exact ⟨⟨F₀, fun a o e => k a o (h1 a o e), h2⟩, h3⟩
structure StOk (C : Cn) (AV : List V) (F H : Hp) (σ : L2.St) (S : DS) (fp : Rt → List Addr) : Prop where
 fh : ∀ a o, F a = some o → H a = some o
 sl : ∀ i x, S.sl[i]? = some (some x) → ∃ v, σ[i]? = some (some v) ∧ SlOk C AV F H v x (fp (.s i))
 ar : ∀ j t, S.ar[j]? = some t → ∃ v, AV[j]? = some v ∧ Own C.K F H t v (fp (.a j))
 dj : ∀ r r' a, a ∈ fp r → a ∈ fp r' → r = r'
 nd : ∀ r, (fp r).Nodup
 mm : ∀ r a, a ∈ fp r → F a = none ∧ ∃ o, H a = some o
 mt : ∀ r a xs, a ∈ fp r → H a ≠ some (.tup xs)
 ln : S.sl.length = σ.length
 la : S.ar.length = AV.length
structure Evo (R : Addr → Prop) (F H F' H' : Hp) : Prop where
 fsub : ∀ a o, F a = some o → F' a = some o
 keep : ∀ a o, H a = some o → ¬ R a → H' a = some o
 fnew : ∀ a o, F' a = some o → F a = none → R a ∨ H a = none ∨ ∃ xs, H a = some (.tup xs)
 dom : ∀ a o, H a = some o → ∃ o', H' a = some o'
def Rg (T : List Rt) (fp : Rt → List Addr) (a : Addr) : Prop := ∃ r ∈ T, a ∈ fp r
structure Post (C : Cn) (AV : List V) (F H : Hp) (σ : L2.St) (S : DS) (fp : Rt → List Addr) (T : List Rt) (S' : DS) (F' H' : Hp) (fp' : Rt → List Addr) : Prop where
 st : StOk C AV F' H' σ S' fp'
 evo : Evo (Rg T fp) F H F' H'
 same : ∀ r, r ∉ T → fp' r = fp r ∧ S'.get r = S.get r
 new : ∀ r a, a ∈ fp' r → Rg T fp a ∨ H a = none ∨ (r ∉ T)
def Walk (H : Hp) : V → List Nat → V → Prop
 | v, [], u => u = v
 | v, k :: p, u => ∃ a vs w, v = .ref a ∧ H a = some (.lst vs) ∧ vs[k]? = some w ∧ Walk H w p u
def rootV (σ : L2.St) (AV : List V) : Rt → Option V
 | .s i => match σ[i]? with
  | some (some v) => some v
  | _ => none
 | .a j => AV[j]?
def EOk (C : Cn) (AV : List V) (F H : Hp) (σ : L2.St) (v : V) : EV → List Addr → Prop
 | .sv t, fe => Own C.K F H t v fe
 | .pk r p, fe => fe = [] ∧ ∃ v0, rootV σ AV r = some v0 ∧ Walk H v0 p v
def EV.tree (S : DS) : EV → Option SV
 | .sv t => some t
 | .pk r p => match S.get r with
  | some t => t.sub p
  | none => none
structure VP (C : Cn) (AV : List V) (F H : Hp) (σ : L2.St) (fp : Rt → List Addr) (T : List Rt) (S' : DS) (F' H' : Hp) (fp' : Rt → List Addr) (v : V) (e : EV) (fe : List Addr) : Prop where
 val : EOk C AV F' H' σ v e fe
 dj : ∀ r a, a ∈ fp' r → a ∉ fe
 nd : fe.Nodup
 new : ∀ a ∈ fe, Rg T fp a ∨ H a = none
 tr : (e.tree S').isSome = true
section
variable {K : PySem.W.Frag} {F F' H H' : Hp}
mutual
theorem dp_mono (k : ∀ a o, F a = some o → F' a = some o) : ∀ (d : PyData) (v : V), Dp K F v d → Dp K F' v d
 | .none, _, h => by cases h; exact .non
 | .bool b, _, h => by cases h; exact .bl b
 | .int i, _, h => by cases h; exact .int i
 | .str x, _, h => by cases h; exact .str x
 | .list ds, _, h => by
  cases h with
  | lst hs ha =>
   refine .lst ?_ (dpAll_mono k ds _ ha)
   rcases hs with (q | ⟨o, q⟩) | q
   ·exact .inl (.inl (k _ _ q))
   ·exact .inl (.inr ⟨o, k _ _ q⟩)
   ·exact .inr q
 | .tuple ds, _, h => by
  cases h with
  | tup hs ha =>
   refine .tup ?_ (dpAll_mono k ds _ ha)
   rcases hs with (q | ⟨o, q⟩) | q
   ·exact .inl (.inl (k _ _ q))
   ·exact .inl (.inr ⟨o, k _ _ q⟩)
   ·exact .inr q
 | .dict _, _, h => by cases h
theorem dpAll_mono (k : ∀ a o, F a = some o → F' a = some o) : ∀ (ds : List PyData) (vs : List V), DpAll K F vs ds → DpAll K F' vs ds
 | [], _, h => by cases h; exact .nil
 | d :: ds, _, h => by
  cases h with
  | cons h1 h2 => exact .cons (dp_mono k d _ h1) (dpAll_mono k ds _ h2)
end
mutual
theorem fz_mono (k : ∀ a o, F a = some o → F' a = some o) : ∀ (d : PyData) (v : V), Fz F v d → Fz F' v d
 | .none, _, h => by cases h; exact .non
 | .bool b, _, h => by cases h; exact .bl b
 | .int i, _, h => by cases h; exact .int i
 | .str x, _, h => by cases h; exact .str x
 | .list ds, _, h => by
  cases h with
  | lst hs ha => exact .lst (k _ _ hs) (fzAll_mono k ds _ ha)
 | .tuple ds, _, h => by
  cases h with
  | tup hs ha => exact .tup (k _ _ hs) (fzAll_mono k ds _ ha)
 | .dict _, _, h => by cases h
theorem fzAll_mono (k : ∀ a o, F a = some o → F' a = some o) : ∀ (ds : List PyData) (vs : List V), FzAll F vs ds → FzAll F' vs ds
 | [], _, h => by cases h; exact .nil
 | d :: ds, _, h => by
  cases h with
  | cons h1 h2 => exact .cons (fz_mono k d _ h1) (fzAll_mono k ds _ h2)
end
mutual
theorem fz_dp : ∀ (d : PyData) (v : V), Fz F v d → Dp K F v d
 | .none, _, h => by cases h; exact .non
 | .bool b, _, h => by cases h; exact .bl b
 | .int i, _, h => by cases h; exact .int i
 | .str x, _, h => by cases h; exact .str x
 | .list ds, _, h => by
  cases h with
  | lst hs ha => exact .lst (.inl (.inl hs)) (fzAll_dp ds _ ha)
 | .tuple ds, _, h => by
  cases h with
  | tup hs ha => exact .tup (.inl (.inl hs)) (fzAll_dp ds _ ha)
 | .dict _, _, h => by cases h
theorem fzAll_dp : ∀ (ds : List PyData) (vs : List V), FzAll F vs ds → DpAll K F vs ds
 | [], _, h => by cases h; exact .nil
 | d :: ds, _, h => by
  cases h with
  | cons h1 h2 => exact .cons (fz_dp d _ h1) (fzAll_dp ds _ h2)
end
theorem fdOk_mono {b : Bool} {kvs : List (DKey × PyData)} {v : V} (k : ∀ a o, F a = some o → F' a = some o) (h : FdOk F b kvs v) : FdOk F' b kvs v := by
 obtain ⟨a, o, us, e, f, q⟩ := h
 exact ⟨a, o, us, e, fzAll_mono k _ _ f, q.imp (fun ⟨h1, ws, h2, h3⟩ => ⟨h1, ws, k _ _ h2, h3⟩) fun ⟨h1, ws, h2, h3⟩ => ⟨h1, ws, k _ _ h2, h3⟩⟩
theorem ndR_mono {ws : List (List (List Int) × Addr × V)} {kvs : List (List (List Int) × PyData)} (k : ∀ a o, F a = some o → F' a = some o) (h : NdR F ws kvs) : NdR F' ws kvs := ⟨h.1, fzAll_mono k _ _ h.2.1, fzAll_mono k _ _ h.2.2⟩
mutual
theorem own_keep (k : ∀ a o, F a = some o → F' a = some o) : ∀ (t : SV) (v : V) (fp : List Addr), Own K F H t v fp → (∀ a ∈ fp, H' a = H a ∧ F' a = none) → Own K F' H' t v fp
 | .fz d, v, fp, h, _ => by
  unfold Own at h ⊢
  exact ⟨fz_mono k d v h.1, h.2⟩
 | .ro d, v, fp, h, _ => by
  unfold Own at h ⊢
  exact ⟨dp_mono k d v h.1, h.2⟩
 | .lst xs, v, fp, h, q => by
  unfold Own at h ⊢
  obtain ⟨a, vs, fq, e1, e2, e3, e4, e5⟩ := h
  subst e2
  exact ⟨a, vs, fq, e1, rfl, (q a (by simp)).1.trans e3, (q a (by simp)).2, ownL_keep k xs vs fq e5 fun b hb => q b (by simp [hb])⟩
 | .dic b kvs, v, fp, h, q => by
  unfold Own at h ⊢
  obtain ⟨a, us, fq, e1, e2, e3, e4, e5⟩ := h
  subst e2
  refine ⟨a, us, fq, e1, rfl, (q a (by simp)).2, ownD_keep k kvs us fq e4 fun b hb => q b (by simp [hb]), ?_⟩
  rw [(q a (by simp)).1]
  exact e5
 | .fd b kvs, v, fp, h, _ => by
  unfold Own at h ⊢
  exact ⟨h.1, fdOk_mono k h.2⟩
 | .tb x q, v, fp, h, r => by
  unfold Own at h ⊢
  obtain ⟨h1, h2, h3⟩ := h
  have r1 := r (tbP K x) (by rw [h2]; exact List.mem_cons_self)
  exact ⟨h1, h2, tbOk_mono k r1.1 r1.2 h3⟩
 | .gone, v, fp, h, _ => by
  unfold Own at h ⊢
  exact h
 | .nd kvs, v, fp, h, r => by
  unfold Own at h ⊢
  obtain ⟨a, ws, h1, h2, h3, h4, h5⟩ := h
  have r1 := r a (by rw [h2]; exact List.mem_cons_self)
  exact ⟨a, ws, h1, h2, r1.2, r1.1.trans h4, ndR_mono k h5⟩
 | .ob C f xs, v, fp, h, r => by
  unfold Own at h ⊢
  obtain ⟨a, dx, l, vs, h1, h2, _, h4, h5, h6, h7⟩ := h
  have ra := r a (by rw [h2]; simp)
  have rd := r dx (by rw [h2]; simp)
  have rl := r l (by rw [h2]; simp)
  exact ⟨a, dx, l, vs, h1, h2, ⟨ra.2, rd.2, rl.2⟩, ra.1.trans h4, rd.1.trans h5, rl.1.trans h6, fzAll_mono k xs _ h7⟩
theorem ownL_keep (k : ∀ a o, F a = some o → F' a = some o) : ∀ (ts : List SV) (vs : List V) (fp : List Addr), OwnL K F H ts vs fp → (∀ a ∈ fp, H' a = H a ∧ F' a = none) → OwnL K F' H' ts vs fp
 | [], vs, fp, h, _ => by
  unfold OwnL at h ⊢
  exact h
 | x :: xs, vs, fp, h, q => by
  unfold OwnL at h ⊢
  obtain ⟨v, r, f, g, e1, e2, e3, e4⟩ := h
  subst e2
  exact ⟨v, r, f, g, e1, rfl, own_keep k x v f e3 fun a ha => q a (by simp [ha]), ownL_keep k xs r g e4 fun a ha => q a (by simp [ha])⟩
theorem ownD_keep (k : ∀ a o, F a = some o → F' a = some o) : ∀ (ts : List (DKey × SV)) (vs : List V) (fp : List Addr), OwnD K F H ts vs fp → (∀ a ∈ fp, H' a = H a ∧ F' a = none) → OwnD K F' H' ts vs fp
 | [], vs, fp, h, _ => by
  unfold OwnD at h ⊢
  exact h
 | (_, x) :: xs, vs, fp, h, q => by
  unfold OwnD at h ⊢
  obtain ⟨v, r, f, g, e1, e2, e3, e4⟩ := h
  subst e2
  exact ⟨v, r, f, g, e1, rfl, own_keep k x v f e3 fun a ha => q a (by simp [ha]), ownD_keep k xs r g e4 fun a ha => q a (by simp [ha])⟩
end
mutual
theorem own_fp : ∀ (t : SV) (v : V) (fp : List Addr), Own K F H t v fp → ∀ a ∈ fp, F a = none ∧ ∃ o, H a = some o
 | .fz d, v, fp, h => by
  unfold Own at h
  rw [h.2]
  intro a ha
  cases ha
 | .ro d, v, fp, h => by
  unfold Own at h
  rw [h.2]
  intro a ha
  cases ha
 | .lst xs, v, fp, h => by
  unfold Own at h
  obtain ⟨a, vs, fq, e1, e2, e3, e4, e5⟩ := h
  subst e2
  intro b hb
  rcases List.mem_cons.mp hb with rfl | hb
  ·exact ⟨e4, _, e3⟩
  ·exact ownL_fp xs vs fq e5 b hb
 | .dic b kvs, v, fp, h => by
  unfold Own at h
  obtain ⟨a, us, fq, e1, e2, e3, e4, e5⟩ := h
  subst e2
  intro b hb
  rcases List.mem_cons.mp hb with rfl | hb
  ·rcases e5 with ⟨_, ws, q, _⟩ | ⟨_, ws, q, _⟩ <;> exact ⟨e3, _, q⟩
  ·exact ownD_fp kvs us fq e4 b hb
 | .fd b kvs, v, fp, h => by
  unfold Own at h
  rw [h.1]
  intro a ha
  cases ha
 | .tb x q, v, fp, h => by
  unfold Own at h
  obtain ⟨_, h2, h3, ps, h4, _⟩ := h
  rw [h2]
  intro a ha
  rw [List.mem_singleton.mp ha]
  exact ⟨h3, _, h4⟩
 | .gone, v, fp, h => by
  unfold Own at h
  rw [h]
  intro a ha
  cases ha
 | .nd kvs, v, fp, h => by
  unfold Own at h
  obtain ⟨a, ws, h1, h2, h3, h4, _⟩ := h
  rw [h2]
  intro b hb
  rw [List.mem_singleton.mp hb]
  exact ⟨h3, _, h4⟩
 | .ob C f xs, v, fp, h => by
  unfold Own at h
  obtain ⟨a, dx, l, vs, h1, h2, ⟨f1, f2, f3⟩, h4, h5, h6, _⟩ := h
  rw [h2]
  intro b hb
  rcases List.mem_cons.mp hb with rfl | hb
  ·exact ⟨f1, _, h4⟩
  ·rcases List.mem_cons.mp hb with rfl | hb
   ·exact ⟨f2, _, h5⟩
   ·rw [List.mem_singleton.mp hb]
    exact ⟨f3, _, h6⟩
theorem ownL_fp : ∀ (ts : List SV) (vs : List V) (fp : List Addr), OwnL K F H ts vs fp → ∀ a ∈ fp, F a = none ∧ ∃ o, H a = some o
 | [], vs, fp, h => by
  unfold OwnL at h
  rw [h.2]
  intro a ha
  cases ha
 | x :: xs, vs, fp, h => by
  unfold OwnL at h
  obtain ⟨v, r, f, g, e1, e2, e3, e4⟩ := h
  subst e2
  intro a ha
  rcases List.mem_append.mp ha with ha | ha
  ·exact own_fp x v f e3 a ha
  ·exact ownL_fp xs r g e4 a ha
theorem ownD_fp : ∀ (ts : List (DKey × SV)) (vs : List V) (fp : List Addr), OwnD K F H ts vs fp → ∀ a ∈ fp, F a = none ∧ ∃ o, H a = some o
 | [], vs, fp, h => by
  unfold OwnD at h
  rw [h.2]
  intro a ha
  cases ha
 | (_, x) :: xs, vs, fp, h => by
  unfold OwnD at h
  obtain ⟨v, r, f, g, e1, e2, e3, e4⟩ := h
  subst e2
  intro a ha
  rcases List.mem_append.mp ha with ha | ha
  ·exact own_fp x v f e3 a ha
  ·exact ownD_fp xs r g e4 a ha
end
end
section
variable {K : PySem.W.Frag} {F F' H H' : Hp}
mutual
theorem own_nt : ∀ (t : SV) (v : V) (fp : List Addr), Own K F H t v fp → ∀ a ∈ fp, ∀ xs, H a ≠ some (.tup xs)
 | .fz d, v, fp, h => by
  unfold Own at h
  rw [h.2]
  intro a ha
  cases ha
 | .ro d, v, fp, h => by
  unfold Own at h
  rw [h.2]
  intro a ha
  cases ha
 | .fd b kvs, v, fp, h => by
  unfold Own at h
  rw [h.1]
  intro a ha
  cases ha
 | .lst xs, v, fp, h => by
  unfold Own at h
  obtain ⟨a, vs, fq, e1, e2, e3, e4, e5⟩ := h
  subst e2
  intro b hb
  rcases List.mem_cons.mp hb with rfl | hb
  ·intro xs e; rw [e3] at e; cases e
  ·exact ownL_nt xs vs fq e5 b hb
 | .dic b kvs, v, fp, h => by
  unfold Own at h
  obtain ⟨a, us, fq, e1, e2, e3, e4, e5⟩ := h
  subst e2
  intro b hb
  rcases List.mem_cons.mp hb with rfl | hb
  ·rcases e5 with ⟨_, ws, q, _⟩ | ⟨_, ws, q, _⟩ <;> (intro xs e; rw [q] at e; cases e)
  ·exact ownD_nt kvs us fq e4 b hb
 | .tb x q, v, fp, h => by
  unfold Own at h
  obtain ⟨_, h2, h3, ps, h4, _⟩ := h
  rw [h2]
  intro a ha xs e
  rw [List.mem_singleton.mp ha, h4] at e
  cases e
 | .gone, v, fp, h => by
  unfold Own at h
  rw [h]
  intro a ha
  cases ha
 | .nd kvs, v, fp, h => by
  unfold Own at h
  obtain ⟨a, ws, h1, h2, h3, h4, _⟩ := h
  rw [h2]
  intro b hb xs e
  rw [List.mem_singleton.mp hb, h4] at e
  cases e
 | .ob C f xs, v, fp, h => by
  unfold Own at h
  obtain ⟨a, dx, l, vs, h1, h2, _, h4, h5, h6, _⟩ := h
  rw [h2]
  intro b hb xs e
  rcases List.mem_cons.mp hb with rfl | hb
  ·rw [h4] at e; cases e
  ·rcases List.mem_cons.mp hb with rfl | hb
   ·rw [h5] at e; cases e
   ·rw [List.mem_singleton.mp hb, h6] at e; cases e
theorem ownL_nt : ∀ (ts : List SV) (vs : List V) (fp : List Addr), OwnL K F H ts vs fp → ∀ a ∈ fp, ∀ xs, H a ≠ some (.tup xs)
 | [], vs, fp, h => by
  unfold OwnL at h
  rw [h.2]
  intro a ha
  cases ha
 | x :: xs, vs, fp, h => by
  unfold OwnL at h
  obtain ⟨v, r, f, g, e1, e2, e3, e4⟩ := h
  subst e2
  intro a ha
  rcases List.mem_append.mp ha with ha | ha
  ·exact own_nt x v f e3 a ha
  ·exact ownL_nt xs r g e4 a ha
theorem ownD_nt : ∀ (ts : List (DKey × SV)) (vs : List V) (fp : List Addr), OwnD K F H ts vs fp → ∀ a ∈ fp, ∀ xs, H a ≠ some (.tup xs)
 | [], vs, fp, h => by
  unfold OwnD at h
  rw [h.2]
  intro a ha
  cases ha
 | (_, x) :: xs, vs, fp, h => by
  unfold OwnD at h
  obtain ⟨v, r, f, g, e1, e2, e3, e4⟩ := h
  subst e2
  intro a ha
  rcases List.mem_append.mp ha with ha | ha
  ·exact own_nt x v f e3 a ha
  ·exact ownD_nt xs r g e4 a ha
end
end
mutual
def SV.frz : SV → Option PyData
 | .fz d => some d
 | .ro _ => none
 | .lst xs => match frzL xs with
  | some ds => some (.list ds)
  | none => none
 | .dic _ _ => none
 | .fd _ _ => none
 | .tb _ _ => none
 | .gone => none
 | .nd _ => none
 | .ob _ _ _ => none
def frzL : List SV → Option (List PyData)
 | [] => some []
 | x :: xs => match x.frz, frzL xs with
  | some d, some ds => some (d :: ds)
  | _, _ => none
end
section
variable {K : PySem.W.Frag} {F F' H H' : Hp}
mutual
theorem frz_ok (k : ∀ a o, F a = some o → F' a = some o) : ∀ (t : SV) (v : V) (fp : List Addr) (d : PyData), Own K F H t v fp → t.frz = some d → (∀ a ∈ fp, ∀ o, H a = some o → F' a = some o) → Fz F' v d
 | .fz d, v, fp, d', h, e, q => by
  unfold Own at h
  unfold SV.frz at e
  cases e
  exact fz_mono k _ _ h.1
 | .ro d, v, fp, d', h, e, q => by
  unfold SV.frz at e
  cases e
 | .lst xs, v, fp, d', h, e, q => by
  unfold Own at h
  unfold SV.frz at e
  obtain ⟨a, vs, fq, e1, e2, e3, e4, e5⟩ := h
  subst e2
  subst e1
  cases e6 : frzL xs with
  | none => rw [e6] at e; cases e
  | some ds =>
   rw [e6] at e
   cases e
   exact .lst (q a (by simp) _ e3) (frzL_ok k xs vs fq ds e5 e6 fun b hb => q b (by simp [hb]))
 | .dic b kvs, v, fp, d', h, e, q => by
  unfold SV.frz at e
  cases e
 | .fd b kvs, v, fp, d', h, e, q => by
  unfold SV.frz at e
  cases e
 | .tb x q', v, fp, d', h, e, q => by
  unfold SV.frz at e
  cases e
 | .gone, v, fp, d', h, e, q => by
  unfold SV.frz at e
  cases e
 | .nd _, v, fp, d', h, e, q => by
  unfold SV.frz at e
  cases e
 | .ob _ _ _, v, fp, d', h, e, q => by
  unfold SV.frz at e
  cases e
theorem frzL_ok (k : ∀ a o, F a = some o → F' a = some o) : ∀ (ts : List SV) (vs : List V) (fp : List Addr) (ds : List PyData), OwnL K F H ts vs fp → frzL ts = some ds → (∀ a ∈ fp, ∀ o, H a = some o → F' a = some o) → FzAll F' vs ds
 | [], vs, fp, ds, h, e, q => by
  unfold OwnL at h
  unfold frzL at e
  cases e
  rw [h.1]
  exact .nil
 | x :: xs, vs, fp, ds, h, e, q => by
  unfold OwnL at h
  unfold frzL at e
  obtain ⟨v, r, f, g, e1, e2, e3, e4⟩ := h
  subst e1
  subst e2
  cases e5 : x.frz with
  | none => rw [e5] at e; cases e
  | some d =>
   cases e6 : frzL xs with
   | none => rw [e5, e6] at e; cases e
   | some ds' =>
    rw [e5, e6] at e
    cases e
    exact .cons (frz_ok k x v f d e3 e5 fun a ha => q a (by simp [ha])) (frzL_ok k xs r g ds' e4 e6 fun a ha => q a (by simp [ha]))
end
def joinF (F H : Hp) (fp : List Addr) : Hp := fun b => if b ∈ fp then H b else F b
theorem joinF_in {fp : List Addr} {a : Addr} (h : a ∈ fp) : joinF F H fp a = H a := by unfold joinF; rw [if_pos h]
theorem joinF_out {fp : List Addr} {a : Addr} (h : a ∉ fp) : joinF F H fp a = F a := by unfold joinF; rw [if_neg h]
theorem joinF_sub {fp : List Addr} (fh : ∀ a o, F a = some o → H a = some o) : ∀ a o, F a = some o → joinF F H fp a = some o := fun a o e => by
 by_cases h : a ∈ fp
 ·rw [joinF_in h]; exact fh a o e
 ·rw [joinF_out h]; exact e
theorem joinF_held {fp : List Addr} (fh : ∀ a o, F a = some o → H a = some o) : ∀ a o, joinF F H fp a = some o → H a = some o := fun a o e => by
 by_cases h : a ∈ fp
 ·rw [joinF_in h] at e; exact e
 ·rw [joinF_out h] at e; exact fh a o e
def SV.view : SV → Option PyData
 | .ro d => some d
 | t => t.frz
theorem own_view (fh : ∀ a o, F a = some o → H a = some o) {t : SV} {v : V} {fp : List Addr} {d : PyData} (h : Own K F H t v fp) (e : t.view = some d) : Dp K H v d := by
 have go : ∀ t : SV, Own K F H t v fp → t.frz = some d → Dp K H v d := fun t h e => fz_dp d v (frz_ok fh t v fp d h e fun _ _ _ q => q)
 cases t with
 | ro d' =>
  unfold Own at h
  cases e
  exact dp_mono fh _ _ h.1
 | fz d' => exact go _ h e
 | lst xs => exact go _ h e
 | dic b xs => exact go _ h e
 | fd b xs => exact go _ h e
 | tb _ _ => exact go _ h e
 | gone => exact go _ h e
 | nd _ => exact go _ h e
 | ob _ _ _ => exact go _ h e
theorem ownL_len : ∀ {ts : List SV} {vs : List V} {fp : List Addr}, OwnL K F H ts vs fp → ts.length = vs.length
 | [], _, _, h => by unfold OwnL at h; rw [h.1]; rfl
 | x :: xs, _, _, h => by
  unfold OwnL at h
  obtain ⟨v, r, f, g, e1, e2, e3, e4⟩ := h
  subst e1
  simp [ownL_len e4]
theorem ownL_at : ∀ {ts : List SV} {vs : List V} {fp : List Addr} {k : Nat} {x : SV}, OwnL K F H ts vs fp → ts[k]? = some x →
  ∃ v f1 fx f2, vs[k]? = some v ∧ fp = f1 ++ (fx ++ f2) ∧ Own K F H x v fx ∧
   ∀ (F' H' : Hp) (x' : SV) (v' : V) (fx' : List Addr), (∀ a o, F a = some o → F' a = some o) → (∀ a ∈ f1 ++ f2, H' a = H a ∧ F' a = none) → Own K F' H' x' v' fx' →
    OwnL K F' H' (ts.set k x') (vs.set k v') (f1 ++ (fx' ++ f2))
 | [], _, _, k, x, h, e => by simp at e
 | y :: ys, _, _, 0, x, h, e => by
  unfold OwnL at h
  obtain ⟨v, r, f, g, e1, e2, e3, e4⟩ := h
  subst e1
  subst e2
  simp at e
  subst e
  refine ⟨v, [], f, g, rfl, rfl, e3, fun F' H' x' v' fx' k q o => ?_⟩
  show OwnL K F' H' (x' :: ys) (v' :: r) _
  unfold OwnL
  exact ⟨v', r, fx', g, rfl, rfl, o, ownL_keep k _ _ _ e4 fun a ha => q a (by simp [ha])⟩
 | y :: ys, _, _, k + 1, x, h, e => by
  unfold OwnL at h
  obtain ⟨v, r, f, g, e1, e2, e3, e4⟩ := h
  subst e1
  subst e2
  have e' : ys[k]? = some x := by simpa using e
  obtain ⟨w, f1, fx, f2, a1, a2, a3, a4⟩ := ownL_at e4 e'
  subst a2
  refine ⟨w, f ++ f1, fx, f2, by simpa using a1, by simp, a3, fun F' H' x' v' fx' k' q o => ?_⟩
  show OwnL K F' H' (y :: ys.set k x') (v :: r.set k v') _
  unfold OwnL
  refine ⟨v, _, f, f1 ++ (fx' ++ f2), rfl, by simp, own_keep k' _ _ _ e3 fun a ha => q a (by simp [ha]), a4 F' H' x' v' fx' k' (fun a ha => q a ?_) o⟩
  rcases List.mem_append.mp ha with z | z <;> simp [z]
theorem set_same {α : Type} : ∀ {l : List α} {k : Nat} {x : α}, l[k]? = some x → l.set k x = l
 | [], _, _, h => by simp at h
 | _ :: _, 0, _, h => by simp at h; simp [h]
 | a :: l, k + 1, x, h => by
  show a :: l.set k x = a :: l
  rw [set_same (l := l) (by simpa using h)]
theorem nodup_mid {f1 fx f2 fx' : List Addr} (nd : (f1 ++ (fx ++ f2)).Nodup) (nd' : fx'.Nodup) (q : ∀ a ∈ fx', a ∈ fx ∨ a ∉ f1 ++ (fx ++ f2)) : (f1 ++ (fx' ++ f2)).Nodup := by
 rw [List.nodup_append] at nd ⊢
 obtain ⟨n1, n2, n3⟩ := nd
 rw [List.nodup_append] at n2 ⊢
 obtain ⟨n4, n5, n6⟩ := n2
 have z : ∀ a ∈ fx', a ∉ f1 ∧ a ∉ f2 := fun a ha => by
  rcases q a ha with h | h
  ·exact ⟨fun h' => n3 a h' a (by simp [h]) rfl, fun h' => n6 a h a h' rfl⟩
  ·exact ⟨fun h' => h (by simp [h']), fun h' => h (by simp [h'])⟩
 refine ⟨n1, ⟨nd', n5, fun a ha b hb e => ?_⟩, fun a ha b hb e => ?_⟩
 ·subst e; exact (z a ha).2 hb
 ·subst e
  rcases List.mem_append.mp hb with hb | hb
  ·exact (z a hb).1 ha
  ·exact n3 a ha a (by simp [hb]) rfl
theorem own_sub : ∀ (p : List Nat) {t : SV} {v : V} {fp : List Addr} {u : SV}, Own K F H t v fp → fp.Nodup → t.sub p = some u →
  ∃ w fu, Walk H v p w ∧ Own K F H u w fu ∧ fu.Nodup ∧ (∀ a ∈ fu, a ∈ fp) ∧
   ∀ (F' H' : Hp) (u' : SV) (fu' : List Addr), (∀ a o, F a = some o → F' a = some o) → (∀ a ∈ fp, a ∉ fu → H' a = H a ∧ F' a = none) → Own K F' H' u' w fu' → fu'.Nodup → (∀ a ∈ fu', a ∈ fu ∨ a ∉ fp) →
    ∃ fp', Own K F' H' (t.setAt p u') v fp' ∧ fp'.Nodup ∧ (∀ a ∈ fp', (a ∈ fp ∧ a ∉ fu) ∨ a ∈ fu')
 | [], t, v, fp, u, h, nd, e => by
  have e' : t = u := by
   unfold SV.sub at e
   cases t <;> simpa using e
  subst e'
  refine ⟨v, fp, rfl, h, nd, fun _ z => z, fun F' H' u' fu' _ _ o n _ => ⟨fu', ?_, n, fun a ha => .inr ha⟩⟩
  have : t.setAt [] u' = u' := by unfold SV.setAt; cases t <;> rfl
  rw [this]
  exact o
 | k :: p, t, v, fp, u, h, nd, e => by
  cases t with
  | fz d => unfold SV.sub at e; cases e
  | ro d => unfold SV.sub at e; cases e
  | dic b kvs => unfold SV.sub at e; cases e
  | fd b kvs => unfold SV.sub at e; cases e
  | tb _ _ => unfold SV.sub at e; cases e
  | gone => unfold SV.sub at e; cases e
  | nd _ => unfold SV.sub at e; cases e
  | ob _ _ _ => unfold SV.sub at e; cases e
  | lst xs =>
   unfold SV.sub at e
   cases e1 : xs[k]? with
   | none => rw [e1] at e; cases e
   | some x =>
    rw [e1] at e
    have e' : x.sub p = some u := e
    unfold Own at h
    obtain ⟨a, vs, fq, h1, h2, h3, h4, h5⟩ := h
    subst h1
    subst h2
    obtain ⟨w, f1, fx, f2, b1, b2, b3, b4⟩ := ownL_at h5 e1
    subst b2
    have nd2 := (List.nodup_cons.mp nd).2
    have na := (List.nodup_cons.mp nd).1
    have ndx : fx.Nodup := (List.nodup_append.mp (List.nodup_append.mp nd2).2.1).1
    obtain ⟨w', fu, c1, c2, c3, c4, c5⟩ := own_sub p b3 ndx e'
    refine ⟨w', fu, ⟨a, vs, w, rfl, h3, b1, c1⟩, c2, c3, fun z hz => by simp [c4 z hz], fun F' H' u' fu' k1 k2 o n q => ?_⟩
    have dj : ∀ z ∈ f1 ++ f2, z ∉ fx := fun z hz hx => by
     rw [List.nodup_append] at nd2
     obtain ⟨_, n2, n3⟩ := nd2
     rw [List.nodup_append] at n2
     rcases List.mem_append.mp hz with hz | hz
     ·exact n3 z hz z (by simp [hx]) rfl
     ·exact n2.2.2 z hx z hz rfl
    obtain ⟨fx', d1, d2, d3⟩ := c5 F' H' u' fu' k1 (fun z hz hn => k2 z (by simp [hz]) hn) o n (fun z hz => by
     rcases q z hz with y | y
     ·exact .inl y
     ·exact .inr fun y' => y (by simp [y']))
    have kk : ∀ z ∈ f1 ++ f2, H' z = H z ∧ F' z = none := fun z hz => k2 z (by
     rcases List.mem_append.mp hz with y | y <;> simp [y]) fun hu => dj z hz (c4 z hu)
    have L := b4 F' H' (x.setAt p u') w fx' k1 kk d1
    rw [set_same b1] at L
    have ka := k2 a (by simp) (fun hu => na (by simp [c4 a hu]))
    have d4 : ∀ z ∈ fx', z ∈ fx ∨ z ∉ f1 ++ (fx ++ f2) := fun z hz => by
     rcases d3 z hz with ⟨y, _⟩ | y
     ·exact .inl y
     ·rcases q z y with y | y
      ·exact .inl (c4 z y)
      ·exact .inr fun y' => y (by rcases List.mem_append.mp y' with y' | y' <;> simp [y'])
    refine ⟨a :: (f1 ++ (fx' ++ f2)), ?_, ?_, ?_⟩
    ·unfold SV.setAt
     rw [e1]
     show Own K F' H' (.lst (xs.set k (x.setAt p u'))) _ _
     unfold Own
     exact ⟨a, vs, _, rfl, rfl, ka.1.trans h3, ka.2, L⟩
    ·refine List.nodup_cons.mpr ⟨fun z => ?_, nodup_mid nd2 d2 d4⟩
     rcases List.mem_append.mp z with z | z
     ·exact na (by simp [z])
     ·rcases List.mem_append.mp z with z | z
      ·rcases d3 a z with ⟨y, _⟩ | y
       ·exact na (by simp [y])
       ·rcases q a y with y | y
        ·exact na (by simp [c4 a y])
        ·exact y (by simp)
      ·exact na (by simp [z])
    ·intro z hz
     rcases List.mem_cons.mp hz with rfl | hz
     ·exact .inl ⟨by simp, fun hu => na (by simp [c4 _ hu])⟩
     ·rcases List.mem_append.mp hz with y | y
      ·exact .inl ⟨by simp [y], fun hu => dj z (by simp [y]) (c4 z hu)⟩
      ·rcases List.mem_append.mp y with y | y
       ·rcases d3 z y with ⟨y1, y2⟩ | y1
        ·exact .inl ⟨by simp [y1], y2⟩
        ·exact .inr y1
       ·exact .inl ⟨by simp [y], fun hu => dj z (by simp [y]) (c4 z hu)⟩
end
end Y
set_option maxRecDepth 100000
set_option maxHeartbeats 4000000
namespace Y
open PySem PySem.Spec L2
section
variable {C : Cn} {AV : List V} {F F1 F2 H H1 H2 : Hp} {σ : L2.St} {S S1 S2 : DS} {fp fp1 fp2 : Rt → List Addr} {T T1 T2 : List Rt}
theorem Evo.refl {R : Addr → Prop} : Evo R F H F H := ⟨fun _ _ e => e, fun _ _ e _ => e, fun a o e e' => (by rw [e] at e'; cases e'), fun _ o e => ⟨o, e⟩⟩
theorem Evo.mono {R R' : Addr → Prop} (h : Evo R F H F1 H1) (k : ∀ a, R a → R' a) : Evo R' F H F1 H1 :=
 ⟨h.fsub, fun a o e n => h.keep a o e fun r => n (k a r), fun a o e e' => (h.fnew a o e e').imp (k a) id, h.dom⟩
theorem Evo.trans {R R1 : Addr → Prop} (a : Evo R F H F1 H1) (b : Evo R1 F1 H1 F2 H2) (k : ∀ x, R1 x → R x ∨ H x = none) : Evo R F H F2 H2 where
 fsub := fun x o e => b.fsub x o (a.fsub x o e)
 keep := fun x o e n => b.keep x o (a.keep x o e n) fun r => by
  rcases k x r with h | h
  ·exact n h
  ·rw [e] at h; cases h
 fnew := fun x o e e' => by
  cases q : F1 x with
  | some o1 => exact a.fnew x o1 q e'
  | none =>
   rcases b.fnew x o e q with h | h | h
   ·exact (k x h).imp id .inl
   ·right; left
    cases z : H x with
    | none => rfl
    | some o2 => obtain ⟨o3, z3⟩ := a.dom x o2 z; rw [h] at z3; cases z3
   ·by_cases hr : R x
    ·exact .inl hr
    ·right
     cases z : H x with
     | none => exact .inl rfl
     | some o2 =>
      obtain ⟨xs, h⟩ := h
      have := a.keep x o2 z hr
      rw [h] at this
      cases this
      exact .inr ⟨xs, rfl⟩
 dom := fun x o e => by
  obtain ⟨o1, e1⟩ := a.dom x o e
  exact b.dom x o1 e1
theorem Post.refl (h : StOk C AV F H σ S fp) : Post C AV F H σ S fp [] S F H fp :=
 ⟨h, .refl, fun _ _ => ⟨rfl, rfl⟩, fun _ _ _ => .inr (.inr (by simp))⟩
theorem Rg.app {a : Addr} : Rg (T1 ++ T2) fp a ↔ Rg T1 fp a ∨ Rg T2 fp a := by
 unfold Rg
 constructor
 ·rintro ⟨r, h, e⟩
  rcases List.mem_append.mp h with h | h
  ·exact .inl ⟨r, h, e⟩
  ·exact .inr ⟨r, h, e⟩
 ·rintro (⟨r, h, e⟩ | ⟨r, h, e⟩)
  ·exact ⟨r, by simp [h], e⟩
  ·exact ⟨r, by simp [h], e⟩
theorem Post.rg (a : Post C AV F H σ S fp T1 S1 F1 H1 fp1) {x : Addr} (h : Rg T2 fp1 x) : Rg (T1 ++ T2) fp x ∨ H x = none := by
 obtain ⟨r, hr, e⟩ := h
 by_cases hr1 : r ∈ T1
 ·rcases a.new r x e with q | q | q
  ·exact .inl (Rg.app.mpr (.inl q))
  ·exact .inr q
  ·exact absurd hr1 q
 ·exact .inl (Rg.app.mpr (.inr ⟨r, hr, by rw [← (a.same r hr1).1]; exact e⟩))
theorem Evo.none_back {R : Addr → Prop} (a : Evo R F H F1 H1) {x : Addr} (h : H1 x = none) : H x = none := by
 cases z : H x with
 | none => rfl
 | some o2 => obtain ⟨o3, z3⟩ := a.dom x o2 z; rw [h] at z3; cases z3
theorem Post.trans (a : Post C AV F H σ S fp T1 S1 F1 H1 fp1) (b : Post C AV F1 H1 σ S1 fp1 T2 S2 F2 H2 fp2) : Post C AV F H σ S fp (T1 ++ T2) S2 F2 H2 fp2 where
 st := b.st
 evo := (a.evo.mono fun x h => Rg.app.mpr (.inl h)).trans b.evo fun x h => a.rg h
 same := fun r hr => by
  have h1 : r ∉ T1 := fun z => hr (by simp [z])
  have h2 : r ∉ T2 := fun z => hr (by simp [z])
  exact ⟨(b.same r h2).1.trans (a.same r h1).1, (b.same r h2).2.trans (a.same r h1).2⟩
 new := fun r x e => by
  rcases b.new r x e with q | q | q
  ·rcases a.rg q with q | q
   ·exact .inl q
   ·exact .inr (.inl q)
  ·exact .inr (.inl (a.evo.none_back q))
  ·have e1 : x ∈ fp1 r := by rw [← (b.same r q).1]; exact e
   rcases a.new r x e1 with z | z | z
   ·exact .inl (Rg.app.mpr (.inl z))
   ·exact .inr (.inl z)
   ·exact .inr (.inr (by simp [z, q]))
theorem walk_keep : ∀ {p : List Nat} {t u : SV} {v w : V} {f : List Addr}, Own C.K F H t v f → Walk H v p w → t.sub p = some u → (∀ a ∈ f, H1 a = H a) → Walk H1 v p w
 | [], _, _, _, _, _, _, h, _, _ => h
 | k :: p, t, u, v, w, f, o, h, e, q => by
  obtain ⟨a, vs, w1, rfl, h1, h2, h3⟩ := h
  cases t with
  | fz d => unfold SV.sub at e; cases e
  | ro d => unfold SV.sub at e; cases e
  | dic b kvs => unfold SV.sub at e; cases e
  | fd b kvs => unfold SV.sub at e; cases e
  | tb _ _ => unfold SV.sub at e; cases e
  | gone => unfold SV.sub at e; cases e
  | nd _ => unfold SV.sub at e; cases e
  | ob _ _ _ => unfold SV.sub at e; cases e
  | lst xs =>
   unfold Own at o
   obtain ⟨a', vs', fq, e1, e2, e3, e4, e5⟩ := o
   cases e1
   subst e2
   rw [h1] at e3
   cases e3
   unfold SV.sub at e
   cases e6 : xs[k]? with
   | none => rw [e6] at e; cases e
   | some x =>
    rw [e6] at e
    obtain ⟨w2, f1, fx, f2, b1, b2, b3, _⟩ := ownL_at e5 e6
    rw [h2] at b1
    cases b1
    subst b2
    exact ⟨a, vs, w1, rfl, (q a (by simp)).trans h1, h2, walk_keep b3 h3 e fun z hz => q z (by simp [hz])⟩
theorem walk_fun : ∀ {p : List Nat} {v u w : V}, Walk H v p u → Walk H v p w → u = w
 | [], _, _, _, h, h' => by
  have a : _ = _ := h
  have b : _ = _ := h'
  rw [a, b]
 | k :: p, v, u, w, ⟨a, vs, z, e, h1, h2, h3⟩, ⟨a', vs', z', e', h1', h2', h3'⟩ => by
  subst e
  cases e'
  rw [h1] at h1'
  cases h1'
  rw [h2] at h2'
  cases h2'
  exact walk_fun h3 h3'
theorem StOk.root (h : StOk C AV F H σ S fp) {r : Rt} {t : SV} (e : S.get r = some t) : ∃ v, rootV σ AV r = some v ∧ Own C.K F H t v (fp r) := by
 cases r with
 | s i =>
  dsimp only [DS.get] at e
  cases e1 : S.sl[i]? with
  | none => rw [e1] at e; cases e
  | some x =>
   rw [e1] at e
   cases x with
   | none => cases e
   | some x =>
    cases x with
    | tr t' =>
     cases e
     obtain ⟨v, e2, o⟩ := h.sl i _ e1
     exact ⟨v, by dsimp only [rootV]; rw [e2], o⟩
    | ar j => cases e
    | ex c d => cases e
 | a j =>
  obtain ⟨v, e2, o⟩ := h.ar j t e
  exact ⟨v, e2, o⟩
def EV.stable (T : List Rt) : EV → Bool
 | .sv _ => true
 | .pk r p => p.isEmpty || !T.contains r
theorem EOk.tree (h : StOk C AV F H σ S fp) {v : V} {e : EV} {fe : List Addr} (o : EOk C AV F H σ v e fe) {t : SV} (q : e.tree S = some t) : ∃ f, Own C.K F H t v f := by
 cases e with
 | sv t' =>
  dsimp only [EV.tree] at q
  cases q
  exact ⟨fe, o⟩
 | pk r p =>
  obtain ⟨_, v0, e1, w⟩ := o
  dsimp only [EV.tree] at q
  cases e2 : S.get r with
  | none => rw [e2] at q; cases q
  | some t0 =>
   rw [e2] at q
   obtain ⟨v', e3, o3⟩ := h.root e2
   rw [e1] at e3
   cases e3
   obtain ⟨w', fu, c1, c2, _⟩ := own_sub p o3 (h.nd r) q
   rw [walk_fun w c1]
   exact ⟨fu, c2⟩
theorem EOk.later (a : StOk C AV F H σ S fp) (b : Post C AV F H σ S fp T S1 F1 H1 fp1) {v : V} {e : EV} {fe : List Addr} (o : EOk C AV F H σ v e fe) (dj : ∀ r x, x ∈ fp r → x ∉ fe) (st : e.stable T = true) (hs : (e.tree S).isSome = true) : EOk C AV F1 H1 σ v e fe := by
 cases e with
 | sv t =>
  have o' : Own C.K F H t v fe := o
  have m := own_fp t v fe o'
  refine own_keep b.evo.fsub t v fe o' fun x hx => ?_
  obtain ⟨m1, ob, m2⟩ := m x hx
  have nr : ¬ Rg T fp x := fun ⟨r, _, e⟩ => dj r x e hx
  refine ⟨(b.evo.keep x ob m2 nr).trans m2.symm, ?_⟩
  cases q : F1 x with
  | none => rfl
  | some o1 =>
   rcases b.evo.fnew x o1 q m1 with z | z | ⟨xs, z⟩
   ·exact absurd z nr
   ·rw [m2] at z; cases z
   ·exact absurd z (own_nt t v fe o' x hx xs)
 | pk r p =>
  obtain ⟨z, v0, e1, w⟩ := o
  refine ⟨z, v0, e1, ?_⟩
  cases p with
  | nil => exact w
  | cons k p =>
   have hr : r ∉ T := by
    unfold EV.stable at st
    simpa using st
   dsimp only [EV.tree] at hs
   cases e2 : S.get r with
   | none => rw [e2] at hs; cases hs
   | some t0 =>
    rw [e2] at hs
    obtain ⟨u, hu⟩ := Option.isSome_iff_exists.mp hs
    obtain ⟨v', e3, o3⟩ := a.root e2
    rw [e1] at e3
    cases e3
    refine walk_keep o3 w hu fun x hx => ?_
    obtain ⟨m1, ob, m2⟩ := a.mm r x hx
    exact (b.evo.keep x ob m2 fun ⟨r', hr', e'⟩ => hr (by rw [a.dj r r' x hx e']; exact hr')).trans m2.symm
structure NewV (K : PySem.W.Frag) (F H F' H' : Hp) (v : V) (z : SV) (fe : List Addr) : Prop where
 hk : ∀ a o, H a = some o → H' a = some o
 fk : ∀ a o, F a = some o → F' a = some o
 fn : ∀ a o, F' a = some o → F a = none → H a = none ∨ ∃ xs, H a = some (.tup xs)
 fh : ∀ a o, F' a = some o → H' a = some o
 own : Own K F' H' z v fe
 nd : fe.Nodup
 new : ∀ a ∈ fe, H a = none
theorem NewV.post (h : StOk C AV F H σ S fp) {v : V} {z : SV} {fe : List Addr} (n : NewV C.K F H F1 H1 v z fe) : Post C AV F H σ S fp [] S F1 H1 fp := by
 have keep : ∀ r a, a ∈ fp r → H1 a = H a ∧ F1 a = none := fun r a ha => by
  obtain ⟨m1, o, m2⟩ := h.mm r a ha
  refine ⟨(n.hk a o m2).trans m2.symm, ?_⟩
  cases q : F1 a with
  | none => rfl
  | some o1 =>
   rcases n.fn a o1 q m1 with z | ⟨xs, z⟩
   ·rw [m2] at z; cases z
   ·exact absurd z (h.mt r a xs ha)
 refine ⟨⟨n.fh, fun i x e => ?_, fun j t e => ?_, h.dj, h.nd, fun r a ha => ?_, fun r a xs ha z => h.mt r a xs ha ((keep r a ha).1 ▸ z), h.ln, h.la⟩, ⟨n.fk, fun a o e _ => n.hk a o e, fun a o e e' => .inr (n.fn a o e e'), fun a o e => ⟨o, n.hk a o e⟩⟩, fun _ _ => ⟨rfl, rfl⟩, fun _ _ _ => .inr (.inr (by simp))⟩
 ·obtain ⟨v, e1, o⟩ := h.sl i x e
  refine ⟨v, e1, ?_⟩
  cases x with
  | tr t => exact own_keep n.fk t v _ o (keep _)
  | ar j => exact o
  | ex c d => exact slEx_mono n.fk o
 ·obtain ⟨v, e1, o⟩ := h.ar j t e
  exact ⟨v, e1, own_keep n.fk t v _ o (keep _)⟩
 ·obtain ⟨m1, o, m2⟩ := h.mm r a ha
  exact ⟨(keep r a ha).2, o, (keep r a ha).1.trans m2⟩
theorem NewV.vp (h : StOk C AV F H σ S fp) {v : V} {z : SV} {fe : List Addr} (n : NewV C.K F H F1 H1 v z fe) : VP C AV F H σ fp [] S F1 H1 fp v (.sv z) fe :=
 ⟨n.own, fun r a ha hf => (by obtain ⟨_, o, m⟩ := h.mm r a ha; have := n.new a hf; rw [m] at this; cases this), n.nd, fun a ha => .inr (n.new a ha), rfl⟩
end
end Y
set_option maxRecDepth 100000
set_option maxHeartbeats 4000000
namespace Y
open PySem PySem.Spec L2
def Al (fp : Rt → List Addr) (a : Addr) : Prop := ∃ r, a ∈ fp r
structure EvA (F H F' H' : Hp) (fp fp' : Rt → List Addr) : Prop where
 evo : Evo (Al fp) F H F' H'
 new : ∀ a, Al fp' a → Al fp a ∨ H a = none
def ExcOk (C : Cn) (F H : Hp) (c : Str) (d : Option PyData) (cls : Value) (dd : Option Addr) : Prop :=
 C.mg c = some cls ∧ match d with
  | none => dd = none
  | some x => ∃ a v, dd = some a ∧ F a = some (.xd [(("at" : Str), v)]) ∧ Fz F v x
def ExcW (C : Cn) (W : WX) (AV : List V) (F H : Hp) (σ : L2.St) (fp : Rt → List Addr) (c : Str) (d : Option PyData) (S' : DS) : Prop :=
 ∀ F' H' fp' cls dd, StOk C AV F' H' σ S' fp' → EvA F H F' H' fp fp' → ExcOk C F' H' c d cls dd → W cls dd σ H'
def Out.bindT {α β : Type} (o : Out α) (f : α → DS → List Rt → Out β) : Out β :=
 match o with
 | .fail => .fail
 | .exc c d S => .exc c d S
 | .ok x S T =>
  match f x S T with
  | .fail => .fail
  | .exc c d S' => .exc c d S'
  | .ok y S' T' => .ok y S' (T ++ T')
def Wp {α : Type} (C : Cn) (W : WX) (AV : List V) (F H : Hp) (σ : L2.St) (fp : Rt → List Addr) (o : Out α) (P : α → DS → List Rt → Prop) : Prop :=
 match o with
 | .fail => False
 | .exc c d S' => ExcW C W AV F H σ fp c d S'
 | .ok x S' T => P x S' T
section
variable {C : Cn} {W : WX} {AV : List V} {F F1 F2 H H1 H2 : Hp} {σ : L2.St} {S S1 S2 : DS} {fp fp1 fp2 : Rt → List Addr} {T T1 T2 : List Rt} {α β : Type}
theorem Rg.al {a : Addr} (h : Rg T fp a) : Al fp a := let ⟨r, _, e⟩ := h; ⟨r, e⟩
theorem Post.evA (p : Post C AV F H σ S fp T S1 F1 H1 fp1) : EvA F H F1 H1 fp fp1 :=
 ⟨p.evo.mono fun _ h => h.al, fun a ⟨r, e⟩ => by
  rcases p.new r a e with q | q | q
  ·exact .inl q.al
  ·exact .inr q
  ·exact .inl ⟨r, by rw [← (p.same r q).1]; exact e⟩⟩
theorem EvA.refl : EvA F H F H fp fp := ⟨.refl, fun _ h => .inl h⟩
theorem EvA.trans (a : EvA F H F1 H1 fp fp1) (b : EvA F1 H1 F2 H2 fp1 fp2) : EvA F H F2 H2 fp fp2 :=
 ⟨a.evo.trans b.evo a.new, fun x h => by
  rcases b.new x h with q | q
  ·exact a.new x q
  ·exact .inr (a.evo.none_back q)⟩
theorem ExcW.later (e : EvA F H F1 H1 fp fp1) {c : Str} {d : Option PyData} (h : ExcW C W AV F H σ fp c d S2) : ExcW C W AV F1 H1 σ fp1 c d S2 :=
 fun F' H' fp' cls dd st ev ok => h F' H' fp' cls dd st (e.trans ev) ok
theorem wp_bindT {o : Out α} {f : α → DS → List Rt → Out β} {P : β → DS → List Rt → Prop} (h : Wp C W AV F H σ fp (o.bindT f) P) :
  Wp C W AV F H σ fp o fun x S1 T1 => ∀ F1 H1 fp1, EvA F H F1 H1 fp fp1 → Wp C W AV F1 H1 σ fp1 (f x S1 T1) fun y S2 T2 => P y S2 (T1 ++ T2) := by
 cases o with
 | fail => exact h
 | exc c d S => exact h
 | ok x S1 T1 =>
  intro F1 H1 fp1 ev
  unfold Out.bindT at h
  cases q : f x S1 T1 with
  | fail => dsimp only at h; rw [q] at h; exact h
  | exc c d S' => dsimp only at h; rw [q] at h; exact ExcW.later ev h
  | ok y S' T' => dsimp only at h; rw [q] at h; exact h
end
def LE (C : Cn) (W : WX) (f : DS → Out EV) : TE := fun σ H Q => ∃ AV F S fp, StOk C AV F H σ S fp ∧
 Wp C W AV F H σ fp (f S) fun e S' T => ∀ F' H' fp' v fe, Post C AV F H σ S fp T S' F' H' fp' → VP C AV F H σ fp T S' F' H' fp' v e fe → Q v H'
def LT (C : Cn) (W : WX) (f : DS → Out Bool) : TT := fun σ H Q => ∃ AV F S fp, StOk C AV F H σ S fp ∧
 Wp C W AV F H σ fp (f S) fun b S' T => ∀ F' H' fp', Post C AV F H σ S fp T S' F' H' fp' → Q b H'
abbrev cnOf (X : Cx) (EX : Hp → V → Str → Option PyData → Prop) : Cn := ⟨X.K, X.mg, EX⟩
abbrev DE (X : Cx) (EX : Hp → V → Str → Option PyData → Prop) (W : WX) (e : Expr) (f : DS → Out EV) : Prop := PE X e (LE (cnOf X EX) W f)
abbrev DT (X : Cx) (EX : Hp → V → Str → Option PyData → Prop) (W : WX) (e : Expr) (f : DS → Out Bool) : Prop := PT X e (LT (cnOf X EX) W f)
theorem pe_of {X : Cx} {e : Expr} {t t' : TE} (h : PE X e t) (k : ∀ σ H Q, t' σ H Q → t σ H Q) : PE X e t' := ⟨fun pins s σ H Q I q => h.run pins s σ H Q I (k σ H Q q)⟩
theorem pt_of {X : Cx} {e : Expr} {t t' : TT} (h : PT X e t) (k : ∀ σ H Q, t' σ H Q → t σ H Q) : PT X e t' := ⟨fun pins s σ H Q I q => h.run pins s σ H Q I (k σ H Q q)⟩
theorem pw_of {X : Cx} {e : Expr} {t t' : TT} (h : PW X e t) (k : ∀ σ H Q, t' σ H Q → t σ H Q) : PW X e t' := ⟨fun wh pins s σ H Q I q => h.run wh pins s σ H Q I (k σ H Q q)⟩
theorem wp_mono {α : Type} {C : Cn} {W : WX} {AV : List V} {F H : Hp} {σ : L2.St} {fp : Rt → List Addr} {o : Out α} {P P' : α → DS → List Rt → Prop} (h : Wp C W AV F H σ fp o P) (k : ∀ x S T, P x S T → P' x S T) : Wp C W AV F H σ fp o P' := by
 cases o with
 | fail => exact h
 | exc c d S => exact h
 | ok x S T => exact k x S T h
def eC (d : PyData) : DS → Out EV := fun S => .ok (.sv (.fz d)) S []
def eVar (i : Nat) : DS → Out EV := fun S =>
 match S.sl[i]? with
 | some (some (.tr (.fz d))) => .ok (.sv (.fz d)) S []
 | some (some (.tr (.ro d))) => .ok (.sv (.ro d)) S []
 | some (some (.tr (.fd b d))) => .ok (.sv (.fd b d)) S []
 | some (some (.tr _)) => .ok (.pk (.s i) []) S []
 | some (some (.ar j)) => match S.ar[j]? with
  | some (.fz d) => .ok (.sv (.fz d)) S []
  | some (.ro d) => .ok (.sv (.ro d)) S []
  | some (.fd b d) => .ok (.sv (.fd b d)) S []
  | some _ => .ok (.pk (.a j) []) S []
  | none => .fail
 | _ => .fail
section
variable {C : Cn} {AV : List V} {F F1 F2 H H1 H2 : Hp} {σ : L2.St} {S S1 S2 : DS} {fp fp1 fp2 : Rt → List Addr} {T T1 T2 : List Rt} {v : V} {d : PyData}
theorem vp_fz (h : Fz F1 v d) : VP C AV F H σ fp T S1 F1 H1 fp1 v (.sv (.fz d)) [] :=
 ⟨by show Own C.K F1 H1 (.fz d) v []; unfold Own; exact ⟨h, rfl⟩, fun _ _ _ h => (by cases h), .nil, fun _ h => (by cases h), rfl⟩
theorem vp_ro (h : Dp C.K F1 v d) : VP C AV F H σ fp T S1 F1 H1 fp1 v (.sv (.ro d)) [] :=
 ⟨by show Own C.K F1 H1 (.ro d) v []; unfold Own; exact ⟨h, rfl⟩, fun _ _ _ h => (by cases h), .nil, fun _ h => (by cases h), rfl⟩
theorem vp_fd {b : Bool} {d : List (DKey × PyData)} (h : FdOk F1 b d v) : VP C AV F H σ fp T S1 F1 H1 fp1 v (.sv (.fd b d)) [] :=
 ⟨by show Own C.K F1 H1 (.fd b d) v []; unfold Own; exact ⟨rfl, h⟩, fun _ _ _ h => (by cases h), .nil, fun _ h => (by cases h), rfl⟩
theorem tree_root {r : Rt} : EV.tree S (.pk r []) = S.get r := by
 dsimp only [EV.tree]
 cases S.get r with
 | none => rfl
 | some t => show t.sub [] = some t; unfold SV.sub; cases t <;> rfl
theorem vp_root {r : Rt} (hr : rootV σ AV r = some v) (ht : (S1.get r).isSome = true) : VP C AV F H σ fp T S1 F1 H1 fp1 v (.pk r []) [] :=
 ⟨⟨rfl, v, hr, rfl⟩, fun _ _ _ h => (by cases h), .nil, fun _ h => (by cases h), by rw [tree_root]; exact ht⟩
end
section
variable {X : Cx} {EX : Hp → V → Str → Option PyData → Prop} {W : WX} {e a b c : Expr} {pos : Pos} {fa fb fc : DS → Out EV}
theorem de_c {v : V} {d : PyData} (h : PE X e (tC v)) (hd : ∀ F, Fz F v d) : DE X EX W e (eC d) := pe_of h fun σ H Q ⟨AV, F, S, fp, st, q⟩ => q F H fp v [] (.refl st) (vp_fz (hd F))
theorem de_int {i : Int} {j : Nat} : DE X EX W (.Constant (.int i) j pos) (eC (.int i)) := de_c pe_int fun _ => .int i
theorem de_bl {i : Bool} {j : Nat} : DE X EX W (.Constant (.bool i) j pos) (eC (.bool i)) := de_c pe_bl fun _ => .bl i
theorem de_non {j : Nat} : DE X EX W (.Constant .none j pos) (eC .none) := de_c pe_non fun _ => .non
theorem de_str {x : Str} {j : Nat} : DE X EX W (.Constant (.str x) j pos) (eC (.str x)) := de_c pe_str fun _ => .str x
theorem de_var {i : Nat} {x : Str} (hN : X.N[i]? = some x) (hv : Vis X.env.scope x) (hd : (x == ("__debug__" : Str)) = false := by decide) (hcd : (x == ("__classdict__" : Str)) = false := by decide) : DE X EX W (.Name x pos) (eVar i) := by
 refine pe_of (pe_var hN hv hd hcd) fun σ H Q ⟨AV, F, S, fp, st, q⟩ => ?_
 unfold eVar at q
 cases e1 : S.sl[i]? with
 | none => rw [e1] at q; exact q.elim
 | some x =>
  cases x with
  | none => rw [e1] at q; exact q.elim
  | some x =>
   obtain ⟨v, e2, o⟩ := st.sl i x e1
   refine ⟨v, e2, ?_⟩
   rw [e1] at q
   cases x with
   | ex c d => exact q.elim
   | tr t =>
    have o' : Own X.K F H t v (fp (.s i)) := o
    have hr : rootV σ AV (.s i) = some v := by dsimp only [rootV]; rw [e2]
    have hg : (S.get (.s i)).isSome = true := by dsimp only [DS.get]; rw [e1]; rfl
    cases t with
    | fz d =>
     unfold Own at o'
     exact q F H fp v [] (.refl st) (vp_fz o'.1)
    | ro d =>
     unfold Own at o'
     exact q F H fp v [] (.refl st) (vp_ro o'.1)
    | fd b d =>
     unfold Own at o'
     exact q F H fp v [] (.refl st) (vp_fd o'.2)
    | lst xs => exact q F H fp v [] (.refl st) (vp_root hr hg)
    | dic b xs => exact q F H fp v [] (.refl st) (vp_root hr hg)
    | tb _ _ => exact q F H fp v [] (.refl st) (vp_root hr hg)
    | gone => exact q F H fp v [] (.refl st) (vp_root hr hg)
    | nd _ => exact q F H fp v [] (.refl st) (vp_root hr hg)
    | ob _ _ _ => exact q F H fp v [] (.refl st) (vp_root hr hg)
   | ar j =>
    obtain ⟨av, _⟩ := (show AV[j]? = some v ∧ _ from o)
    dsimp only at q
    cases e3 : S.ar[j]? with
    | none => rw [e3] at q; exact q.elim
    | some t =>
     rw [e3] at q
     obtain ⟨v', e4, o'⟩ := st.ar j t e3
     rw [av] at e4
     cases e4
     have hr : rootV σ AV (.a j) = some v := av
     have hg : (S.get (.a j)).isSome = true := by dsimp only [DS.get]; rw [e3]; rfl
     cases t with
     | fz d =>
      unfold Own at o'
      exact q F H fp v [] (.refl st) (vp_fz o'.1)
     | ro d =>
      unfold Own at o'
      exact q F H fp v [] (.refl st) (vp_ro o'.1)
     | fd b d =>
      unfold Own at o'
      exact q F H fp v [] (.refl st) (vp_fd o'.2)
     | lst xs => exact q F H fp v [] (.refl st) (vp_root hr hg)
     | dic b xs => exact q F H fp v [] (.refl st) (vp_root hr hg)
     | tb _ _ => exact q F H fp v [] (.refl st) (vp_root hr hg)
     | gone => exact q F H fp v [] (.refl st) (vp_root hr hg)
     | nd _ => exact q F H fp v [] (.refl st) (vp_root hr hg)
     | ob _ _ _ => exact q F H fp v [] (.refl st) (vp_root hr hg)
def rG (K : PySem.W.Frag) (g : SV → SV → Option SV) : R2 := fun x y H Q => ∃ F t u z fx fy, (∀ a o, F a = some o → H a = some o) ∧ Own K F H t x fx ∧ Own K F H u y fy ∧ g t u = some z ∧ ∀ F' H' v fe, NewV K F H F' H' v z fe → Q v H'
def eOp2 (g : SV → SV → Option SV) (fa fb : DS → Out EV) : DS → Out EV := fun S =>
 (fa S).bindT fun ea S1 _ => (fb S1).bindT fun eb S2 T2 =>
  match ea.stable T2, ea.tree S2, eb.tree S2 with
  | true, some t, some u => match g t u with
   | some z => .ok (.sv z) S2 []
   | none => .fail
  | _, _, _ => .fail
theorem tOp_LE {C : Cn} {g : SV → SV → Option SV} : ∀ σ H Q, LE C W (eOp2 g fa fb) σ H Q → tOp (rG C.K g) (LE C W fa) (LE C W fb) σ H Q := by
 intro σ H Q ⟨AV, F, S, fp, st, q⟩
 unfold eOp2 at q
 refine ⟨AV, F, S, fp, st, wp_mono (wp_bindT q) fun ea S1 T1 q1 F1 H1 fp1 v fe p1 v1 => ?_⟩
 have q1' := q1 F1 H1 fp1 p1.evA
 refine ⟨AV, F1, S1, fp1, p1.st, wp_mono (wp_bindT q1') fun eb S2 T2 q2 F2 H2 fp2 u fu p2 v2 => ?_⟩
 have q2' := q2 F2 H2 fp2 p2.evA
 cases e1 : ea.stable T2 with
 | false => rw [e1] at q2'; exact q2'.elim
 | true =>
  rw [e1] at q2'
  cases e2 : ea.tree S2 with
  | none => rw [e2] at q2'; exact q2'.elim
  | some t =>
   rw [e2] at q2'
   cases e3 : eb.tree S2 with
   | none => rw [e3] at q2'; exact q2'.elim
   | some t' =>
    rw [e3] at q2'
    dsimp only at q2'
    cases e4 : g t t' with
    | none => rw [e4] at q2'; exact q2'.elim
    | some z =>
     rw [e4] at q2'
     have w1 := EOk.later p1.st p2 v1.val v1.dj e1 v1.tr
     obtain ⟨fx, o1⟩ := EOk.tree p2.st w1 e2
     obtain ⟨fy, o2⟩ := EOk.tree p2.st v2.val e3
     refine ⟨F2, t, t', z, fx, fy, p2.st.fh, o1, o2, e4, fun F3 H3 x fz n => ?_⟩
     have p3 := n.post p2.st
     have v3 := n.vp p2.st
     have p23 := p2.trans p3
     refine q2' F3 H3 fp2 x fz (p1.trans (p2.trans p3)) ⟨v3.val, v3.dj, v3.nd, fun a ha => ?_, v3.tr⟩
     exact .inr (p1.evo.none_back (p2.evo.none_back (n.new a ha)))
theorem de_op {op : Operator} {g : SV → SV → Option SV} (ho : OpR X (binaryOp op) (rG X.K g)) (ha : DE X EX W a fa) (hb : DE X EX W b fb) : DE X EX W (.BinOp a op b pos) (eOp2 g fa fb) :=
 pe_of (pe_op ho ha hb) (tOp_LE (C := cnOf X EX))
theorem de_cmp {op : CmpOp} {g : SV → SV → Option SV} (ho : OpR X (compareOp op) (rG X.K g)) (ha : DE X EX W a fa) (hb : DE X EX W b fb) (hm : behindInMarks op b = false) : DE X EX W (.Compare a [op] [b] pos) (eOp2 g fa fb) :=
 pe_of (pe_cmpR ho ha hb hm) (tOp_LE (C := cnOf X EX))
end
end Y
set_option maxRecDepth 100000
set_option maxHeartbeats 4000000
namespace Y
open PySem PySem.Spec L2
def allFz : List SV → Option (List PyData)
 | [] => some []
 | .fz d :: r => match allFz r with
  | some ds => some (d :: ds)
  | none => none
 | _ :: _ => none
def SV.lis : SV → Option (List PyData)
 | .fz (.list ds) => some ds
 | .lst xs => allFz xs
 | _ => none
def SV.tps : SV → Option (List PyData)
 | .fz (.tuple ds) => some ds
 | _ => none
def fzs (ds : List PyData) : List SV := ds.map SV.fz
theorem allFz_eq : ∀ {xs : List SV} {ds : List PyData}, allFz xs = some ds → xs = fzs ds
 | [], ds, h => by cases h; rfl
 | .fz d :: r, ds, h => by
  unfold allFz at h
  cases e : allFz r with
  | none => rw [e] at h; cases h
  | some es => rw [e] at h; cases h; rw [allFz_eq e]; rfl
 | .ro _ :: _, _, h => by unfold allFz at h; cases h
 | .lst _ :: _, _, h => by unfold allFz at h; cases h
 | .dic _ _ :: _, _, h => by unfold allFz at h; cases h
section
variable {K : PySem.W.Frag} {F F' H H' : Hp} {v x y : V} {fp fx fy : List Addr} {t u z : SV}
theorem own_fz {d : PyData} (h : Own K F H (.fz d) v fp) : Fz F v d := by unfold Own at h; exact h.1
theorem own_of_fz {d : PyData} (h : Fz F v d) : Own K F H (.fz d) v [] := by unfold Own; exact ⟨h, rfl⟩
theorem fz_int {i : Int} (h : Own K F H (.fz (.int i)) v fp) : v = .int i := by have := own_fz h; cases this; rfl
theorem fz_str {i : Str} (h : Own K F H (.fz (.str i)) v fp) : v = .str i := by have := own_fz h; cases this; rfl
theorem fz_bl {i : Bool} (h : Own K F H (.fz (.bool i)) v fp) : v = .bl i := by have := own_fz h; cases this; rfl
theorem fz_non (h : Own K F H (.fz .none) v fp) : v = .non := by have := own_fz h; cases this; rfl
theorem ownL_fzs : ∀ {ds : List PyData} {vs : List V}, FzAll F vs ds → OwnL K F H (fzs ds) vs []
 | [], _, h => by cases h; unfold fzs; unfold OwnL; exact ⟨rfl, rfl⟩
 | d :: ds, _, h => by
  cases h with
  | cons h1 h2 =>
   show OwnL K F H (.fz d :: fzs ds) _ _
   unfold OwnL
   exact ⟨_, _, [], [], rfl, rfl, own_of_fz h1, ownL_fzs h2⟩
theorem fzs_ownL : ∀ {ds : List PyData} {vs : List V} {fp : List Addr}, OwnL K F H (fzs ds) vs fp → FzAll F vs ds ∧ fp = []
 | [], _, _, h => by unfold fzs at h; simp only [List.map_nil] at h; unfold OwnL at h; rw [h.1]; exact ⟨.nil, h.2⟩
 | d :: ds, vs, fp, h => by
  have h' : OwnL K F H (.fz d :: fzs ds) vs fp := h
  unfold OwnL at h'
  obtain ⟨v, r, f, g, e1, e2, e3, e4⟩ := h'
  obtain ⟨a, b⟩ := fzs_ownL e4
  unfold Own at e3
  subst e1
  rw [e2, e3.2, b]
  exact ⟨.cons e3.1 a, rfl⟩
theorem own_lis (fh : ∀ a o, F a = some o → H a = some o) {ds : List PyData} (h : Own K F H t v fp) (e : t.lis = some ds) : ∃ a vs, v = .ref a ∧ H a = some (.lst vs) ∧ FzAll F vs ds := by
 cases t with
 | fz d =>
  cases d with
  | list es =>
   cases e
   have := own_fz h
   cases this with
   | lst q r => exact ⟨_, _, rfl, fh _ _ q, r⟩
  | none => cases e
  | bool _ => cases e
  | int _ => cases e
  | str _ => cases e
  | tuple _ => cases e
  | dict _ => cases e
 | ro d => cases e
 | lst xs =>
  have e' := allFz_eq (show allFz xs = some ds from e)
  subst e'
  unfold Own at h
  obtain ⟨a, vs, fq, e1, e2, e3, e4, e5⟩ := h
  exact ⟨a, vs, e1, e3, (fzs_ownL e5).1⟩
 | dic b kvs => cases e
 | fd b kvs => cases e
 | tb _ _ => cases e
 | gone => cases e
 | nd _ => cases e
 | ob _ _ _ => cases e
theorem own_tps {ds : List PyData} (h : Own K F H t v fp) (e : t.tps = some ds) : ∃ a vs, v = .ref a ∧ F a = some (.tup vs) ∧ FzAll F vs ds := by
 cases t with
 | fz d =>
  cases d with
  | tuple es =>
   cases e
   have := own_fz h
   cases this with
   | tup q r => exact ⟨_, _, rfl, q, r⟩
  | none => cases e
  | bool _ => cases e
  | int _ => cases e
  | str _ => cases e
  | list _ => cases e
  | dict _ => cases e
 | ro d => cases e
 | lst xs => cases e
 | dic b kvs => cases e
 | fd b kvs => cases e
 | tb _ _ => cases e
 | gone => cases e
 | nd _ => cases e
 | ob _ _ _ => cases e
theorem fzAll_len : ∀ {ds : List PyData} {vs : List V}, FzAll F vs ds → vs.length = ds.length
 | [], _, h => by cases h; rfl
 | d :: ds, _, h => by cases h with | cons h1 h2 => simp [fzAll_len h2]
theorem fzAll_app : ∀ {ds es : List PyData} {vs ws : List V}, FzAll F vs ds → FzAll F ws es → FzAll F (vs ++ ws) (ds ++ es)
 | [], _, _, _, h, k => by cases h; exact k
 | d :: ds, _, _, _, h, k => by cases h with | cons h1 h2 => exact .cons h1 (fzAll_app h2 k)
theorem fzAll_at : ∀ {ds : List PyData} {vs : List V} {i : Nat} {d : PyData}, FzAll F vs ds → ds[i]? = some d → ∃ v, vs[i]? = some v ∧ Fz F v d
 | [], _, _, _, _, e => by simp at e
 | d :: ds, _, 0, d', h, e => by cases h with | cons h1 h2 => simp at e; subst e; exact ⟨_, rfl, h1⟩
 | d :: ds, _, i + 1, d', h, e => by
  cases h with
  | cons h1 h2 =>
   obtain ⟨w, a, b⟩ := fzAll_at (i := i) h2 (by simpa using e)
   exact ⟨w, by simpa using a, b⟩
theorem fzAll_take : ∀ {ds : List PyData} {vs : List V} (n : Nat), FzAll F vs ds → FzAll F (vs.take n) (ds.take n)
 | _, _, 0, _ => .nil
 | [], _, _ + 1, h => by cases h; exact .nil
 | d :: ds, _, n + 1, h => by cases h with | cons h1 h2 => exact .cons h1 (fzAll_take n h2)
theorem fzAll_drop : ∀ {ds : List PyData} {vs : List V} (n : Nat), FzAll F vs ds → FzAll F (vs.drop n) (ds.drop n)
 | _, _, 0, h => h
 | [], _, _ + 1, h => by cases h; exact .nil
 | d :: ds, _, n + 1, h => by cases h with | cons h1 h2 => exact fzAll_drop n h2
theorem nv_fz (fh : ∀ a o, F a = some o → H a = some o) {d : PyData} (h : Fz F v d) : NewV K F H F H v (.fz d) [] :=
 ⟨fun _ _ e => e, fun _ _ e => e, fun a o e e' => (by rw [e] at e'; cases e'), fh, own_of_fz h, .nil, fun _ h => by cases h⟩
theorem upd_keep {a : Addr} {o ob : HO} {p : Addr} (hp : H p = none) (e : H a = some o) : upd H p ob a = some o := by
 rw [upd_ne (ne_of_none e hp)]
 exact e
theorem nv_lst (fh : ∀ a o, F a = some o → H a = some o) {p : Addr} (hp : H p = none) {vs : List V} {ds : List PyData} (h : FzAll F vs ds) : NewV K F H F (upd H p (.lst vs)) (.ref p) (.lst (fzs ds)) [p] := by
 have fp : F p = none := by
  cases e : F p with
  | none => rfl
  | some o => rw [fh p o e] at hp; cases hp
 refine ⟨fun a o e => upd_keep hp e, fun _ _ e => e, fun a o e e' => (by rw [e] at e'; cases e'), fun a o e => upd_keep hp (fh a o e), ?_, by simp, fun a ha => ?_⟩
 ·unfold Own
  exact ⟨p, vs, [], rfl, rfl, upd_same, fp, ownL_fzs h⟩
 ·simp at ha; subst ha; exact hp
theorem nv_tup (fh : ∀ a o, F a = some o → H a = some o) {p : Addr} (hp : H p = none) {vs : List V} {ds : List PyData} (h : FzAll F vs ds) : NewV K F H (upd F p (.tup vs)) (upd H p (.tup vs)) (.ref p) (.fz (.tuple ds)) [] := by
 have fp : F p = none := by
  cases e : F p with
  | none => rfl
  | some o => rw [fh p o e] at hp; cases hp
 have fk : ∀ a o, F a = some o → upd F p (.tup vs) a = some o := fun a o e => upd_keep fp e
 refine ⟨fun a o e => upd_keep hp e, fk, fun a o e e' => ?_, fun a o e => ?_, own_of_fz (.tup upd_same (fzAll_mono fk ds vs h)), .nil, fun _ h => by cases h⟩
 ·by_cases z : a = p
  ·rw [z]; exact .inl hp
  ·rw [upd_ne z] at e; rw [e] at e'; cases e'
 ·by_cases z : a = p
  ·subst z; rw [upd_same] at e ⊢; exact e
  ·rw [upd_ne z] at e ⊢; exact fh a o e
end
section
variable {X : Cx}
def gAdd (t u : SV) : Option SV :=
 match t, u with
 | .fz (.int i), .fz (.int j) => some (.fz (.int (i + j)))
 | .fz (.str x), .fz (.str y) => if x.length + y.length ≤ sizeLine then some (.fz (.str (x ++ y))) else none
 | t, u => match t.lis, u.lis with
  | some ds, some es => if ds.length + es.length ≤ sizeLine then some (.lst (fzs (ds ++ es))) else none
  | _, _ => match t.tps, u.tps with
   | some ds, some es => if ds.length + es.length ≤ sizeLine then some (.fz (.tuple (ds ++ es))) else none
   | _, _ => none
theorem gAdd_inv {t u z : SV} (h : gAdd t u = some z) : (∃ i j, t = .fz (.int i) ∧ u = .fz (.int j) ∧ z = .fz (.int (i + j))) ∨
  (∃ x y, t = .fz (.str x) ∧ u = .fz (.str y) ∧ x.length + y.length ≤ sizeLine ∧ z = .fz (.str (x ++ y))) ∨
  (∃ ds es, t.lis = some ds ∧ u.lis = some es ∧ ds.length + es.length ≤ sizeLine ∧ z = .lst (fzs (ds ++ es))) ∨
  (∃ ds es, t.tps = some ds ∧ u.tps = some es ∧ ds.length + es.length ≤ sizeLine ∧ z = .fz (.tuple (ds ++ es))) := by
 have rest : (match t.lis, u.lis with
  | some ds, some es => if ds.length + es.length ≤ sizeLine then some (SV.lst (fzs (ds ++ es))) else none
  | _, _ => match t.tps, u.tps with
   | some ds, some es => if ds.length + es.length ≤ sizeLine then some (SV.fz (.tuple (ds ++ es))) else none
   | _, _ => none) = some z → (∃ ds es, t.lis = some ds ∧ u.lis = some es ∧ ds.length + es.length ≤ sizeLine ∧ z = .lst (fzs (ds ++ es))) ∨
  (∃ ds es, t.tps = some ds ∧ u.tps = some es ∧ ds.length + es.length ≤ sizeLine ∧ z = .fz (.tuple (ds ++ es))) := fun h => by
  have second : (match t.tps, u.tps with
   | some ds, some es => if ds.length + es.length ≤ sizeLine then some (SV.fz (.tuple (ds ++ es))) else none
   | _, _ => none) = some z → (∃ ds es, t.tps = some ds ∧ u.tps = some es ∧ ds.length + es.length ≤ sizeLine ∧ z = .fz (.tuple (ds ++ es))) := fun h => by
   cases e1 : t.tps with
   | none => rw [e1] at h; cases h
   | some ds =>
    cases e2 : u.tps with
    | none => rw [e1, e2] at h; cases h
    | some es =>
     rw [e1, e2] at h
     dsimp only at h
     split at h
     ·rename_i hz
      cases h
      exact ⟨ds, es, rfl, rfl, hz, rfl⟩
     ·cases h
  cases e1 : t.lis with
  | none => rw [e1] at h; exact .inr (second h)
  | some ds =>
   cases e2 : u.lis with
   | none => rw [e1, e2] at h; exact .inr (second h)
   | some es =>
    rw [e1, e2] at h
    dsimp only at h
    split at h
    ·rename_i hz
     cases h
     exact .inl ⟨ds, es, rfl, rfl, hz, rfl⟩
    ·cases h
 unfold gAdd at h
 split at h
 ·cases h; exact .inl ⟨_, _, rfl, rfl, rfl⟩
 ·split at h
  ·rename_i hz
   cases h
   exact .inr (.inl ⟨_, _, rfl, rfl, hz, rfl⟩)
  ·cases h
 ·exact .inr (.inr (rest h))
theorem og_add : OpR X (binaryOp .Add) (rG X.K gAdd) := by
 intro pins s σ H x y v u Q I rx ry ⟨F, t, t', z, fx, fy, fh, ox, oy, e, q⟩
 rcases gAdd_inv e with ⟨i, j, rfl, rfl, rfl⟩ | ⟨i, j, rfl, rfl, hz, rfl⟩ | ⟨ds, es, e1, e2, hz, rfl⟩ | ⟨ds, es, e1, e2, hz, rfl⟩
 ·exact op_add pins s σ H x y v u Q I rx ry ⟨i, j, fz_int ox, fz_int oy, q F H _ [] (nv_fz fh (.int _))⟩
 ·exact op_add_str pins s σ H x y v u Q I rx ry ⟨i, j, fz_str ox, fz_str oy, hz, q F H _ [] (nv_fz fh (.str _))⟩
 ·obtain ⟨a, vs, r1, r2, r3⟩ := own_lis fh ox e1
  obtain ⟨b, ws, r4, r5, r6⟩ := own_lis fh oy e2
  exact op_cat pins s σ H x y v u Q I rx ry ⟨a, b, vs, ws, r1, r4, r2, r5, by rw [fzAll_len r3, fzAll_len r6]; exact hz, fun p hp => q F _ _ [p] (nv_lst fh hp (fzAll_app r3 r6))⟩
 ·obtain ⟨a, vs, r1, r2, r3⟩ := own_tps ox e1
  obtain ⟨b, ws, r4, r5, r6⟩ := own_tps oy e2
  refine op_catA pins s σ H x y v u Q I rx ry ⟨a, b, vs, ws, r1, r4, SqT.of (fh _ _ r2), SqT.of (fh _ _ r5), by rw [fzAll_len r3, fzAll_len r6]; exact hz, fun n => ?_, fun _ n => ?_, fun _ _ p hp => q _ _ _ _ (nv_tup fh hp (fzAll_app r3 r6))⟩
  ·subst n
   cases r3
   exact q F H _ [] (nv_fz fh (.tup r5 r6))
  ·subst n
   cases r6
   rw [List.append_nil] at q
   exact q F H _ [] (nv_fz fh (.tup r2 r3))
def gInt (C : Int → Int → Bool) (f : Int → Int → Int) (t u : SV) : Option SV :=
 match t, u with
 | .fz (.int i), .fz (.int j) => if C i j = true then some (.fz (.int (f i j))) else none
 | _, _ => none
theorem og_int {op : Value → Value → Sem Value} {C : Int → Int → Bool} {Cp : Int → Int → Prop} {f : Int → Int → Int} (ho : OpR X op (rI Cp fun i j => .int (f i j))) (hC : ∀ i j, C i j = true → Cp i j) : OpR X op (rG X.K (gInt C f)) := by
 intro pins s σ H x y v u Q I rx ry ⟨F, t, t', z, fx, fy, fh, ox, oy, e, q⟩
 unfold gInt at e
 split at e
 ·split at e
  ·rename_i i j hc
   cases e
   exact ho pins s σ H x y v u Q I rx ry ⟨i, j, fz_int ox, fz_int oy, hC i j hc, q F H _ [] (nv_fz fh (.int _))⟩
  ·cases e
 ·cases e
theorem rI_of0 {op : Value → Value → Sem Value} {g : Int → Int → V} (h : OpR X op (rI0 g)) : OpR X op (rI (fun _ _ => True) g) :=
 fun pins s σ H x y v u Q I rx ry ⟨i, j, a, b, _, q⟩ => h pins s σ H x y v u Q I rx ry ⟨i, j, a, b, q⟩
def cT : Int → Int → Bool := fun _ _ => true
def gSub := gInt cT fun i j => i - j
theorem og_sub : OpR X (binaryOp .Sub) (rG X.K gSub) := og_int (rI_of0 op_sub) fun _ _ _ => trivial
def cDiv (_ j : Int) : Bool := decide (0 < j) && decide (j.natAbs.log2 < 9000)
def gFDiv := gInt cDiv fun i j => i / j
theorem og_fdiv : OpR X (binaryOp .FloorDiv) (rG X.K gFDiv) := og_int op_fdivW fun i j h => by
 unfold cDiv at h
 rw [Bool.and_eq_true] at h
 exact ⟨of_decide_eq_true h.1, of_decide_eq_true h.2⟩
def cMod (_ j : Int) : Bool := decide (0 < j)
def gMod := gInt cMod fun i j => i % j
theorem og_mod : OpR X (binaryOp .Mod) (rG X.K gMod) := og_int op_mod fun i j h => of_decide_eq_true h
def cPow (i j : Int) : Bool := decide (0 ≤ j) && decide (j ≤ 1000000) && decide (i.natAbs < 2 ^ 64)
theorem cPow_ok {i j : Int} (h : cPow i j = true) : CPow i j := by
 unfold cPow at h
 rw [Bool.and_eq_true, Bool.and_eq_true] at h
 exact ⟨of_decide_eq_true h.1.1, of_decide_eq_true h.1.2, of_decide_eq_true h.2⟩
def gPow := gInt cPow fun i j => i ^ j.toNat
theorem og_pow : OpR X (binaryOp .Pow) (rG X.K gPow) := og_int op_pow fun _ _ h => cPow_ok h
def cMul (i j : Int) : Bool := decide (i.natAbs.log2 + j.natAbs.log2 < 1000000)
def gMul (t u : SV) : Option SV :=
 match t, u with
 | .fz (.int i), .fz (.int j) => if cMul i j = true then some (.fz (.int (i * j))) else none
 | .fz (.str x), .fz (.int k) => if 0 ≤ k ∧ k < 2 ^ 63 ∧ x.length * k.toNat ≤ sizeLine then some (.fz (.str (Txt.mul x k))) else none
 | .fz (.tuple ds), .fz (.int k) => if ds.isEmpty = false ∧ 1 ≤ k ∧ k ≤ 1000 ∧ ds.length ≤ 1000 then some (.fz (.tuple (List.replicate k.toNat ds).flatten)) else none
 | t, .fz (.int k) => match t.lis with
  | some ds => if 0 ≤ k ∧ k < 2 ^ 63 ∧ ds.length * k.toNat ≤ sizeLine then some (.lst (fzs (List.replicate k.toNat ds).flatten)) else none
  | none => none
 | _, _ => none
theorem fzAll_rep {F : Hp} {ds : List PyData} {vs : List V} (h : FzAll F vs ds) : ∀ n : Nat, FzAll F (List.replicate n vs).flatten (List.replicate n ds).flatten
 | 0 => .nil
 | n + 1 => by
  rw [List.replicate_succ, List.replicate_succ, List.flatten_cons, List.flatten_cons]
  exact fzAll_app h (fzAll_rep h n)
theorem op_mul_str : OpR X (binaryOp .Mult) (fun x y H Q => ∃ i k, x = .str i ∧ y = .int k ∧ (0 ≤ k ∧ k < 2 ^ 63 ∧ i.length * k.toNat ≤ sizeLine) ∧ Q (.str (Txt.mul i k)) H) := by
 intro pins s σ H x y v u Q I rx ry h
 obtain ⟨i, j, rfl, rfl, hz, q⟩ := h
 obtain ⟨t, rfl⟩ := rx
 obtain ⟨t', rfl⟩ := ry
 obtain ⟨h1, h2, h3⟩ := hz
 rw [sizeLine_eq] at h3
 have p63 : (2 : Int) ^ 63 = 9223372036854775808 := by decide
 refine SB.mul ⟨?_, fun a b => ?_, fun a b => ?_⟩ (fun t' tk => ⟨.str (Txt.mul i j), H, I.tok _, ⟨_, rfl⟩, q⟩)
 ·rw [p63] at h2 ⊢
  simp
  omega
 ·have h4 : (i.length : Int) ≤ (2 ^ 63 - 1) / j := by
   refine Int.le_ediv_of_mul_le (by omega) ?_
   have e : ((i.length * j.toNat : Nat) : Int) = i.length * j := by rw [Int.natCast_mul, Int.toNat_of_nonneg h1]
   have h5 : ((i.length * j.toNat : Nat) : Int) ≤ 16777216 := by omega
   rw [← e, p63]
   omega
  omega
 ·unfold Builtin.Str.tooLong
  rw [sizeLine_eq]
  exact decide_eq_false (by omega)
theorem tuple_mul1 (l : Addr) (items : Array Value) (n : Nat) (dd : Option Addr) (sl : Array (Option Value)) (u : Tok) :
  Meets (Builtin.«tuple.__mul__» ⟨[.ref l, .int 1 u], []⟩) (fun _ R s => s.heap.get? l = some { cls := .type "tuple", dict := dd, data := .seq items n, slots := sl } ∧
   R (.ok (.ret (Value.ref l))) s) :=
 .of_wp fun prog w A R s h => by
  obtain ⟨hp, g, d, tk, os⟩ := s
  obtain ⟨hl, h⟩ := h
  have f1 := AutoSeq1.idx_int
  have c0 : (decide ((1 : Int) < -(2 ^ 63)) || decide ((1 : Int) ≥ 2 ^ 63)) = false := by decide
  have c1 : (items.isEmpty || (1 : Int) == 1) = true := by rw [show ((1 : Int) == 1) = true from rfl, Bool.or_true]
  wp_walk using wpAny_loadPart' hl
  repeat (first
   | (refine wpAny_ite_false (decide_eq_false (by rw [c0]; exact Bool.false_ne_true)) ?_; wp_walk using wpAny_loadPart' hl)
   | (refine wpAny_ite_true (decide_eq_true c1) ?_; wp_walk using wpAny_loadPart' hl))
  exact ⟨_, rfl, h⟩
theorem op_repT1 : OpR X (binaryOp .Mult) (fun x y H Q => ∃ l xs, x = .ref l ∧ y = .int 1 ∧ SqT X.K H l xs ∧ Q (.ref l) H) := by
 intro pins s σ H x y v u Q I rx ry h
 obtain ⟨l, xs, rfl, rfl, hT, q⟩ := h
 cases rx
 obtain ⟨t, rfl⟩ := ry
 obtain ⟨its, r, ⟨⟨cls, dd, data, sl⟩, ho, hc, n, hd⟩, hs⟩ := I.tuple hT
 simp only at hc hd
 subst hc hd
 exact wpAny_binaryOp_repeat_ref (T := "tuple") (U := "int") (by decide) ⟨_, ho, rfl⟩ (fun s' => typeIs_int s' 1 t) noFill_tuple_mul F.fills_int_mul F.slot_int_rmul repeat_tuple F.slot_int_index.lookup
  (call_meets F.slot_int_rmul (typeIs_int s 1 t) F.entry_int_rmul (F.args_int_rmul_2 _ _) (int_rmul_tuple 1 t l its.toArray n dd sl)
   ⟨ho, rfl, ⟨_, ho, rfl⟩, call_meets F.slot_tuple_mul ⟨_, ho, rfl⟩ F.entry_tuple_mul (F.args_tuple_mul_2 _ _) (tuple_mul1 l its.toArray n dd sl t) ⟨ho, .ref l, H, I, rfl, q⟩⟩)
theorem og_mul : OpR X (binaryOp .Mult) (rG X.K gMul) := by
 intro pins s σ H x y v u Q I rx ry ⟨F, t, t', z, fx, fy, fh, ox, oy, e, q⟩
 unfold gMul at e
 split at e
 ·split at e
  ·rename_i i j hc
   cases e
   exact op_mulW pins s σ H x y v u Q I rx ry ⟨i, j, fz_int ox, fz_int oy, (show i.natAbs.log2 + j.natAbs.log2 < 1000000 from of_decide_eq_true hc), q F H _ [] (nv_fz fh (.int _))⟩
  ·cases e
 ·split at e
  ·rename_i i k hc
   cases e
   exact op_mul_str pins s σ H x y v u Q I rx ry ⟨i, k, fz_str ox, fz_int oy, hc, q F H _ [] (nv_fz fh (.str _))⟩
  ·cases e
 ·split at e
  ·rename_i ds k hc
   cases e
   have h := own_fz ox
   cases h with
   | tup g1 g2 =>
    rename_i a vs
    obtain ⟨c1, c2, c3, c4⟩ := hc
    by_cases k1 : k = 1
    ·subst k1
     refine op_repT1 pins s σ H _ y v u Q I rx ry ⟨a, vs, rfl, fz_int oy, SqT.of (fh _ _ g1), q F H _ [] ?_⟩
     have e : (List.replicate (1 : Int).toNat ds).flatten = ds := by simp
     rw [e]
     exact nv_fz fh (.tup g1 g2)
    exact op_repT pins s σ H _ y v u Q I rx ry ⟨a, k, vs, rfl, fz_int oy, SqT.of (fh _ _ g1), fun z => (by subst z; cases g2; cases c1), by omega, c3, by rw [fzAll_len g2]; exact c4, fun p hp => q _ _ _ _ (nv_tup fh hp (fzAll_rep g2 _))⟩
  ·cases e
 ·rename_i k _ _ _
  cases e1 : t.lis with
  | none => rw [e1] at e; cases e
  | some ds =>
   rw [e1] at e
   dsimp only at e
   split at e
   ·rename_i hk
    cases e
    obtain ⟨a, vs, r1, r2, r3⟩ := own_lis fh ox e1
    exact op_rep pins s σ H x y v u Q I rx ry ⟨a, k, vs, r1, fz_int oy, r2, by omega, hk.2.1, by rw [fzAll_len r3]; exact hk.2.2, fun p hp => q _ _ _ _ (nv_lst fh hp (fzAll_rep r3 _))⟩
   ·cases e
 ·cases e
def gEq (t u : SV) : Option SV :=
 match t.view, u.view with
 | some d, some e => if SeqAt.shaped d = true ∧ SeqAt.shaped e = true then some (.fz (.bool (PyData.eqv d e))) else none
 | _, _ => none
def gNe (t u : SV) : Option SV :=
 match t.view, u.view with
 | some d, some e => if SeqAt.shaped d = true ∧ SeqAt.shaped e = true then some (.fz (.bool (!PyData.eqv d e))) else none
 | _, _ => none
theorem og_eq (hu : X.A.units + 64 < cLine) : OpR X (compareOp .Eq) (rG X.K gEq) := by
 intro pins s σ H x y v u Q I rx ry ⟨F, t, t', z, fx, fy, fh, ox, oy, e, q⟩
 unfold gEq at e
 cases e1 : t.view with
 | none => rw [e1] at e; cases e
 | some d =>
  cases e2 : t'.view with
  | none => rw [e1, e2] at e; cases e
  | some d' =>
   rw [e1, e2] at e
   dsimp only at e
   split at e
   ·rename_i hs
    cases e
    exact op_eqD hu pins s σ H x y v u Q I rx ry ⟨d, d', own_view fh ox e1, own_view fh oy e2, hs.1, hs.2, q F H _ [] (nv_fz fh (.bl _))⟩
   ·cases e
theorem og_ne (hu : X.A.units + 64 < cLine) : OpR X (compareOp .NotEq) (rG X.K gNe) := by
 intro pins s σ H x y v u Q I rx ry ⟨F, t, t', z, fx, fy, fh, ox, oy, e, q⟩
 unfold gNe at e
 cases e1 : t.view with
 | none => rw [e1] at e; cases e
 | some d =>
  cases e2 : t'.view with
  | none => rw [e1, e2] at e; cases e
  | some d' =>
   rw [e1, e2] at e
   dsimp only at e
   split at e
   ·rename_i hs
    cases e
    exact op_neD hu pins s σ H x y v u Q I rx ry ⟨d, d', own_view fh ox e1, own_view fh oy e2, hs.1, hs.2, q F H _ [] (nv_fz fh (.bl _))⟩
   ·cases e
def gOrd (fi : Int → Int → Bool) (fs : Str → Str → Bool) (fd : PyData → PyData → Bool) (t u : SV) : Option SV :=
 match t, u with
 | .fz (.int i), .fz (.int j) => some (.fz (.bool (fi i j)))
 | .fz (.str i), .fz (.str j) => some (.fz (.bool (fs i j)))
 | .fz (.tuple d), .fz (.tuple e) => if PySem.W.alike (.tuple d) (.tuple e) = true ∧ PyData.depth (.tuple d) ≤ 64 then some (.fz (.bool (fd (.tuple d) (.tuple e)))) else none
 | _, _ => none
theorem og_ord {op : CmpOp} {fi : Int → Int → Bool} {fs : Str → Str → Bool} {fd : PyData → PyData → Bool}
  (h1 : OpR X (compareOp op) (rI0 fun i j => .bl (fi i j))) (h2 : OpR X (compareOp op) (fun x y H Q => ∃ i j, x = .str i ∧ y = .str j ∧ Q (.bl (fs i j)) H))
  (h3 : ∀ (s : Shared) (a b : Value) (da db : PyData) (as bs : List Addr) (Q : Value → Shared → Prop), Reads s.heap a da as → Reads s.heap b db bs → PySem.W.alike da db = true → da ≠ .none → X.A.units + min da.depth db.depth < cLine → Q (.bool (fd da db)) s → wpAny (model X.prog X.w) X.A (compareOp op a b) Q X.xe s)
  (hu : X.A.units + 64 < cLine) : OpR X (compareOp op) (rG X.K (gOrd fi fs fd)) := by
 intro pins s σ H x y v u Q I rx ry ⟨F, t, t', z, fx, fy, fh, ox, oy, e, q⟩
 unfold gOrd at e
 split at e
 ·cases e
  exact h1 pins s σ H x y v u Q I rx ry ⟨_, _, fz_int ox, fz_int oy, q F H _ [] (nv_fz fh (.bl _))⟩
 ·cases e
  exact h2 pins s σ H x y v u Q I rx ry ⟨_, _, fz_str ox, fz_str oy, q F H _ [] (nv_fz fh (.bl _))⟩
 ·split at e
  ·rename_i d e' hk
   cases e
   obtain ⟨as, r1⟩ := Dp.reads I _ x v (own_view fh ox rfl) rx
   obtain ⟨bs, r2⟩ := Dp.reads I _ y u (own_view fh oy rfl) ry
   exact h3 s v u _ _ as bs _ r1 r2 hk.1 (fun z => by cases z) (by omega) ⟨.bl _, H, I, rfl, q F H _ [] (nv_fz fh (.bl _))⟩
  ·cases e
 ·cases e
def gLt := gOrd (fun i j => decide (i < j)) (fun i j => decide (i.cps.toList < j.cps.toList)) PySem.W.dataLt
def gGt := gOrd (fun i j => decide (j < i)) (fun i j => decide (j.cps.toList < i.cps.toList)) (fun a b => PySem.W.dataLt b a)
def gLe := gOrd (fun i j => decide (i ≤ j)) (fun i j => !decide (j.cps.toList < i.cps.toList)) (fun a b => !PySem.W.dataLt b a)
theorem og_lt (hu : X.A.units + 64 < cLine) : OpR X (compareOp .Lt) (rG X.K gLt) := og_ord op_lt op_lt_str (fun s a b da db as bs Q r1 r2 h1 h2 h3 hq => PySem.W.lt_data r1 r2 h1 h2 h3 hq) hu
theorem og_gt (hu : X.A.units + 64 < cLine) : OpR X (compareOp .Gt) (rG X.K gGt) := og_ord op_gt op_gt_str (fun s a b da db as bs Q r1 r2 h1 h2 h3 hq => PySem.W.gt_data r1 r2 h1 h2 h3 hq) hu
theorem og_le (hu : X.A.units + 64 < cLine) : OpR X (compareOp .LtE) (rG X.K gLe) := og_ord op_le op_le_str (fun s a b da db as bs Q r1 r2 h1 h2 h3 hq => PySem.W.le_data r1 r2 h1 h2 h3 hq) hu
def gIsN (t u : SV) : Option SV :=
 match t, u with
 | .fz d, .fz .none => some (.fz (.bool (match d with | .none => true | _ => false)))
 | .lst _, .fz .none => some (.fz (.bool false))
 | .dic _ _, .fz .none => some (.fz (.bool false))
 | _, _ => none
def gNotN (t u : SV) : Option SV :=
 match gIsN t u with
 | some (.fz (.bool b)) => some (.fz (.bool (!b)))
 | _ => none
theorem gIsN_ok {K : PySem.W.Frag} {F H : Hp} {t u z : SV} {x y : V} {fx fy : List Addr} (ox : Own K F H t x fx) (oy : Own K F H u y fy) (e : gIsN t u = some z) : y = .non ∧ z = .fz (.bool (decide (x = .non))) := by
 unfold gIsN at e
 split at e
 ·cases e
  refine ⟨fz_non oy, ?_⟩
  have h := own_fz ox
  cases h <;> rfl
 ·cases e
  refine ⟨fz_non oy, ?_⟩
  unfold Own at ox
  obtain ⟨a, _, _, e1, _⟩ := ox
  rw [e1] <;> rfl
 ·cases e
  refine ⟨fz_non oy, ?_⟩
  unfold Own at ox
  obtain ⟨a, _, _, e1, _⟩ := ox
  rw [e1] <;> rfl
 ·cases e
theorem og_notN : OpR X (compareOp .IsNot) (rG X.K gNotN) := by
 intro pins s σ H x y v u Q I rx ry ⟨F, t, t', z, fx, fy, fh, ox, oy, e, q⟩
 unfold gNotN at e
 cases e1 : gIsN t t' with
 | none => rw [e1] at e; cases e
 | some w =>
  obtain ⟨e2, rfl⟩ := gIsN_ok ox oy e1
  rw [e1] at e
  cases e
  exact op_notN pins s σ H x y v u Q I rx ry ⟨e2, q F H _ [] (nv_fz fh (.bl _))⟩
def keyAt : PyData → Option Key
 | .int i => some (.inl i)
 | .str x => some (.inr x)
 | _ => none
def keysOf : List PyData → Option (List Key)
 | [] => some []
 | d :: ds => match keyAt d, keysOf ds with
  | some k, some ks => some (k :: ks)
  | _, _ => none
def toKey (b : Bool) : SV → Option DKey
 | .fz d => match b, d with
  | false, d => match keyAt d with
   | some k => some (.k k)
   | none => none
  | true, .tuple ds => match keysOf ds with
   | some ks => some (.t ks)
   | none => none
  | _, _ => none
 | _ => none
def dlook : List (DKey × SV) → DKey → Option SV
 | [], _ => none
 | (k, x) :: r, j => if k = j then some x else dlook r j
def dput : List (DKey × SV) → DKey → SV → List (DKey × SV)
 | [], j, y => [(j, y)]
 | (k, x) :: r, j, y => if k = j then (k, y) :: r else (k, x) :: dput r j y
theorem keyAt_ok {F : Hp} {d : PyData} {k : Key} {v : V} (h : Fz F v d) (e : keyAt d = some k) : v = kV k := by
 cases d with
 | int i => cases e; cases h; rfl
 | str i => cases e; cases h; rfl
 | none => cases e
 | bool _ => cases e
 | list _ => cases e
 | tuple _ => cases e
 | dict _ => cases e
theorem keysOf_ok {F : Hp} : ∀ {ds : List PyData} {ks : List Key} {vs : List V}, FzAll F vs ds → keysOf ds = some ks → vs = ks.map kV
 | [], ks, vs, h, e => by cases h; cases e; rfl
 | d :: ds, ks, vs, h, e => by
  cases h with
  | cons h1 h2 =>
   unfold keysOf at e
   cases e1 : keyAt d with
   | none => rw [e1] at e; cases e
   | some k =>
    cases e2 : keysOf ds with
    | none => rw [e1, e2] at e; cases e
    | some ks' =>
     rw [e1, e2] at e
     cases e
     rw [keyAt_ok h1 e1, keysOf_ok h2 e2, List.map_cons]
theorem ownD_look {κ : Type} [DecidableEq κ] {K : PySem.W.Frag} {F H : Hp} (c : κ → DKey) (inj : ∀ a b, c a = c b → a = b) : ∀ {kvs : List (DKey × SV)} {us : List V} {fq : List Addr} {ws : List (κ × V)}, OwnD K F H kvs us fq → ws.map (fun p => c p.1) = kvs.map (·.1) → us = ws.map (·.2) → ∀ k : κ,
  (dlook kvs (c k) = none ∧ valV ws k = none) ∨ ∃ x v f, dlook kvs (c k) = some x ∧ valV ws k = some v ∧ Own K F H x v f ∧ ∀ a ∈ f, a ∈ fq
 | [], us, fq, ws, h, e, e', k => by
  cases ws with
  | nil => exact .inl ⟨rfl, rfl⟩
  | cons p r => simp at e
 | (k0, x) :: kvs, us, fq, ws, h, e, e', k => by
  cases ws with
  | nil => simp at e
  | cons p r =>
   rw [List.map_cons, List.map_cons] at e
   injection e with e1 e2
   unfold OwnD at h
   obtain ⟨v, rr, f, g, h1, h2, h3, h4⟩ := h
   rw [e', List.map_cons] at h1
   injection h1 with h5 h6
   by_cases hk : p.1 = k
   ·right
    refine ⟨x, v, f, ?_, ?_, h3, fun a ha => by rw [h2]; simp [ha]⟩
    ·unfold dlook
     rw [if_pos (show k0 = c k from by rw [← hk]; exact e1.symm)]
    ·rw [valV_pos hk, h5]
   ·have ne : ¬ k0 = c k := fun z => hk (inj _ _ (by rw [← z]; exact e1))
    have d1 : dlook ((k0, x) :: kvs) (c k) = dlook kvs (c k) := by
     show (if k0 = c k then some x else dlook kvs (c k)) = _
     rw [if_neg ne]
    rcases ownD_look c inj h4 e2 h6.symm k with ⟨a, b⟩ | ⟨x', v', f', a, b, c', d'⟩
    ·exact .inl ⟨d1.trans a, (valV_neg hk).trans b⟩
    ·exact .inr ⟨x', v', f', d1.trans a, (valV_neg hk).trans b, c', fun z hz => by rw [h2]; simp [d' z hz]⟩
theorem injK : ∀ a b : Key, DKey.k a = DKey.k b → a = b := fun _ _ h => DKey.k.inj h
theorem injT : ∀ a b : List Key, DKey.t a = DKey.t b → a = b := fun _ _ h => DKey.t.inj h
def fzD (kvs : List (DKey × PyData)) : List (DKey × SV) := kvs.map fun p => (p.1, .fz p.2)
theorem fzD_keys (kvs : List (DKey × PyData)) : (fzD kvs).map (·.1) = kvs.map (·.1) := by unfold fzD; rw [List.map_map]; rfl
theorem fzD_own {K : PySem.W.Frag} {F H : Hp} : ∀ {kvs : List (DKey × PyData)} {us : List V}, FzAll F us (kvs.map (·.2)) → OwnD K F H (fzD kvs) us []
 | [], us, h => by cases h; show OwnD K F H [] [] []; unfold OwnD; exact ⟨rfl, rfl⟩
 | (k, d) :: kvs, us, h => by
  cases h with
  | cons h1 h2 =>
   show OwnD K F H ((k, .fz d) :: fzD kvs) _ []
   unfold OwnD
   exact ⟨_, _, [], [], rfl, rfl, (by unfold Own; exact ⟨h1, rfl⟩), fzD_own h2⟩
def RdD (H : Hp) (a : Addr) (b : Bool) (kvs : List (DKey × SV)) (us : List V) : Prop :=
 (b = false ∧ ∃ ws, Rd H a (.dK ws) ∧ ws.map (fun p => DKey.k p.1) = kvs.map (·.1) ∧ us = ws.map (·.2)) ∨
 (b = true ∧ ∃ ws, Rd H a (.dT ws) ∧ ws.map (fun p => DKey.t p.1) = kvs.map (·.1) ∧ us = ws.map (·.2))
theorem rdD_get {K : PySem.W.Frag} {F H : Hp} (fh : ∀ a o, F a = some o → H a = some o) {b : Bool} {kvs : List (DKey × SV)} {us : List V} {fq : List Addr} {a : Addr} {t : SV} {y : V} {fk : List Addr} {k : DKey} (e4 : OwnD K F H kvs us fq) (e5 : RdD H a b kvs us) (hk : Own K F H t y fk) (e : toKey b t = some k) :
  (dlook kvs k = none ∧ DGet H a y none) ∨ ∃ x w f, dlook kvs k = some x ∧ DGet H a y (some w) ∧ Own K F H x w f ∧ ∀ z ∈ f, z ∈ fq := by
 cases t with
 | ro d => cases e
 | lst _ => cases e
 | dic _ _ => cases e
 | fd _ _ => cases e
 | tb _ _ => cases e
 | gone => cases e
 | nd _ => cases e
 | ob _ _ _ => cases e
 | fz d =>
  have hd := own_fz hk
  rcases e5 with ⟨rfl, ws, q1, q2, q3⟩ | ⟨rfl, ws, q1, q2, q3⟩
  ·have e' : (match keyAt d with | some k => some (DKey.k k) | none => none) = some k := e
   cases ek : keyAt d with
   | none => rw [ek] at e'; cases e'
   | some k' =>
    rw [ek] at e'
    cases e'
    have ey := keyAt_ok hd ek
    subst ey
    rcases ownD_look DKey.k injK e4 q2 q3 k' with ⟨n1, n2⟩ | ⟨x, w, f, n1, n2, n3, n4⟩
    ·exact .inl ⟨n1, .inl ⟨ws, k', q1, rfl, n2.symm⟩⟩
    ·exact .inr ⟨x, w, f, n1, .inl ⟨ws, k', q1, rfl, n2.symm⟩, n3, n4⟩
  ·cases d with
   | tuple ds =>
    have e' : (match keysOf ds with | some ks => some (DKey.t ks) | none => none) = some k := e
    cases ek : keysOf ds with
    | none => rw [ek] at e'; cases e'
    | some ks =>
     rw [ek] at e'
     cases e'
     cases hd with
     | tup g1 g2 =>
      have ey := keysOf_ok g2 ek
      subst ey
      rcases ownD_look DKey.t injT e4 q2 q3 ks with ⟨n1, n2⟩ | ⟨x, w, f, n1, n2, n3, n4⟩
      ·exact .inl ⟨n1, .inr ⟨ws, ks, _, q1, rfl, fh _ _ g1, n2.symm⟩⟩
      ·exact .inr ⟨x, w, f, n1, .inr ⟨ws, ks, _, q1, rfl, fh _ _ g1, n2.symm⟩, n3, n4⟩
   | none => cases e
   | bool _ => cases e
   | int _ => cases e
   | str _ => cases e
   | list _ => cases e
   | dict _ => cases e
def SV.dct : SV → Option (Bool × List (DKey × SV))
 | .dic b kvs => some (b, kvs)
 | .fd b kvs => some (b, fzD kvs)
 | _ => none
theorem own_dct {K : PySem.W.Frag} {F H : Hp} (fh : ∀ a o, F a = some o → H a = some o) {u : SV} {v : V} {fp : List Addr} {b : Bool} {kvs : List (DKey × SV)} (h : Own K F H u v fp) (e : u.dct = some (b, kvs)) : ∃ a us fq, v = .ref a ∧ OwnD K F H kvs us fq ∧ RdD H a b kvs us ∧ ∀ z ∈ fq, z ∈ fp := by
 cases u with
 | fz d => cases e
 | ro d => cases e
 | lst _ => cases e
 | tb _ _ => cases e
 | gone => cases e
 | nd _ => cases e
 | ob _ _ _ => cases e
 | dic b' kvs' =>
  cases e
  unfold Own at h
  obtain ⟨a, us, fq, e1, e2, e3, e4, e5⟩ := h
  exact ⟨a, us, fq, e1, e4, e5.imp (fun ⟨h1, ws, h2, h3⟩ => ⟨h1, ws, .inl h2, h3⟩) (fun ⟨h1, ws, h2, h3⟩ => ⟨h1, ws, .inl h2, h3⟩), fun z hz => by rw [e2]; exact List.mem_cons_of_mem _ hz⟩
 | fd b' kvs' =>
  cases e
  unfold Own at h
  obtain ⟨_, a, o, us, e1, e2, e3⟩ := h
  exact ⟨a, us, [], e1, fzD_own e2, e3.imp (fun ⟨h1, ws, h2, h3⟩ => ⟨h1, ws, .inr ⟨o, fh _ _ h2⟩, by rw [fzD_keys]; exact h3⟩) (fun ⟨h1, ws, h2, h3⟩ => ⟨h1, ws, .inr ⟨o, fh _ _ h2⟩, by rw [fzD_keys]; exact h3⟩), fun z hz => by cases hz⟩
theorem own_dget' {K : PySem.W.Frag} {F H : Hp} (fh : ∀ a o, F a = some o → H a = some o) {u : SV} {b : Bool} {kvs : List (DKey × SV)} {t : SV} {v y : V} {fp fk : List Addr} {k : DKey} (h : Own K F H u v fp) (hu : u.dct = some (b, kvs)) (hk : Own K F H t y fk) (e : toKey b t = some k) :
  ∃ a, v = .ref a ∧ ((dlook kvs k = none ∧ DGet H a y none) ∨ ∃ x w f, dlook kvs k = some x ∧ DGet H a y (some w) ∧ Own K F H x w f ∧ ∀ z ∈ f, z ∈ fp) := by
 obtain ⟨a, us, fq, e1, e2, e3, e4⟩ := own_dct fh h hu
 refine ⟨a, e1, ?_⟩
 rcases rdD_get fh e2 e3 hk e with q | ⟨x, w, f, n1, n2, n3, n4⟩
 ·exact .inl q
 ·exact .inr ⟨x, w, f, n1, n2, n3, fun z hz => e4 z (n4 z hz)⟩
theorem own_dget {K : PySem.W.Frag} {F H : Hp} (fh : ∀ a o, F a = some o → H a = some o) {b : Bool} {kvs : List (DKey × SV)} {t : SV} {v y : V} {fp fk : List Addr} {k : DKey} (h : Own K F H (.dic b kvs) v fp) (hk : Own K F H t y fk) (e : toKey b t = some k) :
  ∃ a, v = .ref a ∧ ((dlook kvs k = none ∧ DGet H a y none) ∨ ∃ x w f, dlook kvs k = some x ∧ DGet H a y (some w) ∧ Own K F H x w f ∧ ∀ z ∈ f, z ∈ fp) := own_dget' fh h rfl hk e
def inStr (x y : Str) : Bool :=
 match x.cps.toList with
 | [c] => decide (c ∈ y.cps.toList)
 | _ => !(Builtin.Str.occurrences y x 0 y.length 1).isEmpty
def inSeq (d : PyData) (es : List PyData) : Bool := es.any fun z => PyData.eqv z d
def gInB (t u : SV) : Option Bool :=
 match t, u with
 | .fz (.str x), .fz (.str y) => some (inStr x y)
 | t, .dic b kvs => match toKey b t with
  | some k => some (dlook kvs k).isSome
  | none => none
 | t, .fd b kvs => match toKey b t with
  | some k => some (dlook (fzD kvs) k).isSome
  | none => none
 | t, u => match t.view, u.view with
  | some d, some (.list es) => if SeqAt.shaped d = true ∧ SeqAt.shaped (.list es) = true then some (inSeq d es) else none
  | some d, some (.tuple es) => if SeqAt.shaped d = true ∧ SeqAt.shaped (.tuple es) = true then some (inSeq d es) else none
  | _, _ => none
def gIn (t u : SV) : Option SV :=
 match gInB t u with
 | some b => some (.fz (.bool b))
 | none => none
def gNotIn (t u : SV) : Option SV :=
 match gInB t u with
 | some b => some (.fz (.bool (!b)))
 | none => none
theorem gInB_inv {t u : SV} {b : Bool} (h : gInB t u = some b) : (∃ x y, t = .fz (.str x) ∧ u = .fz (.str y) ∧ b = inStr x y) ∨
  (∃ k kvs j, u.dct = some (k, kvs) ∧ toKey k t = some j ∧ b = (dlook kvs j).isSome) ∨
  ∃ d es, t.view = some d ∧ (u.view = some (.list es) ∧ SeqAt.shaped (.list es) = true ∨ u.view = some (.tuple es) ∧ SeqAt.shaped (.tuple es) = true) ∧ SeqAt.shaped d = true ∧ b = inSeq d es := by
 unfold gInB at h
 split at h
 ·cases h; exact .inl ⟨_, _, rfl, rfl, rfl⟩
 ·split at h
  ·rename_i e
   cases h
   exact .inr (.inl ⟨_, _, _, rfl, e, rfl⟩)
  ·cases h
 ·split at h
  ·rename_i e
   cases h
   exact .inr (.inl ⟨_, _, _, rfl, e, rfl⟩)
  ·cases h
 ·split at h
  ·rename_i e1 e2
   split at h
   ·rename_i hs
    cases h
    exact .inr (.inr ⟨_, _, e1, .inl ⟨e2, hs.2⟩, hs.1, rfl⟩)
   ·cases h
  ·rename_i e1 e2
   split at h
   ·rename_i hs
    cases h
    exact .inr (.inr ⟨_, _, e1, .inr ⟨e2, hs.2⟩, hs.1, rfl⟩)
   ·cases h
  ·cases h
theorem og_in (hu : X.A.units + 65 < cLine) : OpR X (compareOp .In) (rG X.K gIn) := by
 intro pins s σ H x y v u Q I rx ry ⟨F, t, t', z, fx, fy, fh, ox, oy, e, q⟩
 unfold gIn at e
 cases eb : gInB t t' with
 | none => rw [eb] at e; cases e
 | some b =>
  rw [eb] at e
  cases e
  have fin : Q (.bl b) H := q F H _ [] (nv_fz fh (.bl _))
  rcases gInB_inv eb with ⟨a, c, rfl, rfl, rfl⟩ | ⟨k, kvs, j, ed, e1, rfl⟩ | ⟨d, es, e1, e2, hs, rfl⟩
  ·unfold inStr at fin
   split at fin
   ·rename_i c' ec
    refine op_in_sign pins s σ H x y v u Q I rx ry ⟨c', c, ?_, fz_str oy, fin⟩
    rw [fz_str ox]
    congr 1
    exact TL.ext_tl (by show a.cps.toList = _; rw [ec])
   ·exact op_in_str pins s σ H x y v u Q I rx ry ⟨a, c, fz_str ox, fz_str oy, fin⟩
  ·obtain ⟨a, rfl, g⟩ := own_dget' fh oy ed ox e1
   cases ry
   rcases g with ⟨g1, g2⟩ | ⟨x', w', f', g1, g2, _⟩
   ·rw [g1] at fin
    exact d_in (by omega) I g2 rx fun s' I' => ⟨.bl false, H, I', rfl, fin⟩
   ·rw [g1] at fin
    exact d_in (by omega) I g2 rx fun s' I' => ⟨.bl true, H, I', rfl, fin⟩
  ·obtain ⟨as, r1⟩ := Dp.reads I _ x v (own_view fh ox e1) rx
   rcases e2 with ⟨e2, hs2⟩ | ⟨e2, hs2⟩
   ·obtain ⟨bs, r2⟩ := Dp.reads I _ y u (own_view fh oy e2) ry
    exact SeqAt.in_list_reads r2 r1 (SeqAt.canLay_of_shaped hs2) (SeqAt.canLay_of_shaped hs) (PyProof.Rows.room_in_shaped hs hu) ⟨.bl _, H, I, rfl, fin⟩
   ·obtain ⟨bs, r2⟩ := Dp.reads I _ y u (own_view fh oy e2) ry
    exact SeqAt.in_tuple_reads r2 r1 (SeqAt.canLay_of_shaped hs2) (SeqAt.canLay_of_shaped hs) (PyProof.Rows.room_in_shaped hs hu) ⟨.bl _, H, I, rfl, fin⟩
theorem og_notIn (hu : X.A.units + 65 < cLine) : OpR X (compareOp .NotIn) (rG X.K gNotIn) := by
 intro pins s σ H x y v u Q I rx ry ⟨F, t, t', z, fx, fy, fh, ox, oy, e, q⟩
 unfold gNotIn at e
 cases eb : gInB t t' with
 | none => rw [eb] at e; cases e
 | some b =>
  rw [eb] at e
  cases e
  have fin : Q (.bl (!b)) H := q F H _ [] (nv_fz fh (.bl _))
  rcases gInB_inv eb with ⟨a, c, rfl, rfl, rfl⟩ | ⟨k, kvs, j, ed, e1, rfl⟩ | ⟨d, es, e1, e2, hs, rfl⟩
  ·unfold inStr at fin
   split at fin
   ·rename_i c' ec
    refine op_notIn_sign pins s σ H x y v u Q I rx ry ⟨c', c, ?_, fz_str oy, fin⟩
    rw [fz_str ox]
    congr 1
    exact TL.ext_tl (by show a.cps.toList = _; rw [ec])
   ·exact op_notin_str pins s σ H x y v u Q I rx ry ⟨a, c, fz_str ox, fz_str oy, fin⟩
  ·obtain ⟨a, rfl, g⟩ := own_dget' fh oy ed ox e1
   cases ry
   rcases g with ⟨g1, g2⟩ | ⟨x', w', f', g1, g2, _⟩
   ·rw [g1] at fin
    exact d_notIn (by omega) I g2 rx fun s' I' => ⟨.bl _, H, I', rfl, fin⟩
   ·rw [g1] at fin
    exact d_notIn (by omega) I g2 rx fun s' I' => ⟨.bl _, H, I', rfl, fin⟩
  ·obtain ⟨as, r1⟩ := Dp.reads I _ x v (own_view fh ox e1) rx
   rcases e2 with ⟨e2, hs2⟩ | ⟨e2, hs2⟩
   ·obtain ⟨bs, r2⟩ := Dp.reads I _ y u (own_view fh oy e2) ry
    exact SeqAt.notIn_list_reads r2 r1 (SeqAt.canLay_of_shaped hs2) (SeqAt.canLay_of_shaped hs) (PyProof.Rows.room_in_shaped hs hu) ⟨.bl _, H, I, rfl, fin⟩
   ·obtain ⟨bs, r2⟩ := Dp.reads I _ y u (own_view fh oy e2) ry
    exact SeqAt.notIn_tuple_reads r2 r1 (SeqAt.canLay_of_shaped hs2) (SeqAt.canLay_of_shaped hs) (PyProof.Rows.room_in_shaped hs hu) ⟨.bl _, H, I, rfl, fin⟩
end
end Y
set_option maxRecDepth 100000
set_option maxHeartbeats 4000000
namespace Y
open PySem PySem.Spec L2
section
variable {X : Cx} {EX : Hp → V → Str → Option PyData → Prop} {W : WX} {e a b c : Expr} {pos : Pos} {fa fb fc : DS → Out EV} {C : Cn}
theorem wp_evA {α : Type} {AV : List V} {F F1 H H1 : Hp} {σ : L2.St} {fp fp1 : Rt → List Addr} {o : Out α} {P : α → DS → List Rt → Prop} (e : EvA F H F1 H1 fp fp1) (h : Wp C W AV F H σ fp o P) : Wp C W AV F1 H1 σ fp1 o P := by
 cases o with
 | fail => exact h
 | exc c d S => exact ExcW.later e h
 | ok x S T => exact h
def tOf : SV → Option Bool
 | .fz (.bool b) => some b
 | _ => none
def bnd {α : Type} (o : Out EV) (k : Bool → DS → Out α) : Out α :=
 o.bindT fun e S _ => match e.tree S with
  | some t => match tOf t with
   | some b => k b S
   | none => .fail
  | none => .fail
def tv (fa : DS → Out EV) : DS → Out Bool := fun S => bnd (fa S) fun b S1 => .ok b S1 []
theorem tOf_ok {K : PySem.W.Frag} {F H : Hp} {t : SV} {v : V} {fp : List Addr} {b : Bool} (h : Own K F H t v fp) (e : tOf t = some b) : v = .bl b := by
 unfold tOf at e
 split at e
 ·cases e; exact fz_bl h
 ·cases e
theorem wp_bnd {α : Type} {AV : List V} {F H : Hp} {σ : L2.St} {S : DS} {fp : Rt → List Addr} {o : Out EV} {k : Bool → DS → Out α} {P : α → DS → List Rt → Prop} (h : Wp C W AV F H σ fp (bnd o k) P) :
  Wp C W AV F H σ fp o fun ea S1 T1 => ∀ F1 H1 fp1 v fe, Post C AV F H σ S fp T1 S1 F1 H1 fp1 → VP C AV F H σ fp T1 S1 F1 H1 fp1 v ea fe → ∃ b, v = .bl b ∧ Wp C W AV F1 H1 σ fp1 (k b S1) fun y S2 T2 => P y S2 (T1 ++ T2) := by
 unfold bnd at h
 refine wp_mono (wp_bindT h) fun ea S1 T1 q1 F1 H1 fp1 v fe p1 v1 => ?_
 have q1' := q1 F1 H1 fp1 p1.evA
 cases e3 : ea.tree S1 with
 | none => rw [e3] at q1'; exact q1'.elim
 | some t =>
  rw [e3] at q1'
  dsimp only at q1'
  cases e4 : tOf t with
  | none => rw [e4] at q1'; exact q1'.elim
  | some b =>
   rw [e4] at q1'
   obtain ⟨fx, o1⟩ := EOk.tree p1.st v1.val e3
   exact ⟨b, tOf_ok o1 e4, q1'⟩
theorem tB_LT : ∀ σ H Q, LT C W (tv fa) σ H Q → LE C W fa σ H fun x H1 => ∃ c, x = .bl c ∧ Q c H1 := by
 intro σ H Q ⟨AV, F, S, fp, st, q⟩
 refine ⟨AV, F, S, fp, st, wp_mono (wp_bnd (S := S) q) fun ea S1 T1 q1 F1 H1 fp1 v fe p1 v1 => ?_⟩
 obtain ⟨b, e, q2⟩ := q1 F1 H1 fp1 v fe p1 v1
 refine ⟨b, e, q2 F1 H1 fp1 ?_⟩
 simpa using p1
theorem dt_val (h : DE X EX W e fa) (he : ∀ whole, isTrue e X.env whole = (do let v ← whole; standAt e.pos; holding [v] (truthy v)) := by intro _; rfl) : DT X EX W e (tv fa) :=
 pt_of (pt_val h he) (tB_LT (C := cnOf X EX))
theorem dt_cmp {op : CmpOp} {g : SV → SV → Option SV} (ho : OpR X (compareOp op) (rG X.K g)) (ha : DE X EX W a fa) (hb : DE X EX W b fb) (hm : behindInMarks op b = false) : DT X EX W (.Compare a [op] [b] pos) (tv (eOp2 g fa fb)) :=
 pt_of (pt_cmpR ho ha hb hm) fun σ H Q q => by
  obtain ⟨AV, F, S, fp, st, r⟩ := tB_LT (C := cnOf X EX) σ H Q q
  exact tOp_LE (C := cnOf X EX) σ H _ ⟨AV, F, S, fp, st, r⟩
variable {t u : DS → Out Bool}
def lAnd (t u : DS → Out Bool) : DS → Out Bool := fun S => (t S).bindT fun b S1 _ => if b = true then u S1 else .ok false S1 []
def lOr (t u : DS → Out Bool) : DS → Out Bool := fun S => (t S).bindT fun b S1 _ => if b = true then .ok true S1 [] else u S1
def lNot (t : DS → Out Bool) : DS → Out Bool := fun S => (t S).bindT fun b S1 _ => .ok (!b) S1 []
theorem wp_then {α : Type} {AV : List V} {F H : Hp} {σ : L2.St} {S : DS} {fp : Rt → List Addr} {f : DS → Out Bool} {k : Bool → DS → Out α} {P : α → DS → List Rt → Prop} (st : StOk C AV F H σ S fp) (h : Wp C W AV F H σ fp ((f S).bindT fun b S1 _ => k b S1) P) {Q : Bool → Hp → Prop}
  (hk : ∀ b S1 T1 F1 H1 fp1, Post C AV F H σ S fp T1 S1 F1 H1 fp1 → Wp C W AV F1 H1 σ fp1 (k b S1) (fun y S2 T2 => P y S2 (T1 ++ T2)) → Q b H1) : LT C W f σ H Q :=
 ⟨AV, F, S, fp, st, wp_mono (wp_bindT h) fun b S1 T1 q1 F1 H1 fp1 p1 => hk b S1 T1 F1 H1 fp1 p1 (q1 F1 H1 fp1 p1.evA)⟩
theorem lt_of {AV : List V} {F H : Hp} {σ : L2.St} {S : DS} {fp : Rt → List Addr} {f : DS → Out Bool} {Q : Bool → Hp → Prop} {F0 H0 : Hp} {S0 : DS} {fp0 : Rt → List Addr} {T : List Rt} (p : Post C AV F0 H0 σ S0 fp0 T S F H fp)
  (h : Wp C W AV F H σ fp (f S) fun y S2 T2 => ∀ F' H' fp', Post C AV F0 H0 σ S0 fp0 (T ++ T2) S2 F' H' fp' → Q y H') : LT C W f σ H Q :=
 ⟨AV, F, S, fp, p.st, wp_mono h fun b S1 T1 q F' H' fp' p' => q F' H' fp' (p.trans p')⟩
theorem lt_done {AV : List V} {F H : Hp} {σ : L2.St} {S : DS} {fp : Rt → List Addr} {b : Bool} {Q : Bool → Hp → Prop} {F0 H0 : Hp} {S0 : DS} {fp0 : Rt → List Addr} {T : List Rt} (p : Post C AV F0 H0 σ S0 fp0 T S F H fp)
  (h : Wp C W AV F H σ fp (.ok b S []) fun y S2 T2 => ∀ F' H' fp', Post C AV F0 H0 σ S0 fp0 (T ++ T2) S2 F' H' fp' → Q y H') : Q b H :=
 h F H fp (by simpa using p)
theorem tAnd_LT : ∀ σ H Q, LT C W (lAnd t u) σ H Q → tAnd (LT C W t) (LT C W u) σ H Q := by
 intro σ H Q ⟨AV, F, S, fp, st, q⟩
 refine wp_then st q fun b S1 T1 F1 H1 fp1 p1 q1 => ?_
 cases b with
 | true => exact lt_of p1 q1
 | false => exact lt_done p1 q1
theorem tOr_LT : ∀ σ H Q, LT C W (lOr t u) σ H Q → tOr (LT C W t) (LT C W u) σ H Q := by
 intro σ H Q ⟨AV, F, S, fp, st, q⟩
 refine wp_then st q fun b S1 T1 F1 H1 fp1 p1 q1 => ?_
 cases b with
 | true => exact lt_done p1 q1
 | false => exact lt_of p1 q1
theorem tNot_LT : ∀ σ H Q, LT C W (lNot t) σ H Q → tNot (LT C W t) σ H Q := by
 intro σ H Q ⟨AV, F, S, fp, st, q⟩
 exact wp_then st q fun b S1 T1 F1 H1 fp1 p1 q1 => lt_done p1 q1
abbrev DW (X : Cx) (EX : Hp → V → Str → Option PyData → Prop) (W : WX) (e : Expr) (f : DS → Out Bool) : Prop := PW X e (LT (cnOf X EX) W f)
variable {rest : List Expr}
theorem dw_and1 (ha : DT X EX W a t) : DW X EX W (.BoolOp .And [a] pos) t := pw_and1 ha
theorem dw_or1 (ha : DT X EX W a t) : DW X EX W (.BoolOp .Or [a] pos) t := pw_or1 ha
theorem dw_and (ha : DT X EX W a t) (hb : DW X EX W (.BoolOp .And (b :: rest) pos) u) : DW X EX W (.BoolOp .And (a :: b :: rest) pos) (lAnd t u) := pw_of (pw_and ha hb) (tAnd_LT (C := cnOf X EX))
theorem dw_or (ha : DT X EX W a t) (hb : DW X EX W (.BoolOp .Or (b :: rest) pos) u) : DW X EX W (.BoolOp .Or (a :: b :: rest) pos) (lOr t u) := pw_of (pw_or ha hb) (tOr_LT (C := cnOf X EX))
theorem dt_w (h : DW X EX W e t) : DT X EX W e t := PW.pt h
theorem dt_not (ha : DT X EX W a t) : DT X EX W (.UnaryOp .Not a pos) (lNot t) := pt_of (pt_not ha) (tNot_LT (C := cnOf X EX))
def eAnd (fa fb : DS → Out EV) : DS → Out EV := fun S => bnd (fa S) fun b S1 => if b = true then fb S1 else .ok (.sv (.fz (.bool false))) S1 []
def eOr (fa fb : DS → Out EV) : DS → Out EV := fun S => bnd (fa S) fun b S1 => if b = true then .ok (.sv (.fz (.bool true))) S1 [] else fb S1
theorem le_of {AV : List V} {F H : Hp} {σ : L2.St} {S : DS} {fp : Rt → List Addr} {f : DS → Out EV} {Q : VK} {F0 H0 : Hp} {S0 : DS} {fp0 : Rt → List Addr} {T : List Rt} (p : Post C AV F0 H0 σ S0 fp0 T S F H fp)
  (h : Wp C W AV F H σ fp (f S) fun y S2 T2 => ∀ F' H' fp' v fe, Post C AV F0 H0 σ S0 fp0 (T ++ T2) S2 F' H' fp' → VP C AV F0 H0 σ fp0 (T ++ T2) S2 F' H' fp' v y fe → Q v H') : LE C W f σ H Q :=
 ⟨AV, F, S, fp, p.st, wp_mono h fun b S1 T1 q F' H' fp' v fe p' v' => q F' H' fp' v fe (p.trans p') ⟨v'.val, v'.dj, v'.nd, fun a ha => by
  rcases v'.new a ha with z | z
  ·exact p.rg z
  ·exact .inr (p.evo.none_back z), v'.tr⟩⟩
theorem le_done {AV : List V} {F H : Hp} {σ : L2.St} {S : DS} {fp : Rt → List Addr} {d : PyData} {x : V} {Q : VK} {F0 H0 : Hp} {S0 : DS} {fp0 : Rt → List Addr} {T : List Rt} (p : Post C AV F0 H0 σ S0 fp0 T S F H fp) (hd : Fz F x d)
  (h : Wp C W AV F H σ fp (.ok (.sv (.fz d)) S []) fun y S2 T2 => ∀ F' H' fp' v fe, Post C AV F0 H0 σ S0 fp0 (T ++ T2) S2 F' H' fp' → VP C AV F0 H0 σ fp0 (T ++ T2) S2 F' H' fp' v y fe → Q v H') : Q x H :=
 h F H fp x [] (by simpa using p) (vp_fz hd)
theorem de_one {op : BoolOp} (ha : DE X EX W a fa) : DE X EX W (.BoolOp op [a] pos) fa := pe_one ha
theorem de_and (ha : DE X EX W a fa) (hb : DE X EX W (.BoolOp .And (b :: rest) pos) fb) : DE X EX W (.BoolOp .And (a :: b :: rest) pos) (eAnd fa fb) := by
 refine pe_of (pe_and ha hb) fun σ H Q ⟨AV, F, S, fp, st, q⟩ => ?_
 refine ⟨AV, F, S, fp, st, wp_mono (wp_bnd (S := S) q) fun ea S1 T1 q1 F1 H1 fp1 v fe p1 v1 => ?_⟩
 obtain ⟨b, e, q2⟩ := q1 F1 H1 fp1 v fe p1 v1
 refine ⟨b, e, ?_⟩
 cases b with
 | true => exact le_of p1 q2
 | false => exact le_done p1 (.bl false) q2
theorem de_or (ha : DE X EX W a fa) (hb : DE X EX W (.BoolOp .Or (b :: rest) pos) fb) : DE X EX W (.BoolOp .Or (a :: b :: rest) pos) (eOr fa fb) := by
 refine pe_of (pe_or ha hb) fun σ H Q ⟨AV, F, S, fp, st, q⟩ => ?_
 refine ⟨AV, F, S, fp, st, wp_mono (wp_bnd (S := S) q) fun ea S1 T1 q1 F1 H1 fp1 v fe p1 v1 => ?_⟩
 obtain ⟨b, e, q2⟩ := q1 F1 H1 fp1 v fe p1 v1
 refine ⟨b, e, ?_⟩
 cases b with
 | true => exact le_done p1 (.bl true) q2
 | false => exact le_of p1 q2
def eIf (t : DS → Out Bool) (fa fb : DS → Out EV) : DS → Out EV := fun S => (t S).bindT fun b S1 _ => if b = true then fa S1 else fb S1
theorem de_if (ht : DT X EX W c t) (ha : DE X EX W a fa) (hb : DE X EX W b fb) : DE X EX W (.IfExp c a b pos) (eIf t fa fb) := by
 refine pe_of (pe_ifExp ht ha hb) fun σ H Q ⟨AV, F, S, fp, st, q⟩ => ?_
 refine wp_then st q fun b S1 T1 F1 H1 fp1 p1 q1 => ?_
 cases b with
 | true => exact le_of p1 q1
 | false => exact le_of p1 q1
def eChain (g g' : SV → SV → Option SV) (fa fb fc : DS → Out EV) : DS → Out EV := fun S =>
 (fa S).bindT fun ea S1 _ => (fb S1).bindT fun eb S2 T2 =>
  match ea.stable T2, ea.tree S2, eb.tree S2 with
  | true, some t, some u => match g t u with
   | some (.fz (.bool true)) => (fc S2).bindT fun ec S3 T3 =>
    match eb.stable T3, eb.tree S3, ec.tree S3 with
    | true, some u', some w => match g' u' w with
     | some z => .ok (.sv z) S3 []
     | none => .fail
    | _, _, _ => .fail
   | some (.fz (.bool false)) => .ok (.sv (.fz (.bool false))) S2 []
   | _ => .fail
  | _, _, _ => .fail
theorem tChain_LE {g g' : SV → SV → Option SV} : ∀ σ H Q, LE C W (eChain g g' fa fb fc) σ H Q → tChain (rG C.K g) (rG C.K g') (LE C W fa) (LE C W fb) (LE C W fc) σ H Q := by
 intro σ H Q ⟨AV, F, S, fp, st, q⟩
 unfold eChain at q
 refine ⟨AV, F, S, fp, st, wp_mono (wp_bindT q) fun ea S1 T1 q1 F1 H1 fp1 v fe p1 v1 => ?_⟩
 have q1' := q1 F1 H1 fp1 p1.evA
 refine ⟨AV, F1, S1, fp1, p1.st, wp_mono (wp_bindT q1') fun eb S2 T2 q2 F2 H2 fp2 u fu p2 v2 => ?_⟩
 have q2' := q2 F2 H2 fp2 p2.evA
 cases e1 : ea.stable T2 with
 | false => rw [e1] at q2'; exact q2'.elim
 | true =>
  rw [e1] at q2'
  cases e2 : ea.tree S2 with
  | none => rw [e2] at q2'; exact q2'.elim
  | some t =>
   rw [e2] at q2'
   cases e3 : eb.tree S2 with
   | none => rw [e3] at q2'; exact q2'.elim
   | some t' =>
    rw [e3] at q2'
    dsimp only at q2'
    cases e4 : g t t' with
    | none => rw [e4] at q2'; exact q2'.elim
    | some z =>
     rw [e4] at q2'
     have w1 := EOk.later p1.st p2 v1.val v1.dj e1 v1.tr
     obtain ⟨fx, o1⟩ := EOk.tree p2.st w1 e2
     obtain ⟨fy, o2⟩ := EOk.tree p2.st v2.val e3
     refine ⟨F2, t, t', z, fx, fy, p2.st.fh, o1, o2, e4, fun F3 H3 x fz n => ?_⟩
     have p3 := n.post p2.st
     have pp := p1.trans (p2.trans p3)
     split at q2'
     ·rename_i hz
      cases hz
      refine ⟨true, fz_bl n.own, ?_⟩
      rw [if_pos rfl]
      have q3' := wp_evA p3.evA q2'
      refine ⟨AV, F3, S2, fp2, p3.st, wp_mono (wp_bindT q3') fun ec S3 T3 q4 F4 H4 fp4 w fw p4 v4 => ?_⟩
      have q4' := q4 F4 H4 fp4 p4.evA
      cases g1 : eb.stable T3 with
      | false => rw [g1] at q4'; exact q4'.elim
      | true =>
       rw [g1] at q4'
       cases g2 : eb.tree S3 with
       | none => rw [g2] at q4'; exact q4'.elim
       | some u' =>
        rw [g2] at q4'
        cases g3 : ec.tree S3 with
        | none => rw [g3] at q4'; exact q4'.elim
        | some w' =>
         rw [g3] at q4'
         dsimp only at q4'
         cases g4 : g' u' w' with
         | none => rw [g4] at q4'; exact q4'.elim
         | some z' =>
          rw [g4] at q4'
          have k1 := EOk.later p2.st p3 v2.val v2.dj (by unfold EV.stable; cases eb <;> simp) v2.tr
          have k2 := EOk.later p3.st p4 k1 v2.dj g1 v2.tr
          obtain ⟨fx', o1'⟩ := EOk.tree p4.st k2 g2
          obtain ⟨fy', o2'⟩ := EOk.tree p4.st v4.val g3
          refine ⟨F4, u', w', z', fx', fy', p4.st.fh, o1', o2', g4, fun F5 H5 x5 f5 n5 => ?_⟩
          have p5 := n5.post p4.st
          have v5 := n5.vp p4.st
          have p25 : Post C AV F1 H1 σ S1 fp1 (T2 ++ (T3 ++ [])) S3 F5 H5 fp4 := p2.trans (by simpa using p3.trans (p4.trans p5))
          refine q4' F5 H5 fp4 x5 f5 (p1.trans p25) ⟨v5.val, v5.dj, v5.nd, fun a ha => ?_, v5.tr⟩
          exact .inr (pp.evo.none_back (p4.evo.none_back (n5.new a ha)))
     ·rename_i hz
      cases hz
      refine ⟨false, fz_bl n.own, ?_⟩
      rw [if_neg Bool.false_ne_true]
      have h := q2' F3 H3 fp2 (.bl false) [] (by simpa using pp) (vp_fz (.bl false))
      exact h
     ·exact q2'.elim
theorem de_chain {op op' : CmpOp} {g g' : SV → SV → Option SV} (ho : OpR X (compareOp op) (rG X.K g)) (ho' : OpR X (compareOp op') (rG X.K g')) (ha : DE X EX W a fa) (hb : DE X EX W b fb) (hc : DE X EX W c fc)
  (hm : lastMarks [op, op'] [b, c] = false := by with_unfolding_all rfl) : DE X EX W (.Compare a [op, op'] [b, c] pos) (eChain g g' fa fb fc) := pe_of (pe_chain ho ho' ha hb hc hm) (tChain_LE (C := cnOf X EX))
theorem dt_chain {op op' : CmpOp} {g g' : SV → SV → Option SV} (ho : OpR X (compareOp op) (rG X.K g)) (ho' : OpR X (compareOp op') (rG X.K g')) (ha : DE X EX W a fa) (hb : DE X EX W b fb) (hc : DE X EX W c fc)
  (hm : lastMarks [op, op'] [b, c] = false := by with_unfolding_all rfl) : DT X EX W (.Compare a [op, op'] [b, c] pos) (tv (eChain g g' fa fb fc)) :=
 pt_of (pt_chain ho ho' ha hb hc hm) fun σ H Q q => by
  obtain ⟨AV, F, S, fp, st, r⟩ := tB_LT (C := cnOf X EX) σ H Q q
  exact tChain_LE (C := cnOf X EX) σ H _ ⟨AV, F, S, fp, st, r⟩
end
end Y
set_option maxRecDepth 100000
set_option maxHeartbeats 4000000
namespace Y
open PySem PySem.Spec L2
structure VPs (C : Cn) (AV : List V) (F H : Hp) (σ : L2.St) (fp : Rt → List Addr) (T : List Rt) (S' : DS) (F' H' : Hp) (fp' : Rt → List Addr) (vs : List V) (es : List EV) (fe : Nat → List Addr) : Prop where
 ln : vs.length = es.length
 val : ∀ (k : Nat) (e : EV), es[k]? = some e → ∃ v, vs[k]? = some v ∧ EOk C AV F' H' σ v e (fe k) ∧ (e.tree S').isSome = true
 off : ∀ k, es[k]? = none → fe k = []
 dj : ∀ r a k, a ∈ fp' r → a ∉ fe k
 dd : ∀ j k a, a ∈ fe j → a ∈ fe k → j = k
 nd : ∀ k, (fe k).Nodup
 new : ∀ k, ∀ a ∈ fe k, Rg T fp a ∨ H a = none
def LA (C : Cn) (W : WX) (f : DS → Out (List EV)) : TA := fun σ H Q => ∃ AV F S fp, StOk C AV F H σ S fp ∧
 Wp C W AV F H σ fp (f S) fun es S' T => ∀ F' H' fp' vs fe, Post C AV F H σ S fp T S' F' H' fp' → VPs C AV F H σ fp T S' F' H' fp' vs es fe → Q vs H'
abbrev DA (X : Cx) (EX : Hp → V → Str → Option PyData → Prop) (W : WX) (es : List Expr) (f : DS → Out (List EV)) : Prop := PA X es (LA (cnOf X EX) W f)
theorem pa_of {X : Cx} {es : List Expr} {t t' : TA} (h : PA X es t) (k : ∀ σ H Q, t' σ H Q → t σ H Q) : PA X es t' := ⟨fun pos pins s σ H Q I q => h.run pos pins s σ H Q I (k σ H Q q)⟩
def aNil : DS → Out (List EV) := fun S => .ok [] S []
def EV.alive (S : DS) (e : EV) : Bool := (e.tree S).isSome
def aCons (fa : DS → Out EV) (fr : DS → Out (List EV)) : DS → Out (List EV) := fun S =>
 (fa S).bindT fun ea S1 _ => (fr S1).bindT fun es S2 T2 => if ea.stable T2 = true ∧ ea.alive S2 = true then .ok (ea :: es) S2 [] else .fail
def consF (f : List Addr) (g : Nat → List Addr) : Nat → List Addr
 | 0 => f
 | k + 1 => g k
section
variable {X : Cx} {EX : Hp → V → Str → Option PyData → Prop} {W : WX} {e a b c : Expr} {es : List Expr} {pos : Pos} {fa fb fc : DS → Out EV} {fr : DS → Out (List EV)} {C : Cn}
theorem da_nil : DA X EX W [] aNil := by
 refine pa_of pa_nil fun σ H Q ⟨AV, F, S, fp, st, q⟩ => ?_
 exact q F H fp [] (fun _ => []) (.refl st) ⟨rfl, fun k e h => by simp at h, fun _ _ => rfl, fun _ _ _ _ h => (by cases h), fun _ _ _ h => (by cases h), fun _ => .nil, fun _ _ h => (by cases h)⟩
theorem VP.later {AV : List V} {F H F1 H1 F2 H2 : Hp} {σ : L2.St} {S S1 S2 : DS} {fp fp1 fp2 : Rt → List Addr} {T1 T2 : List Rt} {v : V} {e : EV} {fe : List Addr}
  (p1 : Post C AV F H σ S fp T1 S1 F1 H1 fp1) (v1 : VP C AV F H σ fp T1 S1 F1 H1 fp1 v e fe) (p2 : Post C AV F1 H1 σ S1 fp1 T2 S2 F2 H2 fp2) (st : e.stable T2 = true) (ht : (e.tree S2).isSome = true) : VP C AV F H σ fp (T1 ++ T2) S2 F2 H2 fp2 v e fe := by
 refine ⟨EOk.later p1.st p2 v1.val v1.dj st v1.tr, fun r x hx hf => ?_, v1.nd, fun x hx => ?_, ht⟩
 ·rcases p2.new r x hx with q | q | q
  ·obtain ⟨r', _, e'⟩ := q
   exact v1.dj r' x e' hf
  ·cases e with
   | sv t =>
    obtain ⟨_, o, m⟩ := own_fp t v fe v1.val x hf
    rw [m] at q; cases q
   | pk r p => rw [v1.val.1] at hf; cases hf
  ·rw [(p2.same r q).1] at hx
   exact v1.dj r x hx hf
 ·rcases v1.new x hx with q | q
  ·exact .inl (Rg.app.mpr (.inl q))
  ·exact .inr q
theorem da_cons (ha : DE X EX W a fa) (hr : DA X EX W es fr) (hs : starEach (a :: es) X.env = (false, eval a X.env) :: starEach es X.env := by rfl) :
  DA X EX W (a :: es) (aCons fa fr) := by
 refine pa_of (pa_cons ha hr hs) fun σ H Q ⟨AV, F, S, fp, st, q⟩ => ?_
 refine ⟨AV, F, S, fp, st, wp_mono (wp_bindT q) fun ea S1 T1 q1 F1 H1 fp1 v fe p1 v1 => ?_⟩
 have q1' := q1 F1 H1 fp1 p1.evA
 refine ⟨AV, F1, S1, fp1, p1.st, wp_mono (wp_bindT q1') fun es S2 T2 q2 F2 H2 fp2 vs fes p2 v2 => ?_⟩
 have q2' := q2 F2 H2 fp2 p2.evA
 split at q2'
 ·rename_i hst
  have pp := p1.trans p2
  have w := VP.later p1 v1 p2 hst.1 hst.2
  refine q2' F2 H2 fp2 (v :: vs) (consF fe fes) (by simpa using pp) ⟨by simp [v2.ln], fun k e h => ?_, fun k h => ?_, fun r x k hx => ?_, fun j k x h1 h2 => ?_, fun k => ?_, fun k x hx => ?_⟩
  ·cases k with
   | zero => simp at h; subst h; exact ⟨v, rfl, w.val, w.tr⟩
   | succ k => exact v2.val k e (by simpa using h)
  ·cases k with
   | zero => simp at h
   | succ k => exact v2.off k (by simpa using h)
  ·cases k with
   | zero => exact w.dj r x hx
   | succ k => exact v2.dj r x k hx
  ·have cross : ∀ m, x ∈ fe → x ∈ fes m → False := fun m g1 g2 => by
    rcases v2.new m x g2 with z | z
    ·obtain ⟨r', _, e'⟩ := z
     exact v1.dj r' x e' g1
    ·cases ea with
     | sv t =>
      obtain ⟨_, o, mm⟩ := own_fp t v fe v1.val x g1
      rw [mm] at z; cases z
     | pk r p => rw [v1.val.1] at g1; cases g1
   cases j with
   | zero =>
    cases k with
    | zero => rfl
    | succ k => exact (cross k h1 h2).elim
   | succ j =>
    cases k with
    | zero => exact (cross j h2 h1).elim
    | succ k => rw [v2.dd j k x h1 h2]
  ·cases k with
   | zero => exact v1.nd
   | succ k => exact v2.nd k
  ·cases k with
   | zero =>
    have := w.new x hx
    simpa using this
   | succ k =>
    rcases v2.new k x hx with z | z
    ·have := p1.rg z
     simpa using this
    ·exact .inr (p1.evo.none_back z)
 ·exact q2'.elim
inductive OwnA (K : PySem.W.Frag) (F H : Hp) : List SV → List V → Prop
 | nil : OwnA K F H [] []
 | cons {t : SV} {v : V} {ts : List SV} {vs : List V} {fp : List Addr} : Own K F H t v fp → OwnA K F H ts vs → OwnA K F H (t :: ts) (v :: vs)
def cG (K : PySem.W.Frag) (g : List SV → Option SV) : List V → Hp → VK → Prop := fun xs H Q => ∃ F ts z, (∀ a o, F a = some o → H a = some o) ∧ OwnA K F H ts xs ∧ g ts = some z ∧ ∀ F' H' v fe, NewV K F H F' H' v z fe → Q v H'
def trees (S : DS) : List EV → Option (List SV)
 | [] => some []
 | e :: es => match e.tree S, trees S es with
  | some t, some ts => some (t :: ts)
  | _, _ => none
def eCallB (g : List SV → Option SV) (fr : DS → Out (List EV)) : DS → Out EV := fun S =>
 (fr S).bindT fun es S1 _ => match trees S1 es with
  | some ts => match g ts with
   | some z => .ok (.sv z) S1 []
   | none => .fail
  | none => .fail
theorem ownA_of {AV : List V} {F H : Hp} {σ : L2.St} {S : DS} {fp : Rt → List Addr} (st : StOk C AV F H σ S fp) : ∀ {es : List EV} {vs : List V} {fe : Nat → List Addr} {ts : List SV}, vs.length = es.length →
  (∀ (k : Nat) (e : EV), es[k]? = some e → ∃ v, vs[k]? = some v ∧ EOk C AV F H σ v e (fe k) ∧ (e.tree S).isSome = true) → trees S es = some ts → OwnA C.K F H ts vs
 | [], [], fe, ts, _, _, e => by cases e; exact .nil
 | [], _ :: _, _, _, h, _, _ => by simp at h
 | _ :: _, [], _, _, h, _, _ => by simp at h
 | e :: es, v :: vs, fe, ts, hl, h, q => by
  unfold trees at q
  cases e1 : e.tree S with
  | none => rw [e1] at q; cases q
  | some t =>
   cases e2 : trees S es with
   | none => rw [e1, e2] at q; cases q
   | some ts' =>
    rw [e1, e2] at q
    cases q
    obtain ⟨v', h1, h2, _⟩ := h 0 e rfl
    simp at h1
    subst h1
    obtain ⟨f, o⟩ := EOk.tree st h2 e1
    exact .cons o (ownA_of st (fe := fun k => fe (k + 1)) (by simpa using hl) (fun k e' he' => by
     have := h (k + 1) e' (by simpa using he')
     simpa using this) e2)
theorem tCB_LE {g : List SV → Option SV} : ∀ σ H Q, LE C W (eCallB g fr) σ H Q → tCB (cG C.K g) (LA C W fr) σ H Q := by
 intro σ H Q ⟨AV, F, S, fp, st, q⟩
 unfold eCallB at q
 refine ⟨AV, F, S, fp, st, wp_mono (wp_bindT q) fun es S1 T1 q1 F1 H1 fp1 vs fe p1 v1 => ?_⟩
 have q1' := q1 F1 H1 fp1 p1.evA
 cases e1 : trees S1 es with
 | none => rw [e1] at q1'; exact q1'.elim
 | some ts =>
  rw [e1] at q1'
  dsimp only at q1'
  cases e4 : g ts with
  | none => rw [e4] at q1'; exact q1'.elim
  | some z =>
   rw [e4] at q1'
   refine ⟨F1, ts, z, p1.st.fh, ownA_of p1.st v1.ln v1.val e1, e4, fun F3 H3 x fz n => ?_⟩
   have p3 := n.post p1.st
   have v3 := n.vp p1.st
   exact q1' F3 H3 fp1 x fz (p1.trans p3) ⟨v3.val, v3.dj, v3.nd, fun a ha => .inr (p1.evo.none_back (n.new a ha)), v3.tr⟩
theorem de_callB {x : Str} {p : Pos} {id : String} {g : List SV → Option SV} (hc : CallR X (.builtin id) (cG X.K g)) (hg : Gl X x) (hm : X.mg x = none) (hv : bootBuiltins x = some (.builtin id)) (ha : DA X EX W (e :: es) fr) (hn : x ≠ "__name__" := by decide) (hdb : (x == ("__debug__" : Str)) = false := by decide)
  (he : starEach (e :: es) X.env = (false, eval e X.env) :: starEach es X.env := by rfl) (hpl : (backTo pos (starEach es X.env)).any (·.1) = false := by rfl) : DE X EX W (.Call (.Name x p) (e :: es) [] pos) (eCallB g fr) :=
 pe_of (pe_callB hc hg hm hv ha hn hdb he hpl) (tCB_LE (C := cnOf X EX))
theorem de_callTy {x : Str} {p : Pos} {id : String} {g : List SV → Option SV} (hc : CallR X (.type id) (cG X.K g)) (hg : Gl X x) (hm : X.mg x = none) (hv : bootBuiltins x = some (.type id)) (ha : DA X EX W (e :: es) fr) (hn : x ≠ "__name__" := by decide) (hdb : (x == ("__debug__" : Str)) = false := by decide)
  (he : starEach (e :: es) X.env = (false, eval e X.env) :: starEach es X.env := by rfl) (hpl : (backTo pos (starEach es X.env)).any (·.1) = false := by rfl) : DE X EX W (.Call (.Name x p) (e :: es) [] pos) (eCallB g fr) :=
 pe_of (pe_callTy hc hg hm hv ha hn hdb he hpl) (tCB_LE (C := cnOf X EX))
end
end Y
set_option maxRecDepth 100000
set_option maxHeartbeats 4000000
namespace Y
open PySem PySem.Spec L2
section
variable {X : Cx} {EX : Hp → V → Str → Option PyData → Prop} {W : WX} {e a b c : Expr} {es : List Expr} {pos : Pos} {fa fb fc : DS → Out EV} {fr : DS → Out (List EV)} {C : Cn}
def isScal : PyData → Bool
 | .int _ => true
 | .str _ => true
 | .bool _ => true
 | .none => true
 | _ => false
def gIx (t u : SV) : Option (SV ⊕ Nat) :=
 match t, u with
 | .fz (.list ds), .fz (.int i) => match atI ds i with
  | some d => some (.inl (.fz d))
  | none => none
 | .fz (.tuple ds), .fz (.int i) => match atI ds i with
  | some d => some (.inl (.fz d))
  | none => none
 | .ro (.list ds), .fz (.int i) => match atI ds i with
  | some d => if isScal d = true then some (.inl (.fz d)) else none
  | none => none
 | .ro (.tuple ds), .fz (.int i) => match atI ds i with
  | some d => if isScal d = true then some (.inl (.fz d)) else none
  | none => none
 | .fz (.str x), .fz (.int i) => if x.length ≤ sizeLine then (match atI x.cps.toList i with
  | some c => some (.inl (.fz (.str ⟨#[c]⟩)))
  | none => none) else none
 | .lst xs, .fz (.int i) => match ixN xs.length i with
  | some k => match xs[k]? with
   | some (.fz d) => some (.inl (.fz d))
   | some (.fd b m) => some (.inl (.fd b m))
   | some _ => some (.inr k)
   | none => none
  | none => none
 | .fd b kvs, u => match toKey b u with
  | some k => match dlook (fzD kvs) k with
   | some (.fz d) => some (.inl (.fz d))
   | _ => none
  | none => none
 | .dic b kvs, u => match toKey b u with
  | some k => match dlook kvs k with
   | some (.fz d) => some (.inl (.fz d))
   | _ => none
  | none => none
 | _, _ => none
def eIx (fa fb : DS → Out EV) : DS → Out EV := fun S =>
 (fa S).bindT fun ea S1 _ => (fb S1).bindT fun eb S2 T2 =>
  match ea.stable T2, ea.tree S2, eb.tree S2 with
  | true, some t, some u => match gIx t u with
   | some (.inl z) => .ok (.sv z) S2 []
   | some (.inr k) => match ea with
    | .pk r p => .ok (.pk r (p ++ [k])) S2 []
    | .sv _ => .fail
   | none => .fail
  | _, _, _ => .fail
theorem dp_scal {K : PySem.W.Frag} {H F : Hp} {v : V} {d : PyData} (h : Dp K H v d) (s : isScal d = true) : Fz F v d := by
 cases h with
 | non => exact .non
 | bl b => exact .bl b
 | int i => exact .int i
 | str x => exact .str x
 | lst _ _ => cases s
 | tup _ _ => cases s
theorem dpAll_at {K : PySem.W.Frag} {H : Hp} : ∀ {ds : List PyData} {vs : List V} {i : Nat} {d : PyData}, DpAll K H vs ds → ds[i]? = some d → ∃ v, vs[i]? = some v ∧ Dp K H v d
 | [], _, _, _, _, e => by simp at e
 | d :: ds, _, 0, d', h, e => by cases h with | cons h1 h2 => simp at e; subst e; exact ⟨_, rfl, h1⟩
 | d :: ds, _, i + 1, d', h, e => by
  cases h with
  | cons h1 h2 =>
   obtain ⟨w, a, b⟩ := dpAll_at (i := i) h2 (by simpa using e)
   exact ⟨w, by simpa using a, b⟩
theorem dpAll_len {K : PySem.W.Frag} {H : Hp} : ∀ {ds : List PyData} {vs : List V}, DpAll K H vs ds → vs.length = ds.length
 | [], _, h => by cases h; rfl
 | d :: ds, _, h => by cases h with | cons h1 h2 => simp [dpAll_len h2]
theorem atI_at {α β : Type} {xs : List α} {ys : List β} {i : Int} {x : α} (hl : ys.length = xs.length) (e : atI xs i = some x) : ∃ k, ixN xs.length i = some k ∧ xs[k]? = some x ∧ ∀ y, ys[k]? = some y → atI ys i = some y := by
 unfold atI at e
 cases e1 : ixN xs.length i with
 | none => rw [e1] at e; cases e
 | some k =>
  rw [e1] at e
  refine ⟨k, rfl, e, fun y hy => ?_⟩
  unfold atI
  rw [hl, e1]
  exact hy
theorem fzAll_atI {F : Hp} {ds : List PyData} {vs : List V} {i : Int} {d : PyData} (h : FzAll F vs ds) (e : atI ds i = some d) : ∃ v, atI vs i = some v ∧ Fz F v d := by
 obtain ⟨k, _, e2, e3⟩ := atI_at (fzAll_len h) e
 obtain ⟨v, e4, f⟩ := fzAll_at h e2
 exact ⟨v, e3 v e4, f⟩
theorem dpAll_atI {K : PySem.W.Frag} {F : Hp} {ds : List PyData} {vs : List V} {i : Int} {d : PyData} (h : DpAll K F vs ds) (e : atI ds i = some d) : ∃ v, atI vs i = some v ∧ Dp K F v d := by
 obtain ⟨k, _, e2, e3⟩ := atI_at (dpAll_len h) e
 obtain ⟨v, e4, f⟩ := dpAll_at h e2
 exact ⟨v, e3 v e4, f⟩
def rIxD : R2 := fun x y H Q => ∃ a v, x = .ref a ∧ DGet H a y (some v) ∧ Q v H
theorem ix_dict (hu : X.A.units + 1 < cLine) : IxR X rIxD := by
 intro value slice pins s σ H x y v u Q I rx ry h hs
 obtain ⟨a, z, rfl, g, q⟩ := h
 cases rx
 have hT := dict_typeIs I g
 have h₂ : wpAny (model X.prog X.w) X.A (getItem (.ref a) u) (EP X pins σ Q) X.xe s := d_getItem hu I g ry fun w' s3 I3 rw' => ⟨z, H, I3, rw', q⟩
 unfold PyProof.Rows.subscriptTail
 refine wpAny_bind ?_
 rw [getitemInPython_of_ne hT.not_modules]
 refine wpAny_bind (wpAny_specialOf hT PySem.F.slot_dict_getitem.lookup ?_)
 have fin : wpAny (model X.prog X.w) X.A (subscripted slice false (.ref a) u) (fun r s₃ => wpAny (model X.prog X.w) X.A (letTemporaryGo value (.ref a) r >>= fun _ => pure r) (EP X pins σ Q) X.xe s₃) X.xe s := by
  rw [hs]
  exact wpAny_operating (wpAny_mono h₂ (fun r s₃ h₃ => wpAny_bind (wpAny_letTemporaryGo (wpAny_pure h₃))) fun _ _ x => x)
 first
  | exact wpAny_pure (wpAny_bind fin)
  | exact wpAny_bind (wpAny_pure (wpAny_bind fin))
  | exact wpAny_bind fin
def rIxAll (K : PySem.W.Frag) : R2 := fun x y H Q => rIx K x y H Q ∨ rIxD x y H Q
theorem gIx_val {K : PySem.W.Frag} {F H : Hp} (fh : ∀ a o, F a = some o → H a = some o) {t u : SV} {x y : V} {fx fy : List Addr} (ox : Own K F H t x fx) (oy : Own K F H u y fy) {z : SV ⊕ Nat} (e : gIx t u = some z) :
  ∃ v, (∀ Q : VK, Q v H → rIxAll K x y H Q) ∧ ((∃ t, z = .inl t ∧ Own K F H t v []) ∨ ∃ k xs t', z = .inr k ∧ t = .lst xs ∧ xs[k]? = some t' ∧ ∃ a vs, x = .ref a ∧ H a = some (.lst vs) ∧ vs[k]? = some v) := by
 unfold gIx at e
 split at e
 ·rename_i ds i
  cases e1 : atI ds i with
  | none => rw [e1] at e; cases e
  | some d =>
   rw [e1] at e
   cases e
   have h := own_fz ox
   cases h with
   | lst g1 g2 =>
    obtain ⟨v, e2, f⟩ := fzAll_atI g2 e1
    exact ⟨v, fun Q q => .inl (.inl ⟨_, _, i, v, rfl, fz_int oy, SqL.of (fh _ _ g1), e2, q⟩), .inl ⟨.fz d, rfl, by unfold Own; exact ⟨f, rfl⟩⟩⟩
 ·rename_i ds i
  cases e1 : atI ds i with
  | none => rw [e1] at e; cases e
  | some d =>
   rw [e1] at e
   cases e
   have h := own_fz ox
   cases h with
   | tup g1 g2 =>
    obtain ⟨v, e2, f⟩ := fzAll_atI g2 e1
    exact ⟨v, fun Q q => .inl (.inr (.inl ⟨_, _, i, v, rfl, fz_int oy, SqT.of (fh _ _ g1), e2, q⟩)), .inl ⟨.fz d, rfl, by unfold Own; exact ⟨f, rfl⟩⟩⟩
 ·rename_i ds i
  cases e1 : atI ds i with
  | none => rw [e1] at e; cases e
  | some d =>
   rw [e1] at e
   dsimp only at e
   split at e
   ·rename_i hs
    cases e
    unfold Own at ox
    have h := dp_mono fh _ _ ox.1
    cases h with
    | lst g1 g2 =>
     obtain ⟨v, e2, f⟩ := dpAll_atI g2 e1
     exact ⟨v, fun Q q => .inl (.inl ⟨_, _, i, v, rfl, fz_int oy, g1, e2, q⟩), .inl ⟨.fz d, rfl, by unfold Own; exact ⟨dp_scal f hs, rfl⟩⟩⟩
   ·cases e
 ·rename_i ds i
  cases e1 : atI ds i with
  | none => rw [e1] at e; cases e
  | some d =>
   rw [e1] at e
   dsimp only at e
   split at e
   ·rename_i hs
    cases e
    unfold Own at ox
    have h := dp_mono fh _ _ ox.1
    cases h with
    | tup g1 g2 =>
     obtain ⟨v, e2, f⟩ := dpAll_atI g2 e1
     exact ⟨v, fun Q q => .inl (.inr (.inl ⟨_, _, i, v, rfl, fz_int oy, g1, e2, q⟩)), .inl ⟨.fz d, rfl, by unfold Own; exact ⟨dp_scal f hs, rfl⟩⟩⟩
   ·cases e
 ·rename_i z' i
  split at e
  ·rename_i hz
   cases e1 : atI z'.cps.toList i with
   | none => rw [e1] at e; cases e
   | some c =>
    rw [e1] at e
    cases e
    exact ⟨.str ⟨#[c]⟩, fun Q q => .inl (.inr (.inr ⟨z', i, c, fz_str ox, fz_int oy, hz, e1, q⟩)), .inl ⟨.fz _, rfl, by unfold Own; exact ⟨.str _, rfl⟩⟩⟩
  ·cases e
 ·rename_i xs i
  cases e1 : ixN xs.length i with
  | none => rw [e1] at e; cases e
  | some k =>
   rw [e1] at e
   dsimp only at e
   have ox' := ox
   unfold Own at ox'
   obtain ⟨a, vs, fq, r1, r2, r3, r4, r5⟩ := ox'
   cases e2 : xs[k]? with
   | none => rw [e2] at e; cases e
   | some t' =>
    obtain ⟨v, f1, f, f2, b1, b2, b3, b4⟩ := ownL_at r5 e2
    have ea : atI vs i = some v := by
     unfold atI
     rw [← ownL_len r5, e1]
     exact b1
    refine ⟨v, fun Q q => .inl (.inl ⟨a, vs, i, v, r1, fz_int oy, SqL.of r3, ea, q⟩), ?_⟩
    rw [e2] at e
    cases t' with
    | fz d => cases e; exact .inl ⟨.fz d, rfl, by unfold Own; exact ⟨own_fz b3, rfl⟩⟩
    | fd b m => cases e; exact .inl ⟨.fd b m, rfl, by unfold Own at b3 ⊢; exact ⟨rfl, b3.2⟩⟩
    | ro d => cases e; exact .inr ⟨k, xs, _, rfl, rfl, e2, a, vs, r1, r3, b1⟩
    | lst l => cases e; exact .inr ⟨k, xs, _, rfl, rfl, e2, a, vs, r1, r3, b1⟩
    | dic q l => cases e; exact .inr ⟨k, xs, _, rfl, rfl, e2, a, vs, r1, r3, b1⟩
    | tb _ _ => cases e; exact .inr ⟨k, xs, _, rfl, rfl, e2, a, vs, r1, r3, b1⟩
    | gone => cases e; exact .inr ⟨k, xs, _, rfl, rfl, e2, a, vs, r1, r3, b1⟩
    | nd _ => cases e; exact .inr ⟨k, xs, _, rfl, rfl, e2, a, vs, r1, r3, b1⟩
    | ob _ _ _ => cases e; exact .inr ⟨k, xs, _, rfl, rfl, e2, a, vs, r1, r3, b1⟩
 ·rename_i b kvs
  cases e1 : toKey b u with
  | none => rw [e1] at e; cases e
  | some k =>
   rw [e1] at e
   dsimp only at e
   obtain ⟨a, rfl, g⟩ := own_dget' fh ox rfl oy e1
   rcases g with ⟨g1, g2⟩ | ⟨x', w', f', g1, g2, g3, _⟩
   ·rw [g1] at e; cases e
   ·rw [g1] at e
    cases x' with
    | fz d =>
     cases e
     exact ⟨w', fun Q q => .inr ⟨a, w', rfl, g2, q⟩, .inl ⟨.fz d, rfl, by unfold Own; exact ⟨own_fz g3, rfl⟩⟩⟩
    | ro d => cases e
    | lst l => cases e
    | dic q l => cases e
    | fd q l => cases e
    | tb _ _ => cases e
    | gone => cases e
    | nd _ => cases e
    | ob _ _ _ => cases e
 ·rename_i b kvs
  cases e1 : toKey b u with
  | none => rw [e1] at e; cases e
  | some k =>
   rw [e1] at e
   dsimp only at e
   obtain ⟨a, rfl, g⟩ := own_dget fh ox oy e1
   rcases g with ⟨g1, g2⟩ | ⟨x', w', f', g1, g2, g3, _⟩
   ·rw [g1] at e; cases e
   ·rw [g1] at e
    cases x' with
    | fz d =>
     cases e
     exact ⟨w', fun Q q => .inr ⟨a, w', rfl, g2, q⟩, .inl ⟨.fz d, rfl, by unfold Own; exact ⟨own_fz g3, rfl⟩⟩⟩
    | ro d => cases e
    | lst l => cases e
    | dic q l => cases e
    | fd q l => cases e
    | tb _ _ => cases e
    | gone => cases e
    | nd _ => cases e
    | ob _ _ _ => cases e
 ·cases e
theorem walk_snoc {H : Hp} {k : Nat} : ∀ {p : List Nat} {v u w : V} {a : Addr} {vs : List V}, Walk H v p u → u = .ref a → H a = some (.lst vs) → vs[k]? = some w → Walk H v (p ++ [k]) w
 | [], v, u, w, a, vs, h, e, h1, h2 => by
  have h' : u = v := h
  subst h'
  exact ⟨a, vs, w, e, h1, h2, rfl⟩
 | j :: p, v, u, w, a, vs, ⟨a', vs', w', e', g1, g2, g3⟩, e, h1, h2 => ⟨a', vs', w', e', g1, g2, walk_snoc g3 e h1 h2⟩
theorem sub_snoc {k : Nat} {xs : List SV} {t' : SV} (e2 : xs[k]? = some t') : ∀ {p : List Nat} {t : SV}, t.sub p = some (.lst xs) → t.sub (p ++ [k]) = some t'
 | [], t, h => by
  have : t = .lst xs := by unfold SV.sub at h; cases t <;> simpa using h
  subst this
  show SV.sub (.lst xs) [k] = _
  unfold SV.sub
  rw [e2]
  show t'.sub [] = some t'
  unfold SV.sub
  cases t' <;> rfl
 | j :: p, t, h => by
  cases t with
  | fz d => unfold SV.sub at h; cases h
  | ro d => unfold SV.sub at h; cases h
  | dic b kvs => unfold SV.sub at h; cases h
  | fd b kvs => unfold SV.sub at h; cases h
  | tb _ _ => unfold SV.sub at h; cases h
  | gone => unfold SV.sub at h; cases h
  | nd _ => unfold SV.sub at h; cases h
  | ob _ _ _ => unfold SV.sub at h; cases h
  | lst ys =>
   unfold SV.sub at h
   show SV.sub (.lst ys) (j :: (p ++ [k])) = _
   unfold SV.sub
   cases e1 : ys[j]? with
   | none => rw [e1] at h; cases h
   | some y => rw [e1] at h; exact sub_snoc e2 (show y.sub p = _ from h)
theorem tIx_LE : ∀ σ H Q, LE C W (eIx fa fb) σ H Q → tOp (rIxAll C.K) (LE C W fa) (LE C W fb) σ H Q := by
 intro σ H Q ⟨AV, F, S, fp, st, q⟩
 unfold eIx at q
 refine ⟨AV, F, S, fp, st, wp_mono (wp_bindT q) fun ea S1 T1 q1 F1 H1 fp1 v fe p1 v1 => ?_⟩
 have q1' := q1 F1 H1 fp1 p1.evA
 refine ⟨AV, F1, S1, fp1, p1.st, wp_mono (wp_bindT q1') fun eb S2 T2 q2 F2 H2 fp2 u fu p2 v2 => ?_⟩
 have q2' := q2 F2 H2 fp2 p2.evA
 cases e1 : ea.stable T2 with
 | false => rw [e1] at q2'; exact q2'.elim
 | true =>
  rw [e1] at q2'
  cases e2 : ea.tree S2 with
  | none => rw [e2] at q2'; exact q2'.elim
  | some t =>
   rw [e2] at q2'
   cases e3 : eb.tree S2 with
   | none => rw [e3] at q2'; exact q2'.elim
   | some t' =>
    rw [e3] at q2'
    dsimp only at q2'
    cases e4 : gIx t t' with
    | none => rw [e4] at q2'; exact q2'.elim
    | some z =>
     rw [e4] at q2'
     have w1 := EOk.later p1.st p2 v1.val v1.dj e1 v1.tr
     obtain ⟨fx, o1⟩ := EOk.tree p2.st w1 e2
     obtain ⟨fy, o2⟩ := EOk.tree p2.st v2.val e3
     obtain ⟨w, k1, k2⟩ := gIx_val p2.st.fh o1 o2 e4
     refine k1 _ ?_
     have pp := p1.trans (p2.trans (.refl p2.st))
     rcases k2 with ⟨z1, rfl, f⟩ | ⟨k, xs, t1, rfl, rfl, e5, a, vs, g1, g2, g3⟩
     ·exact q2' F2 H2 fp2 w [] pp ⟨f, fun _ _ _ h => (by cases h), .nil, fun _ h => (by cases h), rfl⟩
     ·cases ea with
      | sv t0 => exact q2'.elim
      | pk r p =>
       obtain ⟨z0, v0, z1, z2⟩ := w1
       dsimp only [EV.tree] at e2
       cases e6 : S2.get r with
       | none => rw [e6] at e2; cases e2
       | some t0 =>
        rw [e6] at e2
        refine q2' F2 H2 fp2 w [] pp ⟨⟨rfl, v0, z1, walk_snoc z2 g1 g2 g3⟩, fun _ _ _ h => (by cases h), .nil, fun _ h => (by cases h), ?_⟩
        dsimp only [EV.tree]
        rw [e6]
        show (t0.sub (p ++ [k])).isSome = true
        rw [sub_snoc e5 (show t0.sub p = some (.lst xs) from e2)]
        rfl
theorem ix_all (hu : X.A.units + 1 < cLine) : IxR X (rIxAll X.K) := IxR.or ix_seq (ix_dict hu)
theorem de_ix (hu : X.A.units + 1 < cLine) (ha : DE X EX W a fa) (hb : DE X EX W b fb) (hs : PlainIx b := by exact fun _ _ => rfl) : DE X EX W (.Subscript a b pos) (eIx fa fb) :=
 pe_of (pe_ix (ix_all hu) ha hb hs) (tIx_LE (C := cnOf X EX))
end
end Y
set_option maxRecDepth 100000
set_option maxHeartbeats 4000000
namespace Y
open PySem PySem.Spec L2
def updF (fp : Rt → List Addr) (r : Rt) (f : List Addr) : Rt → List Addr := fun r' => if r' = r then f else fp r'
theorem updF_same {fp : Rt → List Addr} {r : Rt} {f : List Addr} : updF fp r f r = f := by unfold updF; rw [if_pos rfl]
theorem updF_ne {fp : Rt → List Addr} {r r' : Rt} {f : List Addr} (h : r' ≠ r) : updF fp r f r' = fp r' := by unfold updF; rw [if_neg h]
section
variable {C : Cn} {AV : List V} {F F1 F2 F' H H1 H2 H' : Hp} {σ : L2.St} {S S1 S2 : DS} {fp fp1 fp2 : Rt → List Addr} {T T1 T2 : List Rt} {r r' : Rt} {t t' : SV} {v0 : V} {fr' : List Addr}
theorem get_inv (e : S.get (.s i) = some t) : S.sl[i]? = some (some (.tr t)) := by
 dsimp only [DS.get] at e
 cases e1 : S.sl[i]? with
 | none => rw [e1] at e; cases e
 | some x =>
  rw [e1] at e
  cases x with
  | none => cases e
  | some x =>
   cases x with
   | tr t' => cases e; rfl
   | ar j => cases e
   | ex c d => cases e
theorem put_get (e : S.get r = some t) : (S.put r t').get r = some t' := by
 cases r with
 | s i =>
  have h := get_inv e
  obtain ⟨hl, _⟩ := List.getElem?_eq_some_iff.mp h
  dsimp only [DS.put, DS.get]
  rw [List.getElem?_set_self hl]
 | a j =>
  have h : S.ar[j]? = some t := e
  obtain ⟨hl, _⟩ := List.getElem?_eq_some_iff.mp h
  dsimp only [DS.put, DS.get]
  rw [List.getElem?_set_self hl]
theorem put_get_ne (h : r' ≠ r) : (S.put r t').get r' = S.get r' := by
 cases r with
 | s i =>
  cases r' with
  | s j =>
   have : i ≠ j := fun z => h (by rw [z])
   dsimp only [DS.put, DS.get]
   rw [List.getElem?_set_ne this]
  | a j => rfl
 | a i =>
  cases r' with
  | s j => rfl
  | a j =>
   have : i ≠ j := fun z => h (by rw [z])
   dsimp only [DS.put, DS.get]
   rw [List.getElem?_set_ne this]
theorem StOk.upd (h : StOk C AV F H σ S fp) (e : S.get r = some t) (hv : rootV σ AV r = some v0) (fsub : ∀ a o, F a = some o → F' a = some o) (fh' : ∀ a o, F' a = some o → H' a = some o)
  (kp : ∀ r' a, r' ≠ r → a ∈ fp r' → H' a = H a ∧ F' a = none) (o : Own C.K F' H' t' v0 fr') (nd : fr'.Nodup) (dj : ∀ r' a, r' ≠ r → a ∈ fp r' → a ∉ fr') : StOk C AV F' H' σ (S.put r t') (updF fp r fr') := by
 refine ⟨fh', fun i x hx => ?_, fun j t1 hj => ?_, fun r1 r2 a h1 h2 => ?_, fun r1 => ?_, fun r1 a ha => ?_, fun r1 a xs ha z => ?_, ?_, ?_⟩
 ·by_cases hr : Rt.s i = r
  ·subst hr
   have h1 := get_inv e
   obtain ⟨hl, _⟩ := List.getElem?_eq_some_iff.mp h1
   dsimp only [DS.put] at hx
   rw [List.getElem?_set_self hl] at hx
   cases hx
   refine ⟨v0, ?_, by rw [updF_same]; exact o⟩
   dsimp only [rootV] at hv
   cases q : σ[i]? with
   | none => rw [q] at hv; cases hv
   | some w =>
    rw [q] at hv
    cases w with
    | none => cases hv
    | some w => cases hv; rfl
  ·have hx' : S.sl[i]? = some (some x) := by
    cases r with
    | s j =>
     have : j ≠ i := fun z => hr (by rw [z])
     dsimp only [DS.put] at hx
     rw [List.getElem?_set_ne this] at hx
     exact hx
    | a j => exact hx
   obtain ⟨v, q1, q2⟩ := h.sl i x hx'
   refine ⟨v, q1, ?_⟩
   rw [updF_ne hr]
   cases x with
   | tr t1 => exact own_keep fsub t1 v _ q2 fun a ha => kp _ a hr ha
   | ar j => exact q2
   | ex c d => exact slEx_mono fsub q2
 ·by_cases hr : Rt.a j = r
  ·subst hr
   have h1 : S.ar[j]? = some t := e
   obtain ⟨hl, _⟩ := List.getElem?_eq_some_iff.mp h1
   dsimp only [DS.put] at hj
   rw [List.getElem?_set_self hl] at hj
   cases hj
   exact ⟨v0, hv, by rw [updF_same]; exact o⟩
  ·have hj' : S.ar[j]? = some t1 := by
    cases r with
    | s i => exact hj
    | a i =>
     have : i ≠ j := fun z => hr (by rw [z])
     dsimp only [DS.put] at hj
     rw [List.getElem?_set_ne this] at hj
     exact hj
   obtain ⟨v, q1, q2⟩ := h.ar j t1 hj'
   exact ⟨v, q1, by rw [updF_ne hr]; exact own_keep fsub t1 v _ q2 fun a ha => kp _ a hr ha⟩
 ·by_cases z1 : r1 = r
  ·by_cases z2 : r2 = r
   ·rw [z1, z2]
   ·rw [z1, updF_same] at h1
    rw [updF_ne z2] at h2
    exact absurd h1 (dj r2 a z2 h2)
  ·by_cases z2 : r2 = r
   ·rw [z2, updF_same] at h2
    rw [updF_ne z1] at h1
    exact absurd h2 (dj r1 a z1 h1)
   ·rw [updF_ne z1] at h1
    rw [updF_ne z2] at h2
    exact h.dj r1 r2 a h1 h2
 ·by_cases z1 : r1 = r
  ·rw [z1, updF_same]; exact nd
  ·rw [updF_ne z1]; exact h.nd r1
 ·by_cases z1 : r1 = r
  ·rw [z1, updF_same] at ha
   exact own_fp t' v0 fr' o a ha
  ·rw [updF_ne z1] at ha
   obtain ⟨m1, ob, m2⟩ := h.mm r1 a ha
   obtain ⟨k1, k2⟩ := kp r1 a z1 ha
   exact ⟨k2, ob, k1.trans m2⟩
 ·by_cases z1 : r1 = r
  ·rw [z1, updF_same] at ha
   exact own_nt t' v0 fr' o a ha xs z
  ·rw [updF_ne z1] at ha
   exact h.mt r1 a xs ha ((kp r1 a z1 ha).1 ▸ z)
 ·cases r with
  | s i => simpa [DS.put] using h.ln
  | a i => exact h.ln
 ·cases r with
  | s i => exact h.la
  | a i => simpa [DS.put] using h.la
theorem StOk.freeze (h : StOk C AV F H σ S fp) {p : List Nat} {u : SV} {d : PyData} {v : V} (e : S.get r = some t) (hs : t.sub p = some u) (hd : u.frz = some d) (hv : rootV σ AV r = some v0) (hw : Walk H v0 p v) :
  ∃ F' fp', Post C AV F H σ S fp [r] (S.put r (t.setAt p (.fz d))) F' H fp' ∧ Fz F' v d := by
 obtain ⟨v1, hv1, o⟩ := h.root e
 rw [hv] at hv1
 cases hv1
 obtain ⟨w, fu, c1, c2, c3, c4, c5⟩ := own_sub p o (h.nd r) hs
 have hwv := walk_fun hw c1
 subst hwv
 have k1 : ∀ a o, F a = some o → joinF F H fu a = some o := joinF_sub h.fh
 have fd : Fz (joinF F H fu) v d := frz_ok k1 u v fu d c2 hd fun a ha o e => by rw [joinF_in ha]; exact e
 have out : ∀ a, a ∉ fu → F a = none → joinF F H fu a = none := fun a ha hn => by rw [joinF_out ha]; exact hn
 obtain ⟨fr, d1, d2, d3⟩ := c5 (joinF F H fu) H (.fz d) [] k1 (fun a ha hn => ⟨rfl, out a hn (h.mm r a ha).1⟩) (own_of_fz fd) .nil (fun _ h => by cases h)
 have other : ∀ r' a, r' ≠ r → a ∈ fp r' → a ∉ fu := fun r' a hr ha hf => hr (h.dj r' r a ha (c4 a hf))
 have st := h.upd (F' := joinF F H fu) (H' := H) e hv k1 (joinF_held h.fh) (fun r' a hr ha => ⟨rfl, out a (other r' a hr ha) (h.mm r' a ha).1⟩) d1 d2 fun r' a hr ha hf => by
  rcases d3 a hf with ⟨z, _⟩ | z
  ·exact hr (h.dj r' r a ha z)
  ·cases z
 refine ⟨joinF F H fu, updF fp r fr, ⟨st, ⟨k1, fun _ _ e _ => e, fun a o e e' => ?_, fun _ o e => ⟨o, e⟩⟩, fun r' hr => ?_, fun r' a ha => ?_⟩, fd⟩
 ·by_cases z : a ∈ fu
  ·exact .inl ⟨r, by simp, c4 a z⟩
  ·rw [joinF_out z] at e; rw [e] at e'; cases e'
 ·have hr' : r' ≠ r := fun z => hr (by simp [z])
  exact ⟨updF_ne hr', put_get_ne hr'⟩
 ·by_cases z : r' = r
  ·subst z
   rw [updF_same] at ha
   rcases d3 a ha with ⟨z, _⟩ | z
   ·exact .inl ⟨r', by simp, z⟩
   ·cases z
  ·exact .inr (.inr (by simp [z]))
end
section
variable {X : Cx} {EX : Hp → V → Str → Option PyData → Prop} {W : WX} {e a b c : Expr} {es : List Expr} {pos : Pos} {fa fb fc : DS → Out EV} {fr : DS → Out (List EV)} {C : Cn}
def eFz (fa : DS → Out EV) : DS → Out EV := fun S =>
 (fa S).bindT fun e S1 _ => match e with
  | .sv t => match t.frz with
   | some d => .ok (.sv (.fz d)) S1 []
   | none => .fail
  | .pk r p => match S1.get r with
   | some t => match t.sub p with
    | some u => match u.frz with
     | some d => .ok (.sv (.fz d)) (S1.put r (t.setAt p (.fz d))) [r]
     | none => .fail
    | none => .fail
   | none => .fail
theorem vp_freeze {AV : List V} {F F1 H H1 : Hp} {σ : L2.St} {S S1 : DS} {fp fp1 : Rt → List Addr} {T : List Rt} {v : V} {t : SV} {fe : List Addr} {d : PyData}
  (p : Post C AV F H σ S fp T S1 F1 H1 fp1) (w : VP C AV F H σ fp T S1 F1 H1 fp1 v (.sv t) fe) (hd : t.frz = some d) : ∃ F2, Post C AV F H σ S fp T S1 F2 H1 fp1 ∧ Fz F2 v d := by
 have o : Own C.K F1 H1 t v fe := w.val
 have k1 : ∀ a o, F1 a = some o → joinF F1 H1 fe a = some o := joinF_sub p.st.fh
 have fd : Fz (joinF F1 H1 fe) v d := frz_ok k1 t v fe d o hd fun a ha o e => by rw [joinF_in ha]; exact e
 have kp : ∀ r a, a ∈ fp1 r → H1 a = H1 a ∧ joinF F1 H1 fe a = none := fun r a ha => ⟨rfl, by rw [joinF_out (w.dj r a ha)]; exact (p.st.mm r a ha).1⟩
 refine ⟨joinF F1 H1 fe, ⟨⟨joinF_held p.st.fh, fun i x hx => ?_, fun j t1 hj => ?_, p.st.dj, p.st.nd, fun r a ha => ⟨(kp r a ha).2, (p.st.mm r a ha).2⟩, p.st.mt, p.st.ln, p.st.la⟩, ⟨fun a o e => k1 a o (p.evo.fsub a o e), p.evo.keep, fun a o e e' => ?_, p.evo.dom⟩, p.same, p.new⟩, fd⟩
 ·obtain ⟨v', q1, q2⟩ := p.st.sl i x hx
  refine ⟨v', q1, ?_⟩
  cases x with
  | tr t1 => exact own_keep k1 t1 v' _ q2 (kp _)
  | ar j => exact q2
  | ex c d => exact slEx_mono k1 q2
 ·obtain ⟨v', q1, q2⟩ := p.st.ar j t1 hj
  exact ⟨v', q1, own_keep k1 t1 v' _ q2 (kp _)⟩
 ·by_cases z : a ∈ fe
  ·exact (w.new a z).imp id .inl
  ·rw [joinF_out z] at e
   exact p.evo.fnew a o e e'
theorem de_fz (ha : DE X EX W a fa) : DE X EX W a (eFz fa) := by
 refine pe_of ha fun σ H Q ⟨AV, F, S, fp, st, q⟩ => ?_
 unfold eFz at q
 refine ⟨AV, F, S, fp, st, wp_mono (wp_bindT q) fun ea S1 T1 q1 F1 H1 fp1 v fe p1 v1 => ?_⟩
 have q1' := q1 F1 H1 fp1 p1.evA
 cases ea with
 | sv t =>
  dsimp only at q1'
  cases e1 : t.frz with
  | none => rw [e1] at q1'; exact q1'.elim
  | some d =>
   rw [e1] at q1'
   obtain ⟨F2, p2, f2⟩ := vp_freeze p1 v1 e1
   exact q1' F2 H1 fp1 v [] (by simpa using p2) (vp_fz f2)
 | pk r p =>
  dsimp only at q1'
  cases e1 : S1.get r with
  | none => rw [e1] at q1'; exact q1'.elim
  | some t =>
   rw [e1] at q1'
   dsimp only at q1'
   cases e2 : t.sub p with
   | none => rw [e2] at q1'; exact q1'.elim
   | some u =>
    rw [e2] at q1'
    dsimp only at q1'
    cases e3 : u.frz with
    | none => rw [e3] at q1'; exact q1'.elim
    | some d =>
     rw [e3] at q1'
     obtain ⟨_, v0, z1, z2⟩ := v1.val
     obtain ⟨F2, fp2, p2, f2⟩ := p1.st.freeze e1 e2 e3 z1 z2
     exact q1' F2 H1 fp2 v [] (p1.trans p2) (vp_fz f2)
def DS.kill (S : DS) (i : Nat) : DS := { S with sl := S.sl.set i none }
def eMv (fa : DS → Out EV) : DS → Out EV := fun S =>
 (fa S).bindT fun e S1 _ => match e with
  | .sv t => .ok (.sv t) S1 []
  | .pk (.s i) [] => match S1.get (.s i) with
   | some t => .ok (.sv t) (S1.kill i) [.s i]
   | none => .fail
  | .pk _ _ => .fail
theorem kill_get {S : DS} {i : Nat} {r : Rt} (h : r ≠ .s i) : (S.kill i).get r = S.get r := by
 cases r with
 | s j =>
  have : i ≠ j := fun z => h (by rw [z])
  dsimp only [DS.kill, DS.get]
  rw [List.getElem?_set_ne this]
 | a j => rfl
theorem StOk.kill {AV : List V} {F H : Hp} {σ : L2.St} {S : DS} {fp : Rt → List Addr} (h : StOk C AV F H σ S fp) (i : Nat) : StOk C AV F H σ (S.kill i) (updF fp (.s i) []) := by
 refine ⟨h.fh, fun j x hx => ?_, fun j t hj => ?_, fun r r' a h1 h2 => ?_, fun r => ?_, fun r a ha => ?_, fun r a xs ha => ?_, by simpa [DS.kill] using h.ln, h.la⟩
 ·by_cases z : i = j
  ·subst z
   dsimp only [DS.kill] at hx
   rw [List.getElem?_set] at hx
   simp at hx
  ·dsimp only [DS.kill] at hx
   rw [List.getElem?_set_ne z] at hx
   obtain ⟨v, q1, q2⟩ := h.sl j x hx
   exact ⟨v, q1, by rw [updF_ne (fun w => z (by cases w; rfl))]; exact q2⟩
 ·obtain ⟨v, q1, q2⟩ := h.ar j t hj
  exact ⟨v, q1, by rw [updF_ne (fun w => by cases w)]; exact q2⟩
 ·by_cases z1 : r = .s i
  ·rw [z1, updF_same] at h1; cases h1
  ·by_cases z2 : r' = .s i
   ·rw [z2, updF_same] at h2; cases h2
   ·rw [updF_ne z1] at h1; rw [updF_ne z2] at h2; exact h.dj r r' a h1 h2
 ·by_cases z1 : r = .s i
  ·rw [z1, updF_same]; exact .nil
  ·rw [updF_ne z1]; exact h.nd r
 ·by_cases z1 : r = .s i
  ·rw [z1, updF_same] at ha; cases ha
  ·rw [updF_ne z1] at ha; exact h.mm r a ha
 ·by_cases z1 : r = .s i
  ·rw [z1, updF_same] at ha; cases ha
  ·rw [updF_ne z1] at ha; exact h.mt r a xs ha
theorem de_mv (ha : DE X EX W a fa) : DE X EX W a (eMv fa) := by
 refine pe_of ha fun σ H Q ⟨AV, F, S, fp, st, q⟩ => ?_
 unfold eMv at q
 refine ⟨AV, F, S, fp, st, wp_mono (wp_bindT q) fun ea S1 T1 q1 F1 H1 fp1 v fe p1 v1 => ?_⟩
 have q1' := q1 F1 H1 fp1 p1.evA
 cases ea with
 | sv t =>
  refine q1' F1 H1 fp1 v fe (by simpa using p1) ?_
  simpa using v1
 | pk r p =>
  cases r with
  | a j => exact q1'.elim
  | s i =>
   cases p with
   | cons k p => exact q1'.elim
   | nil =>
    dsimp only at q1'
    cases e1 : S1.get (.s i) with
    | none => rw [e1] at q1'; exact q1'.elim
    | some t =>
     rw [e1] at q1'
     obtain ⟨z0, v0, z1, z2⟩ := v1.val
     have z2' : v = v0 := z2
     subst z2'
     obtain ⟨v', z3, o⟩ := p1.st.root e1
     rw [z1] at z3
     cases z3
     have p2 : Post (cnOf X EX) AV F1 H1 σ S1 fp1 [.s i] (S1.kill i) F1 H1 (updF fp1 (.s i) []) := ⟨p1.st.kill i, .refl, fun r hr => by
      have hr' : r ≠ .s i := fun z => hr (by simp [z])
      exact ⟨updF_ne hr', kill_get hr'⟩, fun r a ha => by
       by_cases z : r = .s i
       ·rw [z, updF_same] at ha; cases ha
       ·exact .inr (.inr (by simp [z]))⟩
     refine q1' F1 H1 _ v (fp1 (.s i)) (p1.trans p2) ⟨o, fun r a hr hf => ?_, p1.st.nd _, fun a ha => ?_, rfl⟩
     ·by_cases z : r = .s i
      ·rw [z, updF_same] at hr; cases hr
      ·rw [updF_ne z] at hr; exact z (p1.st.dj r _ a hr hf)
     ·exact p1.rg ⟨.s i, by simp, ha⟩
end
end Y
set_option maxRecDepth 100000
set_option maxHeartbeats 4000000
namespace Y
open PySem PySem.Spec L2
structure ArOk (K : PySem.W.Frag) (AV : List V) (F H : Hp) (A : List SV) (g : Nat → List Addr) : Prop where
 fh : ∀ a o, F a = some o → H a = some o
 ln : A.length = AV.length
 ar : ∀ (j : Nat) (t : SV), A[j]? = some t → ∃ v, AV[j]? = some v ∧ Own K F H t v (g j)
 dj : ∀ j k a, a ∈ g j → a ∈ g k → j = k
 nd : ∀ j, (g j).Nodup
 mm : ∀ j a, a ∈ g j → F a = none ∧ ∃ o, H a = some o
 mt : ∀ j a xs, a ∈ g j → H a ≠ some (.tup xs)
def Ag (g : Nat → List Addr) (a : Addr) : Prop := ∃ k, a ∈ g k
structure RetOk (K : PySem.W.Frag) (AV : List V) (F H : Hp) (g : Nat → List Addr) (A : List SV) (F' H' : Hp) (g' : Nat → List Addr) : Prop where
 ar : ArOk K AV F' H' A g'
 evo : Evo (Ag g) F H F' H'
 new : ∀ a, Ag g' a → Ag g a ∨ H a = none
def spOf (K : PySem.W.Frag) (mg : Str → Option Value) (m : List SV → FOut) : Sp := fun vs H Q E => ∃ F ts g, ArOk K vs F H ts g ∧
 match m ts with
 | .fail => False
 | .ret t A => ∀ F' H' g' v fe, RetOk K vs F H g A F' H' g' → Own K F' H' t v fe → fe.Nodup → (∀ a ∈ fe, Ag g a ∨ H a = none) → (∀ a, Ag g' a → a ∉ fe) → Q v H'
 | .exc c d A => ∀ F' H' g' cls dd, RetOk K vs F H g A F' H' g' → ExcOk ⟨K, mg, fun _ _ _ _ => False⟩ F' H' c d cls dd → E cls dd H'
def EV.root : EV → Option Rt
 | .pk r _ => some r
 | .sv _ => none
def rootsOf (es : List EV) : List Rt := es.filterMap EV.root
def putBack : DS → List EV → List SV → DS
 | S, .pk r p :: es, a :: as => putBack (match S.get r with | some t => S.put r (t.setAt p a) | none => S) es as
 | S, .sv _ :: es, _ :: as => putBack S es as
 | S, _, _ => S
def eFn (m : List SV → FOut) (fr : DS → Out (List EV)) : DS → Out EV := fun S =>
 (fr S).bindT fun es S1 _ => match trees S1 es with
  | some ts => if (rootsOf es).Nodup then (match m ts with
   | .fail => .fail
   | .ret t A => .ok (.sv t) (putBack S1 es A) (rootsOf es)
   | .exc c d A => .exc c d (putBack S1 es A)) else .fail
  | none => .fail
theorem mem_roots {es : List EV} {r : Rt} : r ∈ rootsOf es ↔ ∃ (k : Nat) (p : List Nat), es[k]? = some (.pk r p) := by
 unfold rootsOf
 rw [List.mem_filterMap]
 constructor
 ·rintro ⟨e, he, q⟩
  obtain ⟨k, hk, e2⟩ := List.mem_iff_getElem.mp he
  cases e with
  | sv t => cases q
  | pk r' p => cases q; exact ⟨k, p, List.getElem?_eq_some_iff.mpr ⟨hk, e2⟩⟩
 ·rintro ⟨k, p, q⟩
  exact ⟨_, List.mem_of_getElem? q, rfl⟩
theorem roots_inj : ∀ {es : List EV}, (rootsOf es).Nodup → ∀ {j k : Nat} {r : Rt} {p q : List Nat}, es[j]? = some (.pk r p) → es[k]? = some (.pk r q) → j = k
 | [], _, j, k, r, p, q, h, _ => by simp at h
 | e :: es, nd, j, k, r, p, q, h1, h2 => by
  have tail : (rootsOf es).Nodup := by
   cases e with
   | sv t => exact nd
   | pk r' p' => exact (List.nodup_cons.mp nd).2
  cases j with
  | zero =>
   cases k with
   | zero => rfl
   | succ k =>
    simp at h1
    subst h1
    exact absurd (mem_roots.mpr ⟨k, q, by simpa using h2⟩) (List.nodup_cons.mp nd).1
  | succ j =>
   cases k with
   | zero =>
    simp at h2
    subst h2
    exact absurd (mem_roots.mpr ⟨j, p, by simpa using h1⟩) (List.nodup_cons.mp nd).1
   | succ k =>
    have h1' : es[j]? = some (.pk r p) := by simpa using h1
    have h2' : es[k]? = some (.pk r q) := by simpa using h2
    rw [roots_inj tail h1' h2']
theorem putBack_get_out : ∀ {es : List EV} {A : List SV} {S : DS} {r : Rt}, r ∉ rootsOf es → (putBack S es A).get r = S.get r
 | [], A, S, r, _ => rfl
 | .sv t :: es, [], S, r, h => rfl
 | .sv t :: es, a :: A, S, r, h => putBack_get_out (es := es) h
 | .pk r' p :: es, [], S, r, h => rfl
 | .pk r' p :: es, a :: A, S, r, h => by
  have h1 : r ≠ r' := fun z => h (by rw [z]; exact mem_roots.mpr ⟨0, p, rfl⟩)
  have h2 : r ∉ rootsOf es := fun z => h (by
   obtain ⟨k, q, e⟩ := mem_roots.mp z
   exact mem_roots.mpr ⟨k + 1, q, by simpa using e⟩)
  show (putBack _ es A).get r = _
  rw [putBack_get_out h2]
  cases S.get r' with
  | none => rfl
  | some t => exact put_get_ne h1
theorem putBack_sl_out : ∀ {es : List EV} {A : List SV} {S : DS} {i : Nat}, Rt.s i ∉ rootsOf es → (putBack S es A).sl[i]? = S.sl[i]?
 | [], A, S, r, _ => rfl
 | .sv t :: es, [], S, r, h => rfl
 | .sv t :: es, a :: A, S, r, h => putBack_sl_out (es := es) h
 | .pk r' p :: es, [], S, r, h => rfl
 | .pk r' p :: es, a :: A, S, i, h => by
  have h1 : Rt.s i ≠ r' := fun z => h (by rw [z]; exact mem_roots.mpr ⟨0, p, rfl⟩)
  have h2 : Rt.s i ∉ rootsOf es := fun z => h (by
   obtain ⟨k, q, e⟩ := mem_roots.mp z
   exact mem_roots.mpr ⟨k + 1, q, by simpa using e⟩)
  show (putBack _ es A).sl[i]? = _
  rw [putBack_sl_out h2]
  cases S.get r' with
  | none => rfl
  | some t =>
   cases r' with
   | s j =>
    have : j ≠ i := fun z => h1 (by rw [z])
    dsimp only [DS.put]
    rw [List.getElem?_set_ne this]
   | a j => rfl
theorem putBack_ln : ∀ {es : List EV} {A : List SV} {S : DS}, (putBack S es A).sl.length = S.sl.length ∧ (putBack S es A).ar.length = S.ar.length
 | [], A, S => ⟨rfl, rfl⟩
 | .sv t :: es, [], S => ⟨rfl, rfl⟩
 | .sv t :: es, a :: A, S => putBack_ln (es := es)
 | .pk r' p :: es, [], S => ⟨rfl, rfl⟩
 | .pk r' p :: es, a :: A, S => by
  show (putBack _ es A).sl.length = _ ∧ (putBack _ es A).ar.length = _
  obtain ⟨h1, h2⟩ := putBack_ln (es := es) (A := A) (S := match S.get r' with | some t => S.put r' (t.setAt p a) | none => S)
  rw [h1, h2]
  cases S.get r' with
  | none => exact ⟨rfl, rfl⟩
  | some t => cases r' <;> simp [DS.put]
theorem putBack_get_in : ∀ {es : List EV} {A : List SV} {S : DS} {r : Rt} {k : Nat} {p : List Nat} {t a : SV}, (rootsOf es).Nodup → es[k]? = some (.pk r p) → A[k]? = some a → S.get r = some t → (putBack S es A).get r = some (t.setAt p a)
 | [], A, S, r, k, p, t, a, _, h, _, _ => by simp at h
 | _ :: _, [], S, r, k, p, t, a, _, _, h, _ => by simp at h
 | .sv t' :: es, a' :: A, S, r, k, p, t, a, nd, h1, h2, h3 => by
  cases k with
  | zero => simp at h1
  | succ k => exact putBack_get_in (es := es) (k := k) nd (by simpa using h1) (by simpa using h2) h3
 | .pk r' p' :: es, a' :: A, S, r, k, p, t, a, nd, h1, h2, h3 => by
  have nd' := List.nodup_cons.mp nd
  cases k with
  | zero =>
   simp at h1 h2
   obtain ⟨rfl, rfl⟩ := h1
   subst h2
   show (putBack _ es A).get r' = _
   rw [putBack_get_out nd'.1]
   rw [h3]
   exact put_get h3
  | succ k =>
   have h1' : es[k]? = some (.pk r p) := by simpa using h1
   have hne : r ≠ r' := fun z => nd'.1 (by rw [← z]; exact mem_roots.mpr ⟨k, p, h1'⟩)
   show (putBack _ es A).get r = _
   refine putBack_get_in nd'.2 h1' (by simpa using h2) ?_
   cases e : S.get r' with
   | none => exact h3
   | some t' =>
    show (S.put r' (t'.setAt p' a')).get r = some t
    rw [put_get_ne hne]
    exact h3
theorem trees_at {S : DS} : ∀ {es : List EV} {ts : List SV}, trees S es = some ts → ts.length = es.length ∧ ∀ (k : Nat) (e : EV), es[k]? = some e → ∃ t, ts[k]? = some t ∧ e.tree S = some t
 | [], ts, h => by cases h; exact ⟨rfl, fun k e h => by simp at h⟩
 | e :: es, ts, h => by
  unfold trees at h
  cases e1 : e.tree S with
  | none => rw [e1] at h; cases h
  | some t =>
   cases e2 : trees S es with
   | none => rw [e1, e2] at h; cases h
   | some ts' =>
    rw [e1, e2] at h
    cases h
    obtain ⟨a, b⟩ := trees_at e2
    refine ⟨by simp [a], fun k e' he => ?_⟩
    cases k with
    | zero => simp at he; subst he; exact ⟨t, rfl, e1⟩
    | succ k => exact b k e' (by simpa using he)
section
variable {C : Cn} {W : WX} {AV : List V} {F F1 F' H H1 H' : Hp} {σ : L2.St} {S S1 : DS} {fp fp1 : Rt → List Addr} {T1 : List Rt} {vs : List V} {es : List EV} {fe : Nat → List Addr} {ts A : List SV}
structure Arg (K : PySem.W.Frag) (AV : List V) (F1 H1 : Hp) (σ : L2.St) (S1 : DS) (fp1 : Rt → List Addr) (vs : List V) (es : List EV) (fe : Nat → List Addr) (ts : List SV) (k : Nat) (f : List Addr) : Prop where
 own : ∀ e, es[k]? = some e → ∃ v t, vs[k]? = some v ∧ ts[k]? = some t ∧ Own K F1 H1 t v f
 nd : f.Nodup
 mem : ∀ a ∈ f, a ∈ fe k ∨ ∃ r p, es[k]? = some (.pk r p) ∧ a ∈ fp1 r
 off : es[k]? = none → f = []
 back : ∀ r p, es[k]? = some (.pk r p) → ∃ v0 t0 v, vs[k]? = some v ∧ S1.get r = some t0 ∧ rootV σ AV r = some v0 ∧ ∀ (F' H' : Hp) (u' : SV) (fu' : List Addr), (∀ a o, F1 a = some o → F' a = some o) → (∀ a ∈ fp1 r, a ∉ f → H' a = H1 a ∧ F' a = none) →
  Own K F' H' u' v fu' → fu'.Nodup → (∀ a ∈ fu', a ∈ f ∨ a ∉ fp1 r) → ∃ fp', Own K F' H' (t0.setAt p u') v0 fp' ∧ fp'.Nodup ∧ ∀ a ∈ fp', (a ∈ fp1 r ∧ a ∉ f) ∨ a ∈ fu'
theorem args_of (st : StOk C AV F1 H1 σ S1 fp1) (ln : vs.length = es.length) (val : ∀ (k : Nat) (e : EV), es[k]? = some e → ∃ v, vs[k]? = some v ∧ EOk C AV F1 H1 σ v e (fe k) ∧ (e.tree S1).isSome = true) (nd : ∀ k, (fe k).Nodup) (e1 : trees S1 es = some ts) :
  ∃ g : Nat → List Addr, ∀ k, Arg C.K AV F1 H1 σ S1 fp1 vs es fe ts k (g k) := by
 obtain ⟨_, tr⟩ := trees_at e1
 refine Classical.axiomOfChoice fun k => ?_
 cases hk : es[k]? with
 | none => exact ⟨[], fun e h => (by rw [hk] at h; cases h), .nil, fun a h => (by cases h), fun _ => rfl, fun r p h => by rw [hk] at h; cases h⟩
 | some e =>
  obtain ⟨v, h1, h2, h3⟩ := val k e hk
  obtain ⟨t, h4, h5⟩ := tr k e hk
  cases e with
  | sv t' =>
   cases h5
   exact ⟨fe k, fun e h => (by rw [hk] at h; cases h; exact ⟨v, t, h1, h4, h2⟩), nd k, fun a ha => .inl ha, fun h => (by rw [hk] at h; cases h), fun r p h => by rw [hk] at h; cases h⟩
  | pk r p =>
   obtain ⟨_, v0, z1, z2⟩ := h2
   dsimp only [EV.tree] at h5
   cases e6 : S1.get r with
   | none => rw [e6] at h5; cases h5
   | some t0 =>
    rw [e6] at h5
    obtain ⟨v', z3, o⟩ := st.root e6
    rw [z1] at z3
    cases z3
    obtain ⟨w, fu, c1, c2, c3, c4, c5⟩ := own_sub p o (st.nd r) h5
    have := walk_fun z2 c1
    subst this
    exact ⟨fu, fun e h => (by rw [hk] at h; cases h; exact ⟨v, t, h1, h4, c2⟩), c3, fun a ha => .inr ⟨r, p, hk, c4 a ha⟩, fun h => (by rw [hk] at h; cases h),
     fun r' p' h => by rw [hk] at h; cases h; exact ⟨v0, t0, v, h1, e6, z1, c5⟩⟩
theorem call_back (p1 : Post C AV F H σ S fp T1 S1 F1 H1 fp1) (v1 : VPs C AV F H σ fp T1 S1 F1 H1 fp1 vs es fe) (e1 : trees S1 es = some ts) (nd : (rootsOf es).Nodup) :
  ∃ g, ArOk C.K vs F1 H1 ts g ∧ ∀ (A : List SV) (F' H' : Hp) (g' : Nat → List Addr), RetOk C.K vs F1 H1 g A F' H' g' →
   ∃ fp', Post C AV F H σ S fp (T1 ++ rootsOf es) (putBack S1 es A) F' H' fp' ∧
    ∀ (t : SV) (v : V) (f : List Addr), Own C.K F' H' t v f → f.Nodup → (∀ a ∈ f, Ag g a ∨ H1 a = none) → (∀ a, Ag g' a → a ∉ f) → VP C AV F H σ fp (T1 ++ rootsOf es) (putBack S1 es A) F' H' fp' v (.sv t) f := by
 obtain ⟨g, hg⟩ := args_of p1.st v1.ln v1.val v1.nd e1
 obtain ⟨hl, tr⟩ := trees_at e1
 -- where an address of an argument stands
 have same : ∀ {j k : Nat} {a : Addr}, a ∈ g j → a ∈ g k → j = k := fun {j k a} h1 h2 => by
  rcases (hg j).mem a h1 with x | ⟨r, p, x1, x2⟩
  ·rcases (hg k).mem a h2 with y | ⟨r', p', y1, y2⟩
   ·exact v1.dd j k a x y
   ·exact absurd x (v1.dj r' a j y2)
  ·rcases (hg k).mem a h2 with y | ⟨r', p', y1, y2⟩
   ·exact absurd y (v1.dj r a k x2)
   ·have := p1.st.dj r r' a x2 y2
    subst this
    exact roots_inj nd x1 y1
 -- an address of a root that is an argument's is that argument's own
 have own_root : ∀ {j : Nat} {r : Rt} {a : Addr}, a ∈ g j → a ∈ fp1 r → ∃ p, es[j]? = some (.pk r p) := fun {j r a} h1 h2 => by
  rcases (hg j).mem a h1 with x | ⟨r', p, x1, x2⟩
  ·exact absurd x (v1.dj r a j h2)
  ·have := p1.st.dj r r' a h2 x2
   subst this
   exact ⟨p, x1⟩
 have gsome : ∀ {j : Nat} {a : Addr}, a ∈ g j → F1 a = none ∧ ∃ o, H1 a = some o := fun {j a} h => by
  cases hj : es[j]? with
  | none => rw [(hg j).off hj] at h; cases h
  | some e =>
   obtain ⟨v, t, _, _, o⟩ := (hg j).own e hj
   exact own_fp t v _ o a h
 have gnt : ∀ {j : Nat} {a : Addr} {xs : List V}, a ∈ g j → H1 a ≠ some (.tup xs) := fun {j a xs} h => by
  cases hj : es[j]? with
  | none => rw [(hg j).off hj] at h; cases h
  | some e =>
   obtain ⟨v, t, _, _, o⟩ := (hg j).own e hj
   exact own_nt t v _ o a h xs
 refine ⟨g, ⟨p1.st.fh, by rw [hl, v1.ln], fun j t ht => ?_, fun j k a h1 h2 => same h1 h2, fun j => (hg j).nd, fun j a h => gsome h, fun j a xs h => gnt h⟩, fun A F' H' g' R => ?_⟩
 ·have hj : j < es.length := by rw [← hl]; exact (List.getElem?_eq_some_iff.mp ht).1
  obtain ⟨v, t', a, b, o⟩ := (hg j).own _ (List.getElem?_eq_getElem hj)
  rw [ht] at b
  cases b
  exact ⟨v, a, o⟩
 ·have kp : ∀ a, ¬ Ag g a → ((∃ o, H1 a = some o) ∧ (∀ xs, H1 a ≠ some (.tup xs))) → F1 a = none → H' a = H1 a ∧ F' a = none := fun a hn ⟨⟨o, ho⟩, nt⟩ hf => by
   refine ⟨(R.evo.keep a o ho hn).trans ho.symm, ?_⟩
   cases q : F' a with
   | none => rfl
   | some o1 =>
    rcases R.evo.fnew a o1 q hf with z | z | ⟨xs, z⟩
    ·exact absurd z hn
    ·rw [ho] at z; cases z
    ·exact absurd z (nt xs)
  have lnA : A.length = vs.length := R.ar.ln
  -- the new place of each root
  have pick : ∀ r, ∃ f : List Addr, (∀ k p, es[k]? = some (.pk r p) → ∃ t0 v0 u', S1.get r = some t0 ∧ A[k]? = some u' ∧ rootV σ AV r = some v0 ∧ Own C.K F' H' (t0.setAt p u') v0 f ∧ f.Nodup ∧ ∀ a ∈ f, (a ∈ fp1 r ∧ a ∉ g k) ∨ a ∈ g' k) ∧ (r ∉ rootsOf es → f = fp1 r) := fun r => by
   by_cases hr : r ∈ rootsOf es
   ·obtain ⟨k, p, hk⟩ := mem_roots.mp hr
    obtain ⟨v0, t0, v, b0, b1, b2, b3⟩ := (hg k).back r p hk
    have hkl : k < A.length := by
     rw [lnA, v1.ln]
     exact (List.getElem?_eq_some_iff.mp hk).1
    have hA : A[k]? = some A[k] := List.getElem?_eq_getElem hkl
    obtain ⟨v', a1, a2⟩ := R.ar.ar k _ hA
    rw [b0] at a1
    cases a1
    obtain ⟨f, d1, d2, d3⟩ := b3 F' H' A[k] (g' k) R.evo.fsub (fun a ha hn => kp a (fun ⟨j, hj⟩ => by
     obtain ⟨p', e'⟩ := own_root hj ha
     have := roots_inj nd hk e'
     subst this
     exact hn hj) ⟨(p1.st.mm r a ha).2, fun xs => p1.st.mt r a xs ha⟩ (p1.st.mm r a ha).1) a2 (R.ar.nd k) (fun a ha => by
     rcases R.new a ⟨k, ha⟩ with ⟨j, z⟩ | z
     ·by_cases hra : a ∈ fp1 r
      ·obtain ⟨p', e'⟩ := own_root z hra
       have := roots_inj nd hk e'
       subst this
       exact .inl z
      ·exact .inr hra
     ·exact .inr fun y => by obtain ⟨_, o, m⟩ := p1.st.mm r a y; rw [m] at z; cases z)
    refine ⟨f, fun k' p' h' => ?_, fun h => absurd hr h⟩
    have := roots_inj nd hk h'
    subst this
    rw [hk] at h'
    cases h'
    exact ⟨t0, v0, A[k], b1, hA, b2, d1, d2, d3⟩
   ·exact ⟨fp1 r, fun k p hk => absurd (mem_roots.mpr ⟨k, p, hk⟩) hr, fun _ => rfl⟩
  obtain ⟨fp', hp⟩ := Classical.axiomOfChoice pick
  -- an address of the new place of a root
  have wh : ∀ r a, a ∈ fp' r → (a ∈ fp1 r ∧ ¬ Ag g a) ∨ ∃ k p, es[k]? = some (.pk r p) ∧ a ∈ g' k := fun r a ha => by
   by_cases hr : r ∈ rootsOf es
   ·obtain ⟨k, p, hk⟩ := mem_roots.mp hr
    obtain ⟨t0, v0, u', _, _, _, _, _, q⟩ := (hp r).1 k p hk
    rcases q a ha with ⟨z1, z2⟩ | z
    ·refine .inl ⟨z1, fun ⟨j, hj⟩ => ?_⟩
     obtain ⟨p', e'⟩ := own_root hj z1
     have := roots_inj nd hk e'
     subst this
     exact z2 hj
    ·exact .inr ⟨k, p, hk, z⟩
   ·rw [(hp r).2 hr] at ha
    refine .inl ⟨ha, fun ⟨j, hj⟩ => ?_⟩
    obtain ⟨p', e'⟩ := own_root hj ha
    exact hr (mem_roots.mpr ⟨j, p', e'⟩)
  have keepOut : ∀ r a, r ∉ rootsOf es → a ∈ fp1 r → H' a = H1 a ∧ F' a = none := fun r a hr ha => kp a (fun ⟨j, hj⟩ => by
   obtain ⟨p', e'⟩ := own_root hj ha
   exact hr (mem_roots.mpr ⟨j, p', e'⟩)) ⟨(p1.st.mm r a ha).2, fun xs => p1.st.mt r a xs ha⟩ (p1.st.mm r a ha).1
  -- g' against the old places
  have gOld : ∀ {k : Nat} {r : Rt} {a : Addr}, a ∈ g' k → a ∈ fp1 r → ¬ Ag g a → False := fun {k r a} h1 h2 h3 => by
   rcases R.new a ⟨k, h1⟩ with z | z
   ·exact h3 z
   ·obtain ⟨_, o, m⟩ := p1.st.mm r a h2; rw [m] at z; cases z
  have agIn : ∀ a, Ag g a → Rg (T1 ++ rootsOf es) fp a ∨ H a = none := fun a ⟨j, hj⟩ => by
   rcases (hg j).mem a hj with x | ⟨r, p, x1, x2⟩
   ·rcases v1.new j a x with y | y
    ·exact .inl (Rg.app.mpr (.inl y))
    ·exact .inr y
   ·exact p1.rg ⟨r, mem_roots.mpr ⟨j, p, x1⟩, x2⟩
  refine ⟨fp', ⟨⟨R.ar.fh, fun i x hx => ?_, fun j t hj => ?_, fun r r' a h1 h2 => ?_, fun r => ?_, fun r a ha => ?_, fun r a xs ha z => ?_, ?_, ?_⟩, ?_, fun r hr => ?_, fun r a ha => ?_⟩, fun t v f o n1 n2 n3 => ⟨o, fun r a ha hf => ?_, n1, fun a ha => ?_, rfl⟩⟩
  ·by_cases hr : Rt.s i ∈ rootsOf es
   ·obtain ⟨k, p, hk⟩ := mem_roots.mp hr
    obtain ⟨t0, v0, u', b1, b2, b3, b4, _, _⟩ := (hp (.s i)).1 k p hk
    have h := get_inv (putBack_get_in nd hk b2 b1)
    rw [hx] at h
    cases h
    refine ⟨v0, ?_, b4⟩
    dsimp only [rootV] at b3
    cases q : σ[i]? with
    | none => rw [q] at b3; cases b3
    | some w =>
     rw [q] at b3
     cases w with
     | none => cases b3
     | some w => cases b3; rfl
   ·rw [putBack_sl_out hr] at hx
    obtain ⟨v, q1, q2⟩ := p1.st.sl i x hx
    refine ⟨v, q1, ?_⟩
    rw [(hp (.s i)).2 hr]
    cases x with
    | tr t => exact own_keep R.evo.fsub t v _ q2 fun a ha => keepOut _ a hr ha
    | ar j => exact q2
    | ex c d => exact slEx_mono R.evo.fsub q2
  ·by_cases hr : Rt.a j ∈ rootsOf es
   ·obtain ⟨k, p, hk⟩ := mem_roots.mp hr
    obtain ⟨t0, v0, u', b1, b2, b3, b4, _, _⟩ := (hp (.a j)).1 k p hk
    have h : (putBack S1 es A).ar[j]? = _ := putBack_get_in nd hk b2 b1
    rw [hj] at h
    cases h
    exact ⟨v0, b3, b4⟩
   ·have h : (putBack S1 es A).get (.a j) = S1.get (.a j) := putBack_get_out hr
    have h' : S1.ar[j]? = some t := by rw [← show (putBack S1 es A).ar[j]? = S1.ar[j]? from h]; exact hj
    obtain ⟨v, q1, q2⟩ := p1.st.ar j t h'
    refine ⟨v, q1, ?_⟩
    rw [(hp (.a j)).2 hr]
    exact own_keep R.evo.fsub t v _ q2 fun a ha => keepOut _ a hr ha
  ·rcases wh r a h1 with ⟨x1, x2⟩ | ⟨k, p, x1, x2⟩
   ·rcases wh r' a h2 with ⟨y1, y2⟩ | ⟨k', p', y1, y2⟩
    ·exact p1.st.dj r r' a x1 y1
    ·exact (gOld y2 x1 x2).elim
   ·rcases wh r' a h2 with ⟨y1, y2⟩ | ⟨k', p', y1, y2⟩
    ·exact (gOld x2 y1 y2).elim
    ·have := R.ar.dj k k' a x2 y2
     subst this
     rw [x1] at y1
     cases y1
     rfl
  ·by_cases hr : r ∈ rootsOf es
   ·obtain ⟨k, p, hk⟩ := mem_roots.mp hr
    obtain ⟨_, _, _, _, _, _, _, q, _⟩ := (hp r).1 k p hk
    exact q
   ·rw [(hp r).2 hr]
    exact p1.st.nd r
  ·rcases wh r a ha with ⟨x1, x2⟩ | ⟨k, p, x1, x2⟩
   ·obtain ⟨z1, z2⟩ := kp a x2 ⟨(p1.st.mm r a x1).2, fun xs => p1.st.mt r a xs x1⟩ (p1.st.mm r a x1).1
    obtain ⟨o, ho⟩ := (p1.st.mm r a x1).2
    exact ⟨z2, o, z1.trans ho⟩
   ·exact R.ar.mm k a x2
  ·rcases wh r a ha with ⟨x1, x2⟩ | ⟨k, p, x1, x2⟩
   ·have k1 := (kp a x2 ⟨(p1.st.mm r a x1).2, fun xs => p1.st.mt r a xs x1⟩ (p1.st.mm r a x1).1).1
    exact p1.st.mt r a xs x1 (k1 ▸ z)
   ·exact R.ar.mt k a xs x2 z
  ·rw [putBack_ln.1]; exact p1.st.ln
  ·rw [putBack_ln.2]; exact p1.st.la
  ·exact (p1.evo.mono fun x h => Rg.app.mpr (.inl h)).trans R.evo agIn
  ·have h1 : r ∉ T1 := fun z => hr (by simp [z])
   have h2 : r ∉ rootsOf es := fun z => hr (by simp [z])
   exact ⟨((hp r).2 h2).trans (p1.same r h1).1, (putBack_get_out h2).trans (p1.same r h1).2⟩
  ·rcases wh r a ha with ⟨x1, x2⟩ | ⟨k, p, x1, x2⟩
   ·rcases p1.new r a x1 with z | z | z
    ·exact .inl (Rg.app.mpr (.inl z))
    ·exact .inr (.inl z)
    ·by_cases h2 : r ∈ rootsOf es
     ·rcases p1.rg ⟨r, h2, x1⟩ with y | y
      ·exact .inl y
      ·exact .inr (.inl y)
     ·exact .inr (.inr (by simp [z, h2]))
   ·rcases R.new a ⟨k, x2⟩ with z | z
    ·rcases agIn a z with y | y
     ·exact .inl y
     ·exact .inr (.inl y)
    ·exact .inr (.inl (p1.evo.none_back z))
  ·rcases wh r a ha with ⟨x1, x2⟩ | ⟨k, p, x1, x2⟩
   ·rcases n2 a hf with z | z
    ·exact x2 z
    ·obtain ⟨_, o, m⟩ := p1.st.mm r a x1; rw [m] at z; cases z
   ·exact n3 a ⟨k, x2⟩ hf
  ·rcases n2 a ha with z | z
   ·exact agIn a z
   ·exact .inr (p1.evo.none_back z)
end
section
variable {X : Cx} {EX : Hp → V → Str → Option PyData → Prop} {W : WX} {e : Expr} {es : List Expr} {pos : Pos} {fr : DS → Out (List EV)}
theorem tCall_LE {C : Cn} {m : List SV → FOut} : ∀ σ H Q, LE C W (eFn m fr) σ H Q → tCallS (spOf C.K C.mg m) (WE W) (LA C W fr) σ H Q := by
 intro σ H Q ⟨AV, F, S, fp, st, q⟩
 unfold eFn at q
 refine ⟨AV, F, S, fp, st, wp_mono (wp_bindT q) fun es S1 T1 q1 F1 H1 fp1 vs fe p1 v1 => ?_⟩
 have q1' := q1 F1 H1 fp1 p1.evA
 cases e1 : trees S1 es with
 | none => rw [e1] at q1'; exact q1'.elim
 | some ts =>
  rw [e1] at q1'
  dsimp only at q1'
  split at q1'
  ·rename_i nd
   obtain ⟨g, hg, back⟩ := call_back p1 v1 e1 nd
   refine ⟨F1, ts, g, hg, ?_⟩
   cases e4 : m ts with
   | fail => rw [e4] at q1'; exact q1'.elim
   | ret t A =>
    rw [e4] at q1'
    intro F' H' g' v f R o n1 n2 n3
    obtain ⟨fp', p', w'⟩ := back A F' H' g' R
    exact q1' F' H' fp' v f p' (w' t v f o n1 n2 n3)
   | exc c d A =>
    rw [e4] at q1'
    intro F' H' g' cls dd R x
    obtain ⟨fp', p', w'⟩ := back A F' H' g' R
    have q0 := q1 F H fp .refl
    rw [e1] at q0
    dsimp only at q0
    rw [if_pos nd, e4] at q0
    exact q0 F' H' fp' cls dd p'.st p'.evA x
  ·exact q1'.elim
end
end Y
set_option maxRecDepth 100000
set_option maxHeartbeats 4000000
namespace Y
open PySem PySem.Spec L2
structure RtOk (K : PySem.W.Frag) (AV : List V) (R : Addr → Prop) (F H : Hp) (t : SV) (A : List SV) (F' H' : Hp) (g' : Nat → List Addr) (v : V) (fe : List Addr) : Prop where
 ar : ArOk K AV F' H' A g'
 own : Own K F' H' t v fe
 nd : fe.Nodup
 evo : Evo R F H F' H'
 newv : ∀ a ∈ fe, R a ∨ H a = none
 newa : ∀ a, Ag g' a → R a ∨ H a = none
 dj : ∀ a, Ag g' a → a ∉ fe
def SW (C : Cn) (W : WX) (AV : List V) (F H : Hp) (fp : Rt → List Addr) (o : SOut) (D : Ends) : Prop :=
 match o with
 | .fail => False
 | .nx S' => ∀ σ' F' H' fp', StOk C AV F' H' σ' S' fp' → EvA F H F' H' fp fp' → D.nx σ' H'
 | .bk S' => ∀ σ' F' H' fp', StOk C AV F' H' σ' S' fp' → EvA F H F' H' fp fp' → D.bk σ' H'
 | .ct S' => ∀ σ' F' H' fp', StOk C AV F' H' σ' S' fp' → EvA F H F' H' fp fp' → D.ct σ' H'
 | .rt t A => ∀ F' H' g' v fe, RtOk C.K AV (Al fp) F H t A F' H' g' v fe → D.rt v H'
 | .exc c d S' => ∀ σ' F' H' fp' cls dd, StOk C AV F' H' σ' S' fp' → EvA F H F' H' fp fp' → ExcOk C F' H' c d cls dd → W cls dd σ' H'
def LS (C : Cn) (W : WX) (f : DS → SOut) : TS := fun D σ H => ∃ AV F S fp, StOk C AV F H σ S fp ∧ SW C W AV F H fp (f S) D
abbrev DSt (X : Cx) (EX : Hp → V → Str → Option PyData → Prop) (W : WX) (st : Stmt) (f : DS → SOut) : Prop := PS X st (LS (cnOf X EX) W f)
abbrev DSs (X : Cx) (EX : Hp → V → Str → Option PyData → Prop) (W : WX) (st : List Stmt) (f : DS → SOut) : Prop := PSs X st (LS (cnOf X EX) W f)
theorem ps_of {X : Cx} {st : Stmt} {t t' : TS} (h : PS X st t) (k : ∀ D σ H, t' D σ H → t D σ H) : PS X st t' := ⟨fun pins s σ H D I q => h.run pins s σ H D I (k D σ H q)⟩
theorem pss_of {X : Cx} {st : List Stmt} {t t' : TS} (h : PSs X st t) (k : ∀ D σ H, t' D σ H → t D σ H) : PSs X st t' := ⟨fun pins s σ H D I q => h.run pins s σ H D I (k D σ H q)⟩
def sBind {α : Type} (o : Out α) (k : α → DS → SOut) : SOut :=
 match o with
 | .fail => .fail
 | .exc c d S => .exc c d S
 | .ok x S _ => k x S
section
variable {C : Cn} {W : WX} {AV : List V} {F F1 F2 H H1 H2 : Hp} {σ : L2.St} {S S1 S2 : DS} {fp fp1 fp2 : Rt → List Addr} {T T1 T2 : List Rt} {α β : Type} {D : Ends}
theorem RtOk.later {K : PySem.W.Frag} {R R1 : Addr → Prop} {t : SV} {A : List SV} {F' H' : Hp} {g' : Nat → List Addr} {v : V} {fe : List Addr} (a : Evo R F H F1 H1) (k : ∀ x, R1 x → R x ∨ H x = none) (h : RtOk K AV R1 F1 H1 t A F' H' g' v fe) : RtOk K AV R F H t A F' H' g' v fe :=
 ⟨h.ar, h.own, h.nd, a.trans h.evo k, fun x hx => (h.newv x hx).elim (k x) fun z => .inr (a.none_back z), fun x hx => (h.newa x hx).elim (k x) fun z => .inr (a.none_back z), h.dj⟩
theorem SW.later {o : SOut} (e : EvA F H F1 H1 fp fp1) (h : SW C W AV F H fp o D) : SW C W AV F1 H1 fp1 o D := by
 cases o with
 | fail => exact h
 | nx S => exact fun σ' F' H' fp' st ev => h σ' F' H' fp' st (e.trans ev)
 | bk S => exact fun σ' F' H' fp' st ev => h σ' F' H' fp' st (e.trans ev)
 | ct S => exact fun σ' F' H' fp' st ev => h σ' F' H' fp' st (e.trans ev)
 | rt t A => exact fun F' H' g' v fe r => h F' H' g' v fe (r.later e.evo e.new)
 | exc c d S => exact fun σ' F' H' fp' cls dd st ev x => h σ' F' H' fp' cls dd st (e.trans ev) x
theorem sw_bind {o : Out α} {k : α → DS → SOut} (h : SW C W AV F H fp (sBind o k) D) : Wp C W AV F H σ fp o fun x S1 T1 => SW C W AV F H fp (k x S1) D := by
 cases o with
 | fail => exact h
 | exc c d S => exact fun F' H' fp' cls dd st ev x => h σ F' H' fp' cls dd st ev x
 | ok x S T => exact h
theorem SW.done (h : SW C W AV F H fp (.nx S1) D) {σ' : L2.St} (st : StOk C AV F1 H1 σ' S1 fp1) (e : EvA F H F1 H1 fp fp1) : D.nx σ' H1 := h σ' F1 H1 fp1 st e
end
section
variable {X : Cx} {EX : Hp → V → Str → Option PyData → Prop} {W : WX} {e a b c : Expr} {st : Stmt} {sts rest : List Stmt} {es : List Expr} {pos : Pos} {fa fb fc : DS → Out EV} {fr : DS → Out (List EV)} {f g : DS → SOut} {t : DS → Out Bool} {C : Cn}
def sNil : DS → SOut := fun S => .nx S
def sSeq (f g : DS → SOut) : DS → SOut := fun S => match f S with
 | .nx S1 => g S1
 | o => o
theorem ds_nil : DSs X EX W [] sNil := pss_of pss_nil fun D σ H ⟨AV, F, S, fp, st, q⟩ => q σ F H fp st .refl
theorem tSeq_LS : ∀ D σ H, LS C W (sSeq f g) D σ H → tSeq (LS C W f) (LS C W g) D σ H := by
 intro D σ H ⟨AV, F, S, fp, st, q⟩
 refine ⟨AV, F, S, fp, st, ?_⟩
 unfold sSeq at q
 cases e : f S with
 | fail => rw [e] at q; exact q
 | nx S1 =>
  rw [e] at q
  exact fun σ' F' H' fp' st' ev => ⟨AV, F', S1, fp', st', q.later ev⟩
 | bk S1 => rw [e] at q; exact q
 | ct S1 => rw [e] at q; exact q
 | rt t A => rw [e] at q; exact q
 | exc c d S1 => rw [e] at q; exact q
theorem ds_cons (h1 : DSt X EX W st f) (h2 : DSs X EX W rest g) : DSs X EX W (st :: rest) (sSeq f g) := pss_of (pss_cons h1 h2) (tSeq_LS (C := cnOf X EX))
theorem ds_one (h1 : DSt X EX W st f) : DSs X EX W [st] f := pss_one h1
def sExpr (fa : DS → Out EV) : DS → SOut := fun S => sBind (fa S) fun _ S1 => .nx S1
theorem ds_expr (ha : DE X EX W a fa) (hs : swapsWith a none pos.line X.env = pure false := by rfl) : DSt X EX W (.Expr a pos) (sExpr fa) :=
 ps_of (ps_expr ha hs) fun D σ H ⟨AV, F, S, fp, st, q⟩ => ⟨AV, F, S, fp, st, wp_mono (sw_bind (σ := σ) q) fun e S1 T1 q1 F1 H1 fp1 v fe p1 v1 => q1.done p1.st p1.evA⟩
def sRet (fa : DS → Out EV) : DS → SOut := fun S => sBind (fa S) fun e S1 => match e with
 | .sv t => .rt t S1.ar
 | .pk _ _ => .fail
def arF (fp : Rt → List Addr) : Nat → List Addr := fun j => fp (.a j)
theorem StOk.args {AV : List V} {F H : Hp} {σ : L2.St} {S : DS} {fp : Rt → List Addr} (st : StOk C AV F H σ S fp) : ArOk C.K AV F H S.ar (arF fp) :=
 ⟨st.fh, st.la, fun j t h => st.ar j t h, fun j k a h1 h2 => by have := st.dj _ _ a h1 h2; cases this; rfl, fun j => st.nd _, fun j a h => st.mm _ a h, fun j a xs h => st.mt _ a xs h⟩
theorem ds_ret (ha : DE X EX W a fa) : DSt X EX W (.Return (some a) pos) (sRet fa) := by
 refine ps_of (ps_ret ha) fun D σ H ⟨AV, F, S, fp, st, q⟩ => ⟨AV, F, S, fp, st, wp_mono (sw_bind (σ := σ) q) fun e S1 T1 q1 F1 H1 fp1 v fe p1 v1 => ?_⟩
 cases e with
 | pk r p => exact q1.elim
 | sv t =>
  have ev := p1.evA
  exact q1 F1 H1 (arF fp1) v fe ⟨p1.st.args, v1.val, v1.nd, ev.evo, fun a ha => (v1.new a ha).imp (fun z => z.al) id, fun a ⟨k, hk⟩ => ev.new a ⟨_, hk⟩, fun a ⟨k, hk⟩ hf => v1.dj _ a hk hf⟩
def sIf (t : DS → Out Bool) (f g : DS → SOut) : DS → SOut := fun S => sBind (t S) fun b S1 => if b = true then f S1 else g S1
theorem ds_if {s1 s2 : List Stmt} (ht : DT X EX W c t) (h1 : DSs X EX W s1 f) (h2 : DSs X EX W s2 g) : DSt X EX W (.If c s1 s2 pos) (sIf t f g) := by
 refine ps_of (ps_if ht h1 h2) fun D σ H ⟨AV, F, S, fp, st, q⟩ => ⟨AV, F, S, fp, st, wp_mono (sw_bind (σ := σ) q) fun b S1 T1 q1 F1 H1 fp1 p1 => ?_⟩
 cases b with
 | true => exact ⟨AV, F1, S1, fp1, p1.st, q1.later p1.evA⟩
 | false => exact ⟨AV, F1, S1, fp1, p1.st, q1.later p1.evA⟩
def LG (C : Cn) (W : WX) (f : SV → DS → SOut) : TG := fun v σ H Q => ∃ AV F S fp t fe, StOk C AV F H σ S fp ∧ Own C.K F H t v fe ∧ (∀ r a, a ∈ fp r → a ∉ fe) ∧ fe.Nodup ∧
 match f t S with
 | .nx S' => ∀ σ' F' H' fp', StOk C AV F' H' σ' S' fp' → Evo (fun a => Al fp a ∨ a ∈ fe) F H F' H' → (∀ a, Al fp' a → (Al fp a ∨ a ∈ fe) ∨ H a = none) → Q σ' H'
 | .exc c d S' => ∀ σ' F' H' fp' cls dd, StOk C AV F' H' σ' S' fp' → Evo (fun a => Al fp a ∨ a ∈ fe) F H F' H' → (∀ a, Al fp' a → (Al fp a ∨ a ∈ fe) ∨ H a = none) → ExcOk C F' H' c d cls dd → W cls dd σ' H'
 | _ => False
abbrev DG (X : Cx) (EX : Hp → V → Str → Option PyData → Prop) (W : WX) (tg : Expr) (f : SV → DS → SOut) : Prop := PG X tg (LG (cnOf X EX) W f)
theorem pg_of {X : Cx} {tg : Expr} {t t' : TG} (h : PG X tg t) (k : ∀ v σ H Q, t' v σ H Q → t v σ H Q) : PG X tg t' := ⟨fun pins s σ H v u Q I r q => h.run pins s σ H v u Q I r (k v σ H Q q)⟩
def DS.setSl (S : DS) (i : Nat) (t : SV) : DS := { S with sl := S.sl.set i (some (.tr t)) }
theorem StOk.setSl {AV : List V} {F H : Hp} {σ : L2.St} {S : DS} {fp : Rt → List Addr} (h : StOk C AV F H σ S fp) {i : Nat} {t : SV} {v : V} {fe : List Addr} (o : Own C.K F H t v fe) (dj : ∀ r a, a ∈ fp r → a ∉ fe) (nd : fe.Nodup) :
  StOk C AV F H (σ.set i (some v)) (S.setSl i t) (updF fp (.s i) fe) := by
 refine ⟨h.fh, fun j x hx => ?_, fun j t1 hj => ?_, fun r r' a h1 h2 => ?_, fun r => ?_, fun r a ha => ?_, fun r a xs ha => ?_, by simpa [DS.setSl] using h.ln, h.la⟩
 ·by_cases z : i = j
  ·subst z
   dsimp only [DS.setSl] at hx
   have hl : i < S.sl.length := by
    have := (List.getElem?_eq_some_iff.mp hx).1
    simpa using this
   rw [List.getElem?_set_self hl] at hx
   cases hx
   exact ⟨v, by rw [List.getElem?_set_self (by rw [← h.ln]; exact hl)], by rw [updF_same]; exact o⟩
  ·dsimp only [DS.setSl] at hx
   rw [List.getElem?_set_ne z] at hx
   obtain ⟨w, q1, q2⟩ := h.sl j x hx
   exact ⟨w, by rw [List.getElem?_set_ne z]; exact q1, by rw [updF_ne (fun y => z (by cases y; rfl))]; exact q2⟩
 ·obtain ⟨w, q1, q2⟩ := h.ar j t1 hj
  exact ⟨w, q1, by rw [updF_ne (fun y => by cases y)]; exact q2⟩
 ·by_cases z1 : r = .s i
  ·by_cases z2 : r' = .s i
   ·rw [z1, z2]
   ·rw [z1, updF_same] at h1; rw [updF_ne z2] at h2; exact absurd h1 (dj _ a h2)
  ·by_cases z2 : r' = .s i
   ·rw [z2, updF_same] at h2; rw [updF_ne z1] at h1; exact absurd h2 (dj _ a h1)
   ·rw [updF_ne z1] at h1; rw [updF_ne z2] at h2; exact h.dj r r' a h1 h2
 ·by_cases z1 : r = .s i
  ·rw [z1, updF_same]; exact nd
  ·rw [updF_ne z1]; exact h.nd r
 ·by_cases z1 : r = .s i
  ·rw [z1, updF_same] at ha; exact own_fp t v fe o a ha
  ·rw [updF_ne z1] at ha; exact h.mm r a ha
 ·by_cases z1 : r = .s i
  ·rw [z1, updF_same] at ha; exact own_nt t v fe o a ha xs
  ·rw [updF_ne z1] at ha; exact h.mt r a xs ha
def gSet (i : Nat) : SV → DS → SOut := fun t S => .nx (S.setSl i t)
theorem dg_name {i : Nat} {x : Str} (hN : X.N.Nodup) (hi : X.N[i]? = some x) (hx : Loc X.env.scope x) (hf : X.fn x = true ∨ X.env.scope.names.lookup x = some .local := by first | exact .inl rfl | exact .inr rfl | assumption) : DG X EX W (.Name x pos) (gSet i) := by
 refine pg_of (pg_name hN hi hx hf) fun v σ H Q ⟨AV, F, S, fp, t, fe, st, o, dj, nd, q⟩ => ?_
 refine q (σ.set i (some v)) F H _ (st.setSl o dj nd) .refl fun a ⟨r, hr⟩ => ?_
 by_cases z : r = .s i
 ·rw [z, updF_same] at hr; exact .inl (.inr hr)
 ·rw [updF_ne z] at hr; exact .inl (.inl ⟨r, hr⟩)
def GW (C : Cn) (W : WX) (AV : List V) (F H : Hp) (fp : Rt → List Addr) (o : SOut) (Q : L2.St → Hp → Prop) : Prop :=
 match o with
 | .nx S' => ∀ σ' F' H' fp', StOk C AV F' H' σ' S' fp' → EvA F H F' H' fp fp' → Q σ' H'
 | .exc c d S' => ∀ σ' F' H' fp' cls dd, StOk C AV F' H' σ' S' fp' → EvA F H F' H' fp fp' → ExcOk C F' H' c d cls dd → W cls dd σ' H'
 | _ => False
theorem GW.later {AV : List V} {F H F1 H1 : Hp} {fp fp1 : Rt → List Addr} {o : SOut} {Q : L2.St → Hp → Prop} (e : EvA F H F1 H1 fp fp1) (h : GW C W AV F H fp o Q) : GW C W AV F1 H1 fp1 o Q := by
 cases o with
 | nx S => exact fun σ' F' H' fp' st ev => h σ' F' H' fp' st (e.trans ev)
 | exc c d S => exact fun σ' F' H' fp' cls dd st ev x => h σ' F' H' fp' cls dd st (e.trans ev) x
 | fail => exact h
 | bk S => exact h
 | ct S => exact h
 | rt t A => exact h
theorem lg_fz {AV : List V} {F H : Hp} {σ : L2.St} {S : DS} {fp : Rt → List Addr} {v : V} {d : PyData} {h : SV → DS → SOut} {Q : L2.St → Hp → Prop} (st : StOk C AV F H σ S fp) (fz : Fz F v d) (q : GW C W AV F H fp (h (.fz d) S) Q) : LG C W h v σ H Q := by
 refine ⟨AV, F, S, fp, .fz d, [], st, own_of_fz fz, fun _ _ _ h => (by cases h), .nil, ?_⟩
 have k : ∀ a, (Al fp a ∨ a ∈ ([] : List Addr)) → Al fp a := fun a z => z.elim id fun y => by cases y
 cases e : h (.fz d) S with
 | nx S' => rw [e] at q; exact fun σ' F' H' fp' st' ev n => q σ' F' H' fp' st' ⟨ev.mono k, fun a ha => (n a ha).imp (k a) id⟩
 | exc c d S' => rw [e] at q; exact fun σ' F' H' fp' cls dd st' ev n x => q σ' F' H' fp' cls dd st' ⟨ev.mono k, fun a ha => (n a ha).imp (k a) id⟩ x
 | fail => rw [e] at q; exact q
 | bk S => rw [e] at q; exact q
 | ct S => rw [e] at q; exact q
 | rt t A => rw [e] at q; exact q
def sAsg (fa : DS → Out EV) (h : SV → DS → SOut) : DS → SOut := fun S => sBind (fa S) fun e S1 => match e with
 | .sv t => match h t S1 with
  | .nx S' => .nx S'
  | .exc c d S' => .exc c d S'
  | _ => .fail
 | .pk _ _ => .fail
theorem tAsg_LS {h : SV → DS → SOut} : ∀ D σ H, LS C W (sAsg fa h) D σ H → tAsg (LE C W fa) (LG C W h) D σ H := by
 intro D σ H ⟨AV, F, S, fp, st, q⟩
 refine ⟨AV, F, S, fp, st, wp_mono (sw_bind (σ := σ) q) fun e S1 T1 q1 F1 H1 fp1 v fe p1 v1 => ?_⟩
 cases e with
 | pk r p => exact q1.elim
 | sv t =>
  refine ⟨AV, F1, S1, fp1, t, fe, p1.st, v1.val, v1.dj, v1.nd, ?_⟩
  have ev := p1.evA
  have k : ∀ a, (Al fp1 a ∨ a ∈ fe) → Al fp a ∨ H a = none := fun a z => by
   rcases z with z | z
   ·exact ev.new a z
   ·exact (v1.new a z).imp (fun y => y.al) id
  dsimp only at q1
  cases e2 : h t S1 with
  | nx S' => rw [e2] at q1; exact fun σ' F' H' fp' st' e3 n => q1 σ' F' H' fp' st' ⟨ev.evo.trans e3 k, fun a ha => (n a ha).elim (k a) fun z => .inr (ev.evo.none_back z)⟩
  | exc c d S' => rw [e2] at q1; exact fun σ' F' H' fp' cls dd st' e3 n x => q1 σ' F' H' fp' cls dd st' ⟨ev.evo.trans e3 k, fun a ha => (n a ha).elim (k a) fun z => .inr (ev.evo.none_back z)⟩ x
  | fail => rw [e2] at q1; exact q1
  | bk S => rw [e2] at q1; exact q1
  | ct S => rw [e2] at q1; exact q1
  | rt t A => rw [e2] at q1; exact q1
theorem ds_asg {h : SV → DS → SOut} {tg : Expr} (ha : DE X EX W a fa) (hg : DG X EX W tg h) (hs : swapsWithSole [tg] a pos.line X.env = pure false := by rfl) (hw : swappedStores [tg] a X.env = pure none := by rfl)
  (h1 : (assignEach [tg] X.env).map (·.2) = [assign tg X.env] := by rfl) : DSt X EX W (.Assign [tg] a pos) (sAsg fa h) :=
 ps_of (ps_asg ha hg hs hw h1) (tAsg_LS (C := cnOf X EX))
theorem ds_set {i : Nat} {x : Str} {pos' : Pos} (hN : X.N.Nodup) (hi : X.N[i]? = some x) (hx : Loc X.env.scope x) (ha : DE X EX W a fa) (hs : swapsWith a (some (.Name x pos')) pos.line X.env = pure false := by rfl) (hf : X.fn x = true ∨ X.env.scope.names.lookup x = some .local := by first | exact .inl rfl | exact .inr rfl | assumption) :
  DSt X EX W (.Assign [.Name x pos'] a pos) (sAsg fa (gSet i)) := by
 refine ps_of (ps_set hN hi hx ha hs hf) fun D σ H q => ?_
 obtain ⟨AV, F, S, fp, st, q⟩ := q
 refine ⟨AV, F, S, fp, st, wp_mono (sw_bind (σ := σ) q) fun e S1 T1 q1 F1 H1 fp1 v fe p1 v1 => ?_⟩
 cases e with
 | pk r p => exact q1.elim
 | sv t =>
  have ev := p1.evA
  refine q1 (σ.set i (some v)) F1 H1 _ (p1.st.setSl v1.val v1.dj v1.nd) ⟨ev.evo, fun a ⟨r, hr⟩ => ?_⟩
  by_cases z : r = .s i
  ·rw [z, updF_same] at hr; exact (v1.new a hr).imp (fun y => y.al) id
  ·rw [updF_ne z] at hr; exact ev.new a ⟨r, hr⟩
end
end Y
set_option maxRecDepth 100000
set_option maxHeartbeats 4000000
namespace Y
open PySem PySem.Spec L2
section
variable {X : Cx} {EX : Hp → V → Str → Option PyData → Prop} {W : WX} {e a b c : Expr} {st : Stmt} {sts rest : List Stmt} {es : List Expr} {pos : Pos} {fa fb fc : DS → Out EV} {fr : DS → Out (List EV)} {f g : DS → SOut} {t : DS → Out Bool} {C : Cn}
def sWhile (t : DS → Out Bool) (f : DS → SOut) : Nat → DS → SOut
 | 0, _ => .fail
 | n + 1, S => sBind (t S) fun b S1 => if b = true then (match f S1 with
  | .nx S2 => sWhile t f n S2
  | .ct S2 => sWhile t f n S2
  | .bk S2 => .nx S2
  | o => o) else .nx S1
theorem body_of {AV : List V} {F H : Hp} {fp : Rt → List Addr} {o : SOut} {D : Ends} {N : L2.St → Hp → Prop} {again : DS → SOut}
  (q : SW C W AV F H fp (match o with | .nx S2 => again S2 | .ct S2 => again S2 | .bk S2 => .nx S2 | o => o) D)
  (hN : ∀ σ' F' H' fp' S2, StOk C AV F' H' σ' S2 fp' → EvA F H F' H' fp fp' → SW C W AV F' H' fp' (again S2) D → N σ' H') : SW C W AV F H fp o { D with nx := N, ct := N, bk := D.nx } := by
 cases o with
 | fail => exact q
 | nx S2 => exact fun σ' F' H' fp' st ev => hN σ' F' H' fp' S2 st ev (q.later ev)
 | ct S2 => exact fun σ' F' H' fp' st ev => hN σ' F' H' fp' S2 st ev (q.later ev)
 | bk S2 => exact q
 | rt t A => exact q
 | exc c d S2 => exact q
theorem ds_while {n : Nat} (hp : PassesOwn (model X.prog X.w) X.A X.env X.xe) (ht : DT X EX W c t) (hb : DSs X EX W sts f) : DSt X EX W (.While c sts [] pos) (sWhile t f n) := by
 refine ps_of (ps_while hp ht hb) fun D σ H ⟨AV, F, S, fp, st, q⟩ => ?_
 refine ⟨fun m σ H => ∃ F S fp, StOk (cnOf X EX) AV F H σ S fp ∧ SW (cnOf X EX) W AV F H fp (sWhile t f m S) D, ⟨n, F, S, fp, st, q⟩, ?_⟩
 rintro m σ H ⟨F, S, fp, st, q⟩
 cases m with
 | zero => exact q.elim
 | succ m =>
  unfold sWhile at q
  refine ⟨AV, F, S, fp, st, wp_mono (sw_bind (σ := σ) q) fun b S1 T1 q1 F1 H1 fp1 p1 => ?_⟩
  cases b with
  | true =>
   rw [if_pos rfl] at q1 ⊢
   refine ⟨fun σ' H' => ∃ F S fp, StOk (cnOf X EX) AV F H' σ' S fp ∧ SW (cnOf X EX) W AV F H' fp (sWhile t f m S) D, fun σ' H' h => ⟨m, Nat.lt_succ_self m, h⟩, AV, F1, S1, fp1, p1.st, ?_⟩
   exact body_of (q1.later p1.evA) fun σ' F' H' fp' S2 st' ev q2 => ⟨F', S2, fp', st', q2⟩
  | false =>
   rw [if_neg Bool.false_ne_true] at q1 ⊢
   exact q1.done p1.st p1.evA
def ItOk (K : PySem.W.Frag) (F : Hp) (J : It) (ds : List PyData) : Prop :=
 ∀ (i : Nat) (F1 H1 : Hp), (∀ a o, F a = some o → F1 a = some o) → (∀ a o, F1 a = some o → H1 a = some o) →
  (∀ d, ds[i]? = some d → J.go i H1 ∧ ∀ x H', J.yld i H1 x H' → ∃ F', NewV K F1 H1 F' H' x (.fz d) []) ∧ (ds[i]? = none → J.stop i H1)
def LI (C : Cn) (W : WX) (fi : DS → Out (List PyData)) : TI := fun σ H R => ∃ AV F S fp, StOk C AV F H σ S fp ∧
 Wp C W AV F H σ fp (fi S) fun ds S' T => ∀ F' H' fp' J, Post C AV F H σ S fp T S' F' H' fp' → ItOk C.K F' J ds → R J H'
abbrev DI (X : Cx) (EX : Hp → V → Str → Option PyData → Prop) (W : WX) (tg e : Expr) (fi : DS → Out (List PyData)) : Prop := PI X tg e (LI (cnOf X EX) W fi)
theorem pi_of {X : Cx} {tg e : Expr} {t t' : TI} (h : PI X tg e t) (k : ∀ σ H Q, t' σ H Q → t σ H Q) : PI X tg e t' := ⟨fun pins s σ H Q I q => h.run pins s σ H Q I (k σ H Q q)⟩
theorem itOk_list {K : PySem.W.Frag} {F : Hp} {a : Addr} {vs : List V} {ds : List PyData} (h : F a = some (.lst vs)) (r : FzAll F vs ds) : ItOk K F (Itl K a) ds := fun i F1 H1 k1 k2 =>
 ⟨fun d hd => by
  obtain ⟨v, e1, e2⟩ := fzAll_at r hd
  have hs := SqL.of (K := K) (k2 _ _ (k1 _ _ h))
  refine ⟨⟨vs, v, hs, e1⟩, fun x H' hy => ?_⟩
  obtain ⟨rfl, q⟩ := hy
  have := q vs hs
  rw [e1] at this
  cases this
  exact ⟨F1, nv_fz k2 (fz_mono k1 d v e2)⟩, fun hn => ⟨vs, SqL.of (k2 _ _ (k1 _ _ h)), by rw [fzAll_len r]; exact List.getElem?_eq_none_iff.mp hn⟩⟩
theorem itOk_tup {K : PySem.W.Frag} {F : Hp} {a : Addr} {vs : List V} {ds : List PyData} (h : F a = some (.tup vs)) (r : FzAll F vs ds) : ItOk K F (Itt K a) ds := fun i F1 H1 k1 k2 =>
 ⟨fun d hd => by
  obtain ⟨v, e1, e2⟩ := fzAll_at r hd
  have hs := SqT.of (K := K) (k2 _ _ (k1 _ _ h))
  refine ⟨⟨vs, v, hs, e1⟩, fun x H' hy => ?_⟩
  obtain ⟨rfl, q⟩ := hy
  have := q vs hs
  rw [e1] at this
  cases this
  exact ⟨F1, nv_fz k2 (fz_mono k1 d v e2)⟩, fun hn => ⟨vs, SqT.of (k2 _ _ (k1 _ _ h)), by rw [fzAll_len r]; exact List.getElem?_eq_none_iff.mp hn⟩⟩
def rangeL (lo : Int) (n : Nat) : List PyData := (List.range n).map fun (i : Nat) => .int (lo + (i : Int))
theorem itOk_range {K : PySem.W.Frag} {F : Hp} {lo : Int} {n : Nat} : ItOk K F (Itr lo n) (rangeL lo n) := fun i F1 H1 k1 k2 => by
 constructor
 ·intro d hd
  unfold rangeL at hd
  rw [List.getElem?_map] at hd
  cases e : (List.range n)[i]? with
  | none => rw [e] at hd; cases hd
  | some j =>
   rw [e] at hd
   cases hd
   obtain ⟨hl, e2⟩ := List.getElem?_eq_some_iff.mp e
   have : j = i := by rw [← e2]; simp
   subst this
   refine ⟨(show j < n by simpa using hl), fun x H' hy => ?_⟩
   obtain ⟨rfl, rfl⟩ := hy
   exact ⟨F1, nv_fz k2 (.int _)⟩
 ·intro hn
  unfold rangeL at hn
  have := List.getElem?_eq_none_iff.mp hn
  show n ≤ i
  simpa using this
def charsL (x : Str) : List PyData := x.cps.toList.map fun c => .str ⟨#[c]⟩
theorem itOk_str {K : PySem.W.Frag} {F : Hp} {x : Str} : ItOk K F (Its x) (charsL x) := fun i F1 H1 k1 k2 => by
 constructor
 ·intro d hd
  unfold charsL at hd
  rw [List.getElem?_map] at hd
  cases e : x.cps.toList[i]? with
  | none => rw [e] at hd; cases hd
  | some j =>
   rw [e] at hd
   cases hd
   have e' : x.cps[i]? = some j := by simpa using e
   obtain ⟨hl, _⟩ := Array.getElem?_eq_some_iff.mp e'
   refine ⟨hl, fun y H' hy => ?_⟩
   obtain ⟨rfl, c, e2, rfl⟩ := hy
   rw [e'] at e2
   cases e2
   exact ⟨F1, nv_fz k2 (.str _)⟩
 ·intro hn
  unfold charsL at hn
  have := List.getElem?_eq_none_iff.mp hn
  show x.cps.size ≤ i
  simpa using this
def sFor (h : SV → DS → SOut) (f : DS → SOut) : List PyData → DS → SOut
 | [], S => .nx S
 | d :: ds, S => match h (.fz d) S with
  | .nx S1 => (match f S1 with
   | .nx S2 => sFor h f ds S2
   | .ct S2 => sFor h f ds S2
   | .bk S2 => .nx S2
   | o => o)
  | .exc c d S1 => .exc c d S1
  | _ => .fail
def sForI (fi : DS → Out (List PyData)) (h : SV → DS → SOut) (f : DS → SOut) : DS → SOut := fun S => sBind (fi S) fun ds S1 => sFor h f ds S1
theorem sw_post_fz {AV : List V} {F H F' H' : Hp} {σ : L2.St} {S : DS} {fp : Rt → List Addr} {v : V} {d : PyData} (st : StOk C AV F H σ S fp) (n : NewV C.K F H F' H' v (.fz d) []) : StOk C AV F' H' σ S fp ∧ EvA F H F' H' fp fp ∧ Fz F' v d :=
 ⟨(n.post st).st, (n.post st).evA, own_fz n.own⟩
theorem ds_for {fi : DS → Out (List PyData)} {h : SV → DS → SOut} {tg : Expr} (hp : PassesOwn (model X.prog X.w) X.A X.env X.xe) (hc : X.calm = true) (hi : DI X EX W tg a fi) (hg : DG X EX W tg h) (hb : DSs X EX W sts f)
  (hs : ∀ x, foldedSetIterable a X.env x = pure x := by intro _; rfl) : DSt X EX W (.For tg a sts [] pos) (sForI fi h f) := by
 refine ps_of (ps_for hp hc hi hg hb hs) fun D σ H ⟨AV, F, S, fp, st, q⟩ => ?_
 refine ⟨AV, F, S, fp, st, wp_mono (sw_bind (σ := σ) q) fun ds S1 T1 q1 F1 H1 fp1 J p1 it => ?_⟩
 have q1' := q1.later p1.evA
 refine ⟨fun i m σ H => m = ds.length - i ∧ i ≤ ds.length ∧ ∃ F S fp, StOk (cnOf X EX) AV F H σ S fp ∧ (∀ a o, F1 a = some o → F a = some o) ∧ SW (cnOf X EX) W AV F H fp (sFor h f (ds.drop i) S) D, ⟨ds.length, rfl, Nat.zero_le _, F1, S1, fp1, p1.st, fun _ _ e => e, q1'⟩, ?_⟩
 rintro i m σ2 H2 ⟨rfl, hil, F2, S2, fp2, st2, k2, q2⟩
 obtain ⟨g1, g2⟩ := it i F2 H2 k2 st2.fh
 cases e : ds[i]? with
 | none =>
  left
  refine ⟨g2 e, ?_⟩
  have : ds.drop i = [] := List.drop_eq_nil_of_le (List.getElem?_eq_none_iff.mp e)
  rw [this] at q2
  exact q2.done st2 .refl
 | some d =>
  right
  obtain ⟨hl, _⟩ := List.getElem?_eq_some_iff.mp e
  obtain ⟨go, yl⟩ := g1 d e
  have hd : ds.drop i = d :: ds.drop (i + 1) := by
   have h2 := List.getElem?_eq_getElem hl
   rw [e] at h2
   rw [List.drop_eq_getElem_cons hl, Option.some.inj h2]
  rw [hd] at q2
  refine ⟨go, fun σ H => ∃ F S fp, StOk (cnOf X EX) AV F H σ S fp ∧ (∀ a o, F1 a = some o → F a = some o) ∧ SW (cnOf X EX) W AV F H fp (sFor h f (ds.drop (i + 1)) S) D, fun σ' H' hN => ⟨ds.length - (i + 1), by omega, rfl, hl, hN⟩, fun x H3 hy => ?_⟩
  obtain ⟨F3, n⟩ := yl x H3 hy
  obtain ⟨st3, ev3, fz3⟩ := sw_post_fz st2 n
  refine lg_fz st3 fz3 ?_
  unfold sFor at q2
  have q3 := q2.later ev3
  cases e4 : h (.fz d) S2 with
  | nx S4 =>
   rw [e4] at q3
   intro σ4 F4 H4 fp4 st4 ev4
   refine ⟨AV, F4, S4, fp4, st4, ?_⟩
   exact body_of (q3.later ev4) fun σ' F' H' fp' S5 st' ev q5 => ⟨F', S5, fp', st', fun a o z => ev.evo.fsub a o (ev4.evo.fsub a o (n.fk a o (k2 a o z))), q5⟩
  | exc c d S4 => rw [e4] at q3; exact q3
  | fail => rw [e4] at q3; exact q3
  | bk S => rw [e4] at q3; exact q3
  | ct S => rw [e4] at q3; exact q3
  | rt t A => rw [e4] at q3; exact q3
def iLst (fa : DS → Out EV) : DS → Out (List PyData) := fun S => (eFz fa S).bindT fun e S1 _ => match e with
 | .sv (.fz (.list ds)) => .ok ds S1 []
 | _ => .fail
def iTup (fa : DS → Out EV) : DS → Out (List PyData) := fun S => (eFz fa S).bindT fun e S1 _ => match e with
 | .sv (.fz (.tuple ds)) => .ok ds S1 []
 | _ => .fail
def iTxt (fa : DS → Out EV) : DS → Out (List PyData) := fun S => (fa S).bindT fun e S1 _ => match e with
 | .sv (.fz (.str x)) => .ok (charsL x) S1 []
 | _ => .fail
theorem di_lst {tg : Expr} (ha : DE X EX W a fa) : DI X EX W tg a (iLst fa) := by
 refine pi_of (pi_list (de_fz ha)) fun σ H Q ⟨AV, F, S, fp, st, q⟩ => ?_
 unfold iLst at q
 refine ⟨AV, F, S, fp, st, wp_mono (wp_bindT q) fun ea S1 T1 q1 F1 H1 fp1 v fe p1 v1 => ?_⟩
 have q1' := q1 F1 H1 fp1 p1.evA
 split at q1'
 ·rename_i ds
  have o : Own X.K F1 H1 (.fz (.list ds)) v fe := v1.val
  have h := own_fz o
  cases h with
  | lst g1 g2 => exact ⟨_, rfl, ⟨_, SqL.of (p1.st.fh _ _ g1)⟩, q1' F1 H1 fp1 _ (by simpa using p1) (itOk_list g1 g2)⟩
 ·exact q1'.elim
theorem di_tup {tg : Expr} (ha : DE X EX W a fa) : DI X EX W tg a (iTup fa) := by
 refine pi_of (pi_tup (de_fz ha)) fun σ H Q ⟨AV, F, S, fp, st, q⟩ => ?_
 unfold iTup at q
 refine ⟨AV, F, S, fp, st, wp_mono (wp_bindT q) fun ea S1 T1 q1 F1 H1 fp1 v fe p1 v1 => ?_⟩
 have q1' := q1 F1 H1 fp1 p1.evA
 split at q1'
 ·rename_i ds
  have o : Own X.K F1 H1 (.fz (.tuple ds)) v fe := v1.val
  have h := own_fz o
  cases h with
  | tup g1 g2 => exact ⟨_, rfl, ⟨_, SqT.of (p1.st.fh _ _ g1)⟩, q1' F1 H1 fp1 _ (by simpa using p1) (itOk_tup g1 g2)⟩
 ·exact q1'.elim
theorem di_str {tg : Expr} (ha : DE X EX W a fa) : DI X EX W tg a (iTxt fa) := by
 refine pi_of (pi_str ha) fun σ H Q ⟨AV, F, S, fp, st, q⟩ => ?_
 unfold iTxt at q
 refine ⟨AV, F, S, fp, st, wp_mono (wp_bindT q) fun ea S1 T1 q1 F1 H1 fp1 v fe p1 v1 => ?_⟩
 have q1' := q1 F1 H1 fp1 p1.evA
 split at q1'
 ·rename_i x
  have o : Own X.K F1 H1 (.fz (.str x)) v fe := v1.val
  exact ⟨x, fz_str o, q1' F1 H1 fp1 _ (by simpa using p1) itOk_str⟩
 ·exact q1'.elim
def rgOk (a b : Int) : Bool := decide (-(2 ^ 62) ≤ a) && decide (a < 2 ^ 62) && decide (-(2 ^ 62) ≤ b) && decide (b < 2 ^ 62)
theorem rgOk_ok {a b : Int} (h : rgOk a b = true) : -(2 ^ 62) ≤ a ∧ a < 2 ^ 62 ∧ -(2 ^ 62) ≤ b ∧ b < 2 ^ 62 := by
 unfold rgOk at h
 simp only [Bool.and_eq_true, decide_eq_true_eq] at h
 exact ⟨h.1.1.1, h.1.1.2, h.1.2, h.2⟩
def iRng1 (fr : DS → Out (List EV)) : DS → Out (List PyData) := fun S => (fr S).bindT fun es S1 _ => match es with
 | [.sv (.fz (.int j))] => if rgOk 0 j = true then .ok (rangeL 0 j.toNat) S1 [] else .fail
 | _ => .fail
theorem di_rng1 {tg : Expr} {p : Pos} (hg : Gl X "range") (hm : X.mg "range" = none) (ha : DA X EX W [a] fr) (hs : starEach [a] X.env = [(false, eval a X.env)] := by rfl) : DI X EX W tg (.Call (.Name "range" p) [a] [] pos) (iRng1 fr) := by
 refine pi_of (pi_range1 hg hm ha hs) fun σ H Q ⟨AV, F, S, fp, st, q⟩ => ?_
 unfold iRng1 at q
 refine ⟨AV, F, S, fp, st, wp_mono (wp_bindT q) fun es S1 T1 q1 F1 H1 fp1 vs fe p1 v1 => ?_⟩
 have q1' := q1 F1 H1 fp1 p1.evA
 split at q1'
 ·rename_i j
  split at q1'
  ·rename_i hr
   obtain ⟨v, h1, h2, _⟩ := v1.val 0 _ rfl
   have h2' : Own X.K F1 H1 (.fz (.int j)) v (fe 0) := h2
   have hl := v1.ln
   have hv : vs = [.int j] := by
    match vs, hl, h1 with
    | [w], _, h1 => simp at h1; subst h1; rw [fz_int h2']
   obtain ⟨_, _, r3, r4⟩ := rgOk_ok hr
   exact ⟨j, hv, r3, r4, q1' F1 H1 fp1 _ (by simpa using p1) itOk_range⟩
  ·exact q1'.elim
 ·exact q1'.elim
def iSeq (fa : DS → Out EV) : DS → Out (List PyData) := fun S => match eFz fa S with
 | .fail => .fail
 | .exc c d S1 => .exc c d S1
 | .ok e S1 T => match e with
  | .sv (.fz (.list ds)) => .ok ds S1 (T ++ [])
  | .sv (.fz (.tuple ds)) => .ok ds S1 (T ++ [])
  | .sv (.fz (.str x)) => .ok (charsL x) S1 (T ++ [])
  | _ => .fail
theorem di_seq {tg : Expr} (ha : DE X EX W a fa) : DI X EX W tg a (iSeq fa) := by
 refine ⟨fun pins s σ H R I ⟨AV, F, S, fp, st, q⟩ => ?_⟩
 unfold iSeq at q
 cases e : eFz fa S with
 | fail => rw [e] at q; exact q.elim
 | exc c d S1 => rw [e] at q; exact (di_lst (tg := tg) ha).run pins s σ H R I ⟨AV, F, S, fp, st, by unfold iLst; rw [e]; exact q⟩
 | ok ev S1 T =>
  rw [e] at q
  dsimp only at q
  split at q
  ·exact (di_lst (tg := tg) ha).run pins s σ H R I ⟨AV, F, S, fp, st, by unfold iLst; rw [e]; exact q⟩
  ·exact (di_tup (tg := tg) ha).run pins s σ H R I ⟨AV, F, S, fp, st, by unfold iTup; rw [e]; exact q⟩
  ·exact (di_str (tg := tg) (de_fz ha)).run pins s σ H R I ⟨AV, F, S, fp, st, by unfold iTxt; rw [e]; exact q⟩
  ·exact q.elim
end
end Y
set_option maxRecDepth 100000
set_option maxHeartbeats 4000000
namespace Y
open PySem PySem.Spec L2
def DS.kills (S : DS) : List Nat → DS
 | [] => S
 | v :: vs => (S.kills vs).kill v
def DS.rest (S2 S1 : DS) : List Nat → DS
 | [] => S2
 | v :: vs => { S2.rest S1 vs with sl := (S2.rest S1 vs).sl.set v (S1.sl.getD v none) }
theorem kills_ar {S : DS} : ∀ vs : List Nat, (S.kills vs).ar = S.ar
 | [] => rfl
 | v :: vs => kills_ar vs
theorem kills_len {S : DS} : ∀ vs : List Nat, (S.kills vs).sl.length = S.sl.length
 | [] => rfl
 | v :: vs => by unfold DS.kills DS.kill; simp [kills_len vs]
theorem kills_out {S : DS} {i : Nat} : ∀ {vs : List Nat}, i ∉ vs → (S.kills vs).sl[i]? = S.sl[i]?
 | [], _ => rfl
 | v :: vs, h => by
  have h1 : v ≠ i := fun z => h (by simp [z])
  unfold DS.kills DS.kill
  dsimp only
  rw [List.getElem?_set_ne h1]
  exact kills_out fun z => h (by simp [z])
theorem kills_in {S : DS} {i : Nat} {x : Sl} : ∀ {vs : List Nat}, i ∈ vs → (S.kills vs).sl[i]? ≠ some (some x)
 | [], h => by cases h
 | v :: vs, h => by
  unfold DS.kills DS.kill
  dsimp only
  by_cases z : v = i
  ·rw [z, List.getElem?_set]
   simp
  ·rw [List.getElem?_set_ne z]
   exact kills_in (by rcases List.mem_cons.mp h with y | y; exact absurd y.symm z; exact y)
theorem rest_ar {S2 S1 : DS} : ∀ vs : List Nat, (S2.rest S1 vs).ar = S2.ar
 | [] => rfl
 | v :: vs => rest_ar vs
theorem rest_len {S2 S1 : DS} : ∀ vs : List Nat, (S2.rest S1 vs).sl.length = S2.sl.length
 | [] => rfl
 | v :: vs => by unfold DS.rest; simp [rest_len vs]
theorem rest_out {S2 S1 : DS} {i : Nat} : ∀ {vs : List Nat}, i ∉ vs → (S2.rest S1 vs).sl[i]? = S2.sl[i]?
 | [], _ => rfl
 | v :: vs, h => by
  have h1 : v ≠ i := fun z => h (by simp [z])
  unfold DS.rest
  dsimp only
  rw [List.getElem?_set_ne h1]
  exact rest_out fun z => h (by simp [z])
theorem rest_in {S2 S1 : DS} {i : Nat} (hl : S2.sl.length = S1.sl.length) : ∀ {vs : List Nat}, i ∈ vs → (S2.rest S1 vs).sl[i]? = S1.sl[i]?
 | [], h => by cases h
 | v :: vs, h => by
  unfold DS.rest
  dsimp only
  by_cases z : v = i
  ·subst z
   by_cases hv : v < S1.sl.length
   ·rw [List.getElem?_set_self (by rw [rest_len, hl]; exact hv), List.getD_eq_getElem?_getD, List.getElem?_eq_getElem hv]
    rfl
   ·rw [List.getElem?_eq_none (by simp [rest_len, hl]; omega), List.getElem?_eq_none (by omega)]
  ·rw [List.getElem?_set_ne z]
   exact rest_in hl (by rcases List.mem_cons.mp h with y | y; exact absurd y.symm z; exact y)
theorem wipe_at {σ : L2.St} {i : Nat} : ∀ {vs : List Nat}, (wipe σ vs)[i]? = if i ∈ vs then (if i < σ.length then some none else none) else σ[i]?
 | [] => by simp [wipe]
 | v :: vs => by
  unfold wipe
  by_cases z : v = i
  ·subst z
   rw [List.getElem?_set]
   simp [wipe_length]
  ·rw [List.getElem?_set_ne z, wipe_at (vs := vs)]
   have : i ≠ v := fun y => z y.symm
   simp [this]
theorem wipe_set {σ : L2.St} {i : Nat} {x : Option V} {vs : List Nat} (h : i ∈ vs) : wipe (σ.set i x) vs = wipe σ vs := by
 apply List.ext_getElem?
 intro j
 rw [wipe_at, wipe_at]
 by_cases z : j ∈ vs
 ·simp [z]
 ·have : i ≠ j := fun y => z (by rw [← y]; exact h)
  simp only [z, if_false]
  rw [List.getElem?_set_ne this]
theorem wipe_idem {σ : L2.St} {vs : List Nat} : wipe (wipe σ vs) vs = wipe σ vs := by
 apply List.ext_getElem?
 intro j
 rw [wipe_at, wipe_at, wipe_length]
 by_cases z : j ∈ vs
 ·simp [z]
 ·simp [z]
def ownR (vs : List Nat) (r : Rt) : Bool := match r with
 | .s i => vs.contains i
 | .a _ => false
structure CT (C : Cn) (vs : List Nat) (h : PyData → DS → Option DS) (g : TG) : Prop where
 run : ∀ (AV : List V) (F H : Hp) (σ : L2.St) (S : DS) (fp : Rt → List Addr) (v : V) (d : PyData) (S' : DS) (Q : L2.St → Hp → Prop), StOk C AV F H σ S fp → Fz F v d → h d S = some S' →
  (∀ σ' fp', StOk C AV F H σ' S' fp' → wipe σ' vs = wipe σ vs → (∀ r, ownR vs r = false → fp' r = fp r ∧ S'.get r = S.get r) → (∀ r a, a ∈ fp' r → a ∈ fp r) → Q σ' H) → g v σ H Q
def cName (i : Nat) : PyData → DS → Option DS := fun d S => some (S.setSl i (.fz d))
theorem setSl_get {S : DS} {i : Nat} {t : SV} {r : Rt} (h : r ≠ .s i) : (S.setSl i t).get r = S.get r := by
 cases r with
 | s j =>
  have : i ≠ j := fun z => h (by rw [z])
  dsimp only [DS.setSl, DS.get]
  rw [List.getElem?_set_ne this]
 | a j => rfl
section
variable {C : Cn}
theorem ct_name {i : Nat} : CT C [i] (cName i) (gName i) := ⟨fun AV F H σ S fp v d S' Q st fz e k => by
 cases e
 refine k _ _ (st.setSl (own_of_fz fz) (fun _ _ _ h => by cases h) .nil) (wipe_set (by simp)) (fun r hr => ?_) fun r a ha => ?_
 ·have : r ≠ .s i := fun z => by subst z; simp [ownR] at hr
  exact ⟨updF_ne this, setSl_get this⟩
 ·by_cases z : r = .s i
  ·rw [z, updF_same] at ha; cases ha
  ·rw [updF_ne z] at ha; exact ha⟩
end
def lYes : DS → Out Bool := fun S => .ok true S []
def never : WX := fun _ _ _ _ => False
def lcGo (vs : List Nat) (h : PyData → DS → Option DS) (tt : DS → Out Bool) (fe : DS → Out EV) : List PyData → DS → List SV → Out (List SV)
 | [], S, acc => .ok acc S []
 | d :: ds, S, acc => match h d S with
  | none => .fail
  | some S1 => (tt S1).bindT fun b S2 _ => if b = true then (fe S2).bindT fun e S3 _ => match e with
    | .sv t => if acc.length < sizeLine then lcGo vs h tt fe ds (S3.kills vs) (acc ++ [t]) else .fail
    | .pk _ _ => .fail
   else lcGo vs h tt fe ds (S2.kills vs) acc
def eLc (vs : List Nat) (fi : DS → Out (List PyData)) (h : PyData → DS → Option DS) (tt : DS → Out Bool) (fe : DS → Out EV) : DS → Out EV := fun S =>
 (fi S).bindT fun ds S1 _ => match lcGo vs h tt fe ds (S1.kills vs) [] with
  | .ok ts S2 T => .ok (.sv (.lst ts)) (S2.rest S1 vs) (T.filter fun r => !ownR vs r)
  | _ => .fail
def killF (vs : List Nat) (fp : Rt → List Addr) : Rt → List Addr := fun r => if ownR vs r = true then [] else fp r
section
variable {C : Cn} {AV : List V} {F F1 H H1 : Hp} {σ : L2.St} {S S1 S2 : DS} {fp fp1 fp2 : Rt → List Addr} {T : List Rt} {vs : List Nat}
theorem killF_in {r : Rt} (h : ownR vs r = true) : killF vs fp r = [] := by unfold killF; rw [if_pos h]
theorem killF_out {r : Rt} (h : ownR vs r = false) : killF vs fp r = fp r := by unfold killF; rw [if_neg (by rw [h]; exact Bool.false_ne_true)]
theorem killF_sub {r : Rt} {a : Addr} (h : a ∈ killF vs fp r) : ownR vs r = false ∧ a ∈ fp r := by
 cases q : ownR vs r with
 | true => rw [killF_in q] at h; cases h
 | false => rw [killF_out q] at h; exact ⟨rfl, h⟩
theorem StOk.killsW (st : StOk C AV F H σ S fp) (σ' : L2.St) (hw : σ' = wipe σ vs) : StOk C AV F H σ' (S.kills vs) (killF vs fp) := by
 subst hw
 refine ⟨st.fh, fun i x hx => ?_, fun j t hj => ?_, fun r r' a h1 h2 => st.dj r r' a (killF_sub h1).2 (killF_sub h2).2, fun r => ?_, fun r a ha => st.mm r a (killF_sub ha).2, fun r a xs ha => st.mt r a xs (killF_sub ha).2, by rw [kills_len, wipe_length]; exact st.ln, by rw [kills_ar]; exact st.la⟩
 ·by_cases z : i ∈ vs
  ·exact absurd hx (kills_in z)
  ·rw [kills_out z] at hx
   obtain ⟨v, q1, q2⟩ := st.sl i x hx
   refine ⟨v, by rw [wipe_out z]; exact q1, ?_⟩
   rw [killF_out (by simp [ownR, z])]
   exact q2
 ·rw [kills_ar] at hj
  obtain ⟨v, q1, q2⟩ := st.ar j t hj
  exact ⟨v, q1, by rw [killF_out rfl]; exact q2⟩
 ·cases q : ownR vs r with
  | true => rw [killF_in q]; exact .nil
  | false => rw [killF_out q]; exact st.nd r
theorem killed_get {r : Rt} (h : ownR vs r = false) : (S.kills vs).get r = S.get r := by
 cases r with
 | s i =>
  have : i ∉ vs := by simpa [ownR] using h
  dsimp only [DS.get]
  rw [kills_out this]
 | a j =>
  dsimp only [DS.get]
  rw [kills_ar]
def restF (vs : List Nat) (fp2 fp1 : Rt → List Addr) : Rt → List Addr := fun r => if ownR vs r = true then fp1 r else fp2 r
theorem restF_in {r : Rt} (h : ownR vs r = true) : restF vs fp2 fp1 r = fp1 r := by unfold restF; rw [if_pos h]
theorem restF_out {r : Rt} (h : ownR vs r = false) : restF vs fp2 fp1 r = fp2 r := by unfold restF; rw [if_neg (by rw [h]; exact Bool.false_ne_true)]
theorem Post.block (st : StOk C AV F H σ S fp) (p : Post C AV F H (wipe σ vs) (S.kills vs) (killF vs fp) T S2 F1 H1 fp2) (k0 : ∀ r a, ownR vs r = true → a ∉ fp2 r) :
  Post C AV F H σ S fp (T.filter fun r => !ownR vs r) (S2.rest S vs) F1 H1 (restF vs fp2 fp) := by
 have ll : S2.sl.length = S.sl.length := by rw [p.st.ln, wipe_length, st.ln]
 have rgT : ∀ a, Rg T (killF vs fp) a → Rg (T.filter fun r => !ownR vs r) fp a := fun a ⟨r, h1, h2⟩ => by
  obtain ⟨q1, q2⟩ := killF_sub h2
  exact ⟨r, by simp [h1, q1], q2⟩
 have own1 : ∀ r a, ownR vs r = true → a ∈ fp r → H1 a = H a ∧ F1 a = none := fun r a hr ha => by
  obtain ⟨m1, o, m2⟩ := st.mm r a ha
  have nr : ¬ Rg T (killF vs fp) a := fun ⟨r', _, h2⟩ => by
   obtain ⟨q1, q2⟩ := killF_sub h2
   have := st.dj r r' a ha q2
   subst this
   rw [hr] at q1; cases q1
  refine ⟨(p.evo.keep a o m2 nr).trans m2.symm, ?_⟩
  cases q : F1 a with
  | none => rfl
  | some o1 =>
   rcases p.evo.fnew a o1 q m1 with z | z | ⟨xs, z⟩
   ·exact absurd z nr
   ·rw [m2] at z; cases z
   ·exact absurd z (st.mt r a xs ha)
 have cross : ∀ r r' a, ownR vs r = true → a ∈ fp r → a ∈ fp2 r' → False := fun r r' a hr h1 h2 => by
  rcases p.new r' a h2 with z | z | z
  ·obtain ⟨r'', _, h3⟩ := z
   obtain ⟨q1, q2⟩ := killF_sub h3
   have := st.dj r r'' a h1 q2
   subst this
   rw [hr] at q1; cases q1
  ·obtain ⟨_, o, m⟩ := st.mm r a h1; rw [m] at z; cases z
  ·rw [(p.same r' z).1] at h2
   obtain ⟨q1, q2⟩ := killF_sub h2
   have := st.dj r r' a h1 q2
   subst this
   rw [hr] at q1; cases q1
 refine ⟨⟨p.st.fh, fun i x hx => ?_, fun j t hj => ?_, fun r r' a h1 h2 => ?_, fun r => ?_, fun r a ha => ?_, fun r a xs ha z1 => ?_, by rw [rest_len, ll]; exact st.ln, by rw [rest_ar]; exact p.st.la⟩, p.evo.mono rgT, fun r hr => ?_, fun r a ha => ?_⟩
 ·by_cases z : i ∈ vs
  ·rw [rest_in ll z] at hx
   obtain ⟨v, q1, q2⟩ := st.sl i x hx
   have ho : ownR vs (.s i) = true := by simp [ownR, z]
   refine ⟨v, q1, ?_⟩
   rw [restF_in ho]
   cases x with
   | tr t => exact own_keep p.evo.fsub t v _ q2 fun a ha => own1 _ a ho ha
   | ar j => exact q2
   | ex c d => exact slEx_mono p.evo.fsub q2
  ·rw [rest_out z] at hx
   obtain ⟨v, q1, q2⟩ := p.st.sl i x hx
   rw [wipe_out z] at q1
   exact ⟨v, q1, by rw [restF_out (by simp [ownR, z])]; exact q2⟩
 ·rw [rest_ar] at hj
  obtain ⟨v, q1, q2⟩ := p.st.ar j t hj
  exact ⟨v, q1, by rw [restF_out rfl]; exact q2⟩
 ·cases q : ownR vs r with
  | true =>
   rw [restF_in q] at h1
   cases q' : ownR vs r' with
   | true => rw [restF_in q'] at h2; exact st.dj r r' a h1 h2
   | false => rw [restF_out q'] at h2; exact (cross r r' a q h1 h2).elim
  | false =>
   rw [restF_out q] at h1
   cases q' : ownR vs r' with
   | true => rw [restF_in q'] at h2; exact (cross r' r a q' h2 h1).elim
   | false => rw [restF_out q'] at h2; exact p.st.dj r r' a h1 h2
 ·cases q : ownR vs r with
  | true => rw [restF_in q]; exact st.nd r
  | false => rw [restF_out q]; exact p.st.nd r
 ·cases q : ownR vs r with
  | true =>
   rw [restF_in q] at ha
   obtain ⟨h1, h2⟩ := own1 r a q ha
   obtain ⟨_, o, m⟩ := st.mm r a ha
   exact ⟨h2, o, h1.trans m⟩
  | false => rw [restF_out q] at ha; exact p.st.mm r a ha
 ·cases q : ownR vs r with
  | true =>
   rw [restF_in q] at ha
   exact st.mt r a xs ha ((own1 r a q ha).1 ▸ z1)
  | false => rw [restF_out q] at ha; exact p.st.mt r a xs ha z1
 ·cases q : ownR vs r with
  | true =>
   refine ⟨restF_in q, ?_⟩
   cases r with
   | s i =>
    have z : i ∈ vs := by simpa [ownR] using q
    dsimp only [DS.get]
    rw [rest_in ll z]
   | a j => cases q
  | false =>
   have hT : r ∉ T := fun z => hr (by simp [z, q])
   obtain ⟨a1, a2⟩ := p.same r hT
   refine ⟨(restF_out q).trans (a1.trans (killF_out q)), ?_⟩
   have : (S2.rest S vs).get r = S2.get r := by
    cases r with
    | s i =>
     have z : i ∉ vs := by simpa [ownR] using q
     dsimp only [DS.get]
     rw [rest_out z]
    | a j => dsimp only [DS.get]; rw [rest_ar]
   exact this.trans (a2.trans (killed_get q))
 ·cases q : ownR vs r with
  | true => exact .inr (.inr (by simp [q]))
  | false =>
   rw [restF_out q] at ha
   rcases p.new r a ha with z | z | z
   ·exact .inl (rgT a z)
   ·exact .inr (.inl z)
   ·exact .inr (.inr (by simp [z]))
end
end Y
set_option maxRecDepth 100000
set_option maxHeartbeats 4000000
namespace Y
open PySem PySem.Spec L2
theorem ownL_app {K : PySem.W.Frag} {F H : Hp} {t : SV} {v : V} {f : List Addr} : ∀ {ts : List SV} {vs : List V} {g : List Addr}, OwnL K F H ts vs g → Own K F H t v f → OwnL K F H (ts ++ [t]) (vs ++ [v]) (g ++ f)
 | [], vs, g, h, o => by
  unfold OwnL at h
  obtain ⟨rfl, rfl⟩ := h
  show OwnL K F H [t] [v] ([] ++ f)
  unfold OwnL
  exact ⟨v, [], f, [], rfl, by simp, o, by unfold OwnL; exact ⟨rfl, rfl⟩⟩
 | x :: xs, vs, g, h, o => by
  unfold OwnL at h
  obtain ⟨w, r, f1, g1, e1, e2, e3, e4⟩ := h
  subst e1
  subst e2
  show OwnL K F H (x :: (xs ++ [t])) (w :: (r ++ [v])) ((f1 ++ g1) ++ f)
  unfold OwnL
  exact ⟨w, r ++ [v], f1, g1 ++ f, rfl, by simp, e3, ownL_app e4 o⟩
section
variable {C : Cn} {AV : List V} {F F1 H H1 : Hp} {σ : L2.St} {S S1 : DS} {fp fp1 : Rt → List Addr} {T : List Rt}
theorem Post.again {F0 H0 : Hp} {σ0 : L2.St} {S0 : DS} {fp0 : Rt → List Addr} {vs : List Nat} (p : Post C AV F0 H0 σ0 S0 fp0 T S1 F1 H1 fp1) (st : StOk C AV F1 H1 (wipe σ vs) (S1.kills vs) (killF vs fp1)) (k0 : ∀ r, ownR vs r = true → fp0 r = [] ∧ S0.get r = none) :
  Post C AV F0 H0 (wipe σ vs) S0 fp0 T (S1.kills vs) F1 H1 (killF vs fp1) := by
 refine ⟨st, p.evo, fun r hr => ?_, fun r a ha => p.new r a (killF_sub ha).2⟩
 cases q : ownR vs r with
 | true =>
  refine ⟨(killF_in q).trans (k0 r q).1.symm, ?_⟩
  rw [(k0 r q).2]
  cases r with
  | s i =>
   have z : i ∈ vs := by simpa [ownR] using q
   cases e : (S1.kills vs).get (.s i) with
   | none => rfl
   | some t => exact absurd (get_inv e) (kills_in z)
  | a j => cases q
 | false =>
  obtain ⟨a, b⟩ := p.same r hr
  exact ⟨(killF_out q).trans a, (killed_get q).trans b⟩
theorem free_keep {F0 H0 : Hp} {σ0 : L2.St} {S0 : DS} {fp0 : Rt → List Addr} (st : StOk C AV F0 H0 σ0 S0 fp0) (p : Post C AV F0 H0 σ0 S0 fp0 T S1 F1 H1 fp1) {a : Addr} {o : HO} (h : H0 a = some o) (ht : ∀ xs, H0 a ≠ some (.tup xs)) (hf : F0 a = none) (hn : ∀ r, a ∉ fp0 r) : H1 a = H0 a ∧ F1 a = none ∧ ∀ r, a ∉ fp1 r := by
 have nr : ¬ Rg T fp0 a := fun ⟨r, _, z⟩ => hn r z
 refine ⟨(p.evo.keep a o h nr).trans h.symm, ?_, fun r z => ?_⟩
 ·cases q : F1 a with
  | none => rfl
  | some o1 =>
   rcases p.evo.fnew a o1 q hf with y | y | ⟨xs, y⟩
   ·exact absurd y nr
   ·rw [h] at y; cases y
   ·exact absurd y (ht xs)
 ·rcases p.new r a z with y | y | y
  ·exact nr y
  ·rw [h] at y; cases y
  ·rw [(p.same r y).1] at z; exact hn r z
end
section
variable {X : Cx} {EX : Hp → V → Str → Option PyData → Prop} {W : WX} {elt tg iter : Expr} {ifs : List Expr} {scope : Scope} {own : List (Str × Nat)} {pos : Pos} {fi : DS → Out (List PyData)} {h : PyData → DS → Option DS} {g : TG} {tt : DS → Out Bool} {fe : DS → Out EV} {C : Cn}
theorem bind_ok {α β : Type} {o : Out α} {f : α → DS → List Rt → Out β} {y : β} {S' : DS} {T' : List Rt} (h : o.bindT f = .ok y S' T') : ∃ x S1 T1 T2, o = .ok x S1 T1 ∧ f x S1 T1 = .ok y S' T2 ∧ T' = T1 ++ T2 := by
 unfold Out.bindT at h
 cases o with
 | fail => cases h
 | exc c d S => cases h
 | ok x S1 T1 =>
  dsimp only at h
  cases e : f x S1 T1 with
  | fail => rw [e] at h; cases h
  | exc c d S => rw [e] at h; cases h
  | ok z S2 T2 => rw [e] at h; cases h; exact ⟨x, S1, T1, T2, rfl, e, rfl⟩
theorem wp_ok {α : Type} {W : WX} {AV : List V} {F H : Hp} {σ : L2.St} {fp : Rt → List Addr} {o : Out α} {P : α → DS → List Rt → Prop} {x : α} {S : DS} {T : List Rt} (e : o = .ok x S T) (h : P x S T) : Wp C W AV F H σ fp o P := by rw [e]; exact h
theorem tLc_LE {vs : List Nat} (ct : CT C vs h g) : ∀ σ H Q, LE C W (eLc vs fi h tt fe) σ H Q → tLc (LI C W fi) g (LT C never tt) (LE C never fe) vs σ H Q := by
 intro σ H Q ⟨AV, F, S, fp, st, q⟩
 unfold eLc at q
 refine ⟨AV, F, S, fp, st, wp_mono (wp_bindT q) fun ds S1 T1 q1 F1 H1 fp1 J p1 it D hD => ?_⟩
 have q1' := q1 F1 H1 fp1 p1.evA
 cases eg : lcGo vs h tt fe ds (S1.kills vs) [] with
 | fail => rw [eg] at q1'; exact q1'.elim
 | exc c d S => rw [eg] at q1'; exact q1'.elim
 | ok ts S2 T2 =>
  rw [eg] at q1'
  have st1 := p1.st
  have fD : F1 D = none := by
   cases q : F1 D with
   | none => rfl
   | some o => rw [st1.fh D o q] at hD; cases hD
  -- the list that is filled stands beside
  have nv : NewV C.K F1 H1 F1 (upd H1 D (.lst [])) (.ref D) (.lst (fzs [])) [D] := nv_lst st1.fh hD .nil
  have stD := (nv.post st1).st
  have stb : StOk C AV F1 H1 (wipe σ vs) (S1.kills vs) (killF vs fp1) := st1.killsW (wipe σ vs) rfl
  have pb0 := nv.post stb
  have k0 : ∀ r, ownR vs r = true → killF vs fp1 r = [] ∧ (S1.kills vs).get r = none := fun r hr => ⟨killF_in hr, by
   cases r with
   | s i =>
    have z : i ∈ vs := by simpa [ownR] using hr
    cases e : (S1.kills vs).get (.s i) with
    | none => rfl
    | some t => exact absurd (get_inv e) (kills_in z)
   | a j => cases hr⟩
  have nD0 : ∀ r, D ∉ killF vs fp1 r := fun r z => by
   obtain ⟨_, o, m⟩ := st1.mm r D (killF_sub z).2
   rw [m] at hD; cases hD
  refine ⟨fun i m Hc => m = ds.length - i ∧ i ≤ ds.length ∧ ∃ Fc Sc fc T0 T3 acc ws fa, Post C AV F1 H1 (wipe σ vs) (S1.kills vs) (killF vs fp1) T0 Sc Fc Hc fc ∧ (∀ r, ownR vs r = true → fc r = [] ∧ Sc.get r = none) ∧
    Hc D = some (.lst ws) ∧ Fc D = none ∧ (∀ r, D ∉ fc r) ∧ OwnL C.K Fc Hc acc ws fa ∧ fa.Nodup ∧ D ∉ fa ∧ (∀ r a, a ∈ fc r → a ∉ fa) ∧ (∀ a ∈ fa, Rg T0 (killF vs fp1) a ∨ H1 a = none) ∧
    lcGo vs h tt fe (ds.drop i) Sc acc = .ok ts S2 T3 ∧ T2 = T0 ++ T3, ⟨ds.length, rfl, Nat.zero_le _, F1, S1.kills vs, killF vs fp1, [], T2, [], [], [], pb0, k0, upd_same, fD, nD0, by unfold OwnL; exact ⟨rfl, rfl⟩, .nil, by simp, fun _ _ _ h => (by cases h), fun _ h => (by cases h), eg, rfl⟩, ?_⟩
  rintro i m Hc ⟨rfl, hil, Fc, Sc, fc, T0, T3, acc, ws, fa, pc, kc, hDc, fDc, nDc, ol, nda, nDa, dja, newa, eq, eT⟩
  obtain ⟨g1, g2⟩ := it i Fc Hc pc.evo.fsub pc.st.fh
  cases e : ds[i]? with
  | none =>
   left
   refine ⟨g2 e, ?_⟩
   have hdr : ds.drop i = [] := List.drop_eq_nil_of_le (List.getElem?_eq_none_iff.mp e)
   rw [hdr] at eq
   cases eq
   have T2e : T2 = T0 := by rw [eT]; simp
   have pb := Post.block (S := S1) st1 (T := T0) pc fun r a hr z => by rw [(kc r hr).1] at z; cases z
   have pp := p1.trans pb
   rw [T2e] at q1'
   refine q1' Fc Hc _ (.ref D) (D :: fa) pp ⟨?_, fun r a ha hm => ?_, List.nodup_cons.mpr ⟨nDa, nda⟩, fun a ha => ?_, rfl⟩
   ·show Own C.K Fc Hc (.lst ts) (.ref D) (D :: fa)
    unfold Own
    exact ⟨D, ws, fa, rfl, rfl, hDc, fDc, ol⟩
   ·cases qo : ownR vs r with
    | true =>
     rw [restF_in qo] at ha
     have hs := st1.mm r a ha
     rcases List.mem_cons.mp hm with z | z
     ·rw [z] at hs; obtain ⟨_, o, m⟩ := hs; rw [m] at hD; cases hD
     ·rcases newa a z with y | y
      ·obtain ⟨r', _, y2⟩ := y
       obtain ⟨y3, y4⟩ := killF_sub y2
       have := st1.dj r r' a ha y4
       subst this
       rw [qo] at y3; cases y3
      ·obtain ⟨_, o, m⟩ := hs; rw [m] at y; cases y
    | false =>
     rw [restF_out qo] at ha
     rcases List.mem_cons.mp hm with z | z
     ·rw [z] at ha; exact nDc r ha
     ·exact dja r a ha z
   ·rcases List.mem_cons.mp ha with z | z
    ·rw [z]
     exact .inr (p1.evo.none_back hD)
    ·rcases newa a z with y | y
     ·obtain ⟨r', y1, y2⟩ := y
      obtain ⟨y3, y4⟩ := killF_sub y2
      have := p1.rg (T2 := T0.filter fun r => !ownR vs r) ⟨r', by simp [y1, y3], y4⟩
      simpa using this
     ·exact .inr (p1.evo.none_back y)
  | some d =>
   right
   obtain ⟨hl, _⟩ := List.getElem?_eq_some_iff.mp e
   obtain ⟨go, yl⟩ := g1 d e
   have hd : ds.drop i = d :: ds.drop (i + 1) := by
    have h2 := List.getElem?_eq_getElem hl
    rw [e] at h2
    rw [List.drop_eq_getElem_cons hl, Option.some.inj h2]
   rw [hd] at eq
   unfold lcGo at eq
   cases eh : h d Sc with
   | none => rw [eh] at eq; cases eq
   | some S3 =>
    rw [eh] at eq
    dsimp only at eq
    obtain ⟨b, S4, T4, T5, et, ek, eT5⟩ := bind_ok eq
    refine ⟨go, fun H' => ∃ Fc Sc fc T0 T3 acc ws fa, Post C AV F1 H1 (wipe σ vs) (S1.kills vs) (killF vs fp1) T0 Sc Fc H' fc ∧ (∀ r, ownR vs r = true → fc r = [] ∧ Sc.get r = none) ∧
     H' D = some (.lst ws) ∧ Fc D = none ∧ (∀ r, D ∉ fc r) ∧ OwnL C.K Fc H' acc ws fa ∧ fa.Nodup ∧ D ∉ fa ∧ (∀ r a, a ∈ fc r → a ∉ fa) ∧ (∀ a ∈ fa, Rg T0 (killF vs fp1) a ∨ H1 a = none) ∧
     lcGo vs h tt fe (ds.drop (i + 1)) Sc acc = .ok ts S2 T3 ∧ T2 = T0 ++ T3, fun H' hN => ⟨ds.length - (i + 1), by omega, rfl, hl, hN⟩, fun x H3 hy => ?_⟩
    obtain ⟨F3, n3⟩ := yl x H3 hy
    have pn := n3.post pc.st
    refine ct.run AV F3 H3 (wipe σ vs) Sc fc x d S3 _ pn.st (own_fz n3.own) eh fun σ3 f3 st3 w3' same3 sub3 => ?_
    have w3 := w3'.trans wipe_idem
    refine ⟨w3.trans rfl, ?_⟩
    have p03 := pc.trans pn
    -- the post from the block's beginning, the own names beside
    have own3 : ∀ r, ownR vs r = true → f3 r = [] := fun r hr => by
     cases z : f3 r with
     | nil => rfl
     | cons a l =>
      have := sub3 r a (by rw [z]; simp)
      rw [(kc r hr).1] at this; cases this
    have keepA : ∀ {F5 H5 : Hp} {S5 : DS} {f5 : Rt → List Addr} {T5 : List Rt}, Post C AV F3 H3 σ3 S3 f3 T5 S5 F5 H5 f5 → H5 D = some (.lst ws) ∧ F5 D = none ∧ (∀ r, D ∉ f5 r) ∧ OwnL C.K F5 H5 acc ws fa ∧ ∀ r a, a ∈ f5 r → a ∉ fa := fun {F5 H5 S5 f5 T5} p5 => by
     have hD3 := free_keep pc.st pn hDc (fun xs e => by rw [hDc] at e; cases e) fDc nDc
     have nD3 : ∀ r, D ∉ f3 r := fun r z => nDc r (sub3 r D z)
     obtain ⟨a1, a2, a3⟩ := free_keep st3 p5 (o := .lst ws) (hD3.1.trans hDc) (fun xs e => by rw [hD3.1, hDc] at e; cases e) hD3.2.1 nD3
     have each : ∀ a ∈ fa, (H5 a = Hc a ∧ F5 a = none) ∧ ∀ r, a ∉ f5 r := fun a ha => by
      obtain ⟨m1, o, m2⟩ := ownL_fp acc ws fa ol a ha
      obtain ⟨b1, b2, b3⟩ := free_keep pc.st pn m2 (ownL_nt acc ws fa ol a ha) m1 fun r z => dja r a z ha
      obtain ⟨c1, c2, c3⟩ := free_keep st3 p5 (o := o) (b1.trans m2) (fun xs e => ownL_nt acc ws fa ol a ha xs (b1 ▸ e)) b2 fun r z => dja r a (sub3 r a z) ha
      exact ⟨⟨c1.trans b1, c2⟩, c3⟩
     exact ⟨a1.trans (hD3.1.trans hDc), a2, a3, ownL_keep (fun a o z => p5.evo.fsub a o (n3.fk a o z)) acc ws fa ol fun a ha => (each a ha).1, fun r a hr ha => (each a ha).2 r hr⟩
    have rg5 : ∀ (T5 : List Rt) (a : Addr), Rg T5 f3 a → Rg (T0 ++ T5) (killF vs fp1) a ∨ H1 a = none := fun T5 a ⟨r, h1, h2⟩ => pc.rg (T2 := T5) ⟨r, h1, sub3 r a h2⟩
    -- carried to the next turn
    have pnext : ∀ {F5 H5 : Hp} {S5 : DS} {f5 : Rt → List Addr} {T5 : List Rt}, Post C AV F3 H3 σ3 S3 f3 T5 S5 F5 H5 f5 → Post C AV F1 H1 (wipe σ vs) (S1.kills vs) (killF vs fp1) (T0 ++ T5) (S5.kills vs) F5 H5 (killF vs f5) := fun {F5 H5 S5 f5 T5} p5 => by
     have st5 : StOk C AV F5 H5 (wipe σ vs) (S5.kills vs) (killF vs f5) := p5.st.killsW (wipe σ vs) w3.symm
     refine ⟨st5, (p03.evo.mono fun a z => ?_).trans p5.evo (rg5 T5), fun r hr => ?_, fun r a ha => ?_⟩
     ·have : Rg (T0 ++ []) (killF vs fp1) a := z
      rw [List.append_nil] at this
      exact Rg.app.mpr (.inl this)
     ·have h0 : r ∉ T0 := fun z => hr (by simp [z])
      have h5 : r ∉ T5 := fun z => hr (by simp [z])
      cases qo : ownR vs r with
      | true =>
       refine ⟨(killF_in qo).trans (k0 r qo).1.symm, ?_⟩
       rw [(k0 r qo).2]
       cases r with
       | s j =>
        have z : j ∈ vs := by simpa [ownR] using qo
        cases e9 : (S5.kills vs).get (.s j) with
        | none => rfl
        | some t => exact absurd (get_inv e9) (kills_in z)
       | a j => cases qo
      | false =>
       obtain ⟨a1, a2⟩ := p5.same r h5
       obtain ⟨b1, b2⟩ := same3 r qo
       obtain ⟨c1, c2⟩ := pc.same r h0
       exact ⟨(killF_out qo).trans (a1.trans (b1.trans c1)), (killed_get qo).trans (a2.trans (b2.trans c2))⟩
     ·obtain ⟨qo, ha'⟩ := killF_sub ha
      rcases p5.new r a ha' with z | z | z
      ·rcases rg5 T5 a z with y | y
       ·exact .inl y
       ·exact .inr (.inl y)
      ·exact .inr (.inl (p03.evo.none_back z))
      ·have h3 : a ∈ f3 r := by rw [← (p5.same r z).1]; exact ha'
       have hc := sub3 r a h3
       rcases pc.new r a hc with y | y | y
       ·exact .inl (Rg.app.mpr (.inl y))
       ·exact .inr (.inl y)
       ·exact .inr (.inr (by simp [y, z]))
    refine ⟨AV, F3, S3, f3, st3, wp_ok et fun F4 H4 f4 p4 => ?_⟩
    cases b with
    | false =>
     rw [if_neg Bool.false_ne_true] at ek ⊢
     obtain ⟨a1, a2, a3, a4, a5⟩ := keepA p4
     refine ⟨F4, S4.kills vs, killF vs f4, T0 ++ T4, T5, acc, ws, fa, pnext p4, fun r hr => ⟨killF_in hr, ?_⟩, a1, a2, fun r z => a3 r (killF_sub z).2, a4, nda, nDa, fun r a z => a5 r a (killF_sub z).2, fun a ha => ?_, ek, by rw [eT, eT5]; simp⟩
     ·cases r with
      | s j =>
       have z : j ∈ vs := by simpa [ownR] using hr
       cases e9 : (S4.kills vs).get (.s j) with
       | none => rfl
       | some t => exact absurd (get_inv e9) (kills_in z)
      | a j => cases hr
     ·exact (newa a ha).imp (fun z => Rg.app.mpr (.inl z)) id
    | true =>
     rw [if_pos rfl] at ek ⊢
     obtain ⟨ev, S5, T6, T7, ee, ek2, eT7⟩ := bind_ok ek
     cases ev with
     | pk r p => cases ek2
     | sv t =>
      dsimp only at ek2
      split at ek2
      ·rename_i hsz
       refine ⟨AV, F4, S4, f4, p4.st, wp_ok ee fun F5 H5 f5 y fy p5 v5 => ?_⟩
       have p35 := p4.trans p5
       obtain ⟨a1, a2, a3, a4, a5⟩ := keepA p35
       obtain ⟨a1', a2', a3', a4', a5'⟩ := keepA p4
       have hlen : ws.length = acc.length := (ownL_len ol).symm
       refine ⟨ws, a1, by rw [hlen]; exact hsz, F5, S5.kills vs, killF vs f5, T0 ++ (T4 ++ T6), T7, acc ++ [t], ws ++ [y], fa ++ fy, ?_⟩
       have oy : Own C.K F5 H5 t y fy := v5.val
       -- the new item's place
       have yfree : ∀ a ∈ fy, a ∉ fa ∧ a ≠ D := fun a ha => by
        rcases v5.new a ha with z | z
        ·obtain ⟨r, _, z2⟩ := z
         refine ⟨a5' r a z2, fun q => ?_⟩
         rw [q] at z2
         exact a3' r z2
        ·refine ⟨fun q => ?_, fun q => ?_⟩
         ·obtain ⟨_, o, m⟩ := ownL_fp acc ws fa a4' a q
          rw [m] at z; cases z
         ·rw [q, a1'] at z; cases z
       have upk : ∀ a, a ≠ D → upd H5 D (.lst (ws ++ [y])) a = H5 a := fun a ha => upd_ne ha
       have pn5 := pnext p35
       -- behind the append: D alone is changed, which is no root's
       have st6 : StOk C AV F5 (upd H5 D (.lst (ws ++ [y]))) (wipe σ vs) (S5.kills vs) (killF vs f5) := by
        have s5 := pn5.st
        have kp : ∀ r a, a ∈ killF vs f5 r → upd H5 D (.lst (ws ++ [y])) a = H5 a ∧ F5 a = none := fun r a ha => ⟨upk a fun q => by rw [q] at ha; exact a3 r (killF_sub ha).2, (s5.mm r a ha).1⟩
        refine ⟨fun a o z => ?_, fun i x hx => ?_, fun j t1 hj => ?_, s5.dj, s5.nd, fun r a ha => ?_, fun r a xs ha z => s5.mt r a xs ha ((kp r a ha).1 ▸ z), s5.ln, s5.la⟩
        ·have : a ≠ D := fun q => by rw [q, a2] at z; cases z
         rw [upk a this]
         exact s5.fh a o z
        ·obtain ⟨v, q1, q2⟩ := s5.sl i x hx
         refine ⟨v, q1, ?_⟩
         cases x with
         | tr t1 => exact own_keep (fun _ _ z => z) t1 v _ q2 (kp _)
         | ar j => exact q2
         | ex c d => exact q2
        ·obtain ⟨v, q1, q2⟩ := s5.ar j t1 hj
         exact ⟨v, q1, own_keep (fun _ _ z => z) t1 v _ q2 (kp _)⟩
        ·obtain ⟨m1, o, m2⟩ := s5.mm r a ha
         exact ⟨m1, o, (kp r a ha).1.trans m2⟩
       refine ⟨⟨st6, ⟨pn5.evo.fsub, fun a o z nr => ?_, pn5.evo.fnew, fun a o z => ?_⟩, pn5.same, pn5.new⟩, fun r hr => ⟨killF_in hr, ?_⟩, upd_same, a2, fun r z => a3 r (killF_sub z).2, ?_, ?_, ?_, fun r a ha hm => ?_, fun a ha => ?_, ek2, by rw [eT, eT5, eT7]; simp⟩
       ·have hz := pn5.evo.keep a o z nr
        rw [upk a fun q => by rw [q, hD] at z; cases z]
        exact hz
       ·obtain ⟨o', z'⟩ := pn5.evo.dom a o z
        by_cases q : a = D
        ·exact ⟨_, by rw [q]; exact upd_same⟩
        ·exact ⟨o', by rw [upk a q]; exact z'⟩
       ·cases r with
        | s j =>
         have z : j ∈ vs := by simpa [ownR] using hr
         cases e9 : (S5.kills vs).get (.s j) with
         | none => rfl
         | some t => exact absurd (get_inv e9) (kills_in z)
        | a j => cases hr
       ·refine ownL_app (ownL_keep (fun _ _ z => z) acc ws fa a4 fun a ha => ⟨upk a fun q => nDa (by rw [← q]; exact ha), (ownL_fp acc ws fa a4 a ha).1⟩) (own_keep (fun _ _ z => z) t y fy oy fun a ha => ⟨upk a (yfree a ha).2, (own_fp t y fy oy a ha).1⟩)
       ·exact List.nodup_append.mpr ⟨nda, v5.nd, fun a ha b hb q => (yfree b hb).1 (by rw [← q]; exact ha)⟩
       ·intro z
        rcases List.mem_append.mp z with z | z
        ·exact nDa z
        ·exact (yfree D z).2 rfl
       ·have ha' := (killF_sub ha).2
        rcases List.mem_append.mp hm with z | z
        ·exact a5 r a ha' z
        ·exact v5.dj r a ha' z
       ·rcases List.mem_append.mp ha with z | z
        ·exact (newa a z).imp (fun q => Rg.app.mpr (.inl q)) id
        ·rcases v5.new a z with q | q
         ·rcases p4.rg q with w | w
          ·exact rg5 _ a w
          ·exact .inr (p03.evo.none_back w)
         ·exact .inr (p03.evo.none_back (p4.evo.none_back q))
      ·cases ek2
end
end Y
set_option maxRecDepth 100000
set_option maxHeartbeats 4000000
namespace Y
open PySem PySem.Spec L2
section
variable {X : Cx} {EX : Hp → V → Str → Option PyData → Prop} {W : WX} {e a b c elt tg iter : Expr} {es ifs : List Expr} {scope : Scope} {own : List (Str × Nat)} {pos spos : Pos} {fi : DS → Out (List PyData)} {h : PyData → DS → Option DS} {g : TG} {tt : DS → Out Bool} {fe fa fb : DS → Out EV} {fr : DS → Out (List EV)} {C : Cn}
theorem takes_never {X : Cx} : Takes X never := fun u s' ⟨_, _, _, _, _, _, _, _, _, _, _, _, _, _, _, _, w⟩ => w.elim
theorem lYes_LT : ∀ σ H Q, LT C W lYes σ H Q → tYes σ H Q := fun σ H Q ⟨AV, F, S, fp, st, q⟩ => q F H fp (.refl st)
theorem dts_nil {X : Cx} : PTs X [] (LT (cnOf X EX) W lYes) := ⟨fun pins s σ H Q I q => pts_nil.run pins s σ H Q I (lYes_LT (C := cnOf X EX) σ H Q q)⟩
theorem dts_one {X : Cx} {c : Expr} {t : DS → Out Bool} (h : DT X EX W c t) : PTs X [c] (LT (cnOf X EX) W t) := pts_one h
theorem de_lc (ct : CT (cnOf X EX) (own.map (·.2)) h g) (hc : X.calm = true) (hN : X.N.Nodup) (hi : DI X EX W tg iter fi) (ok : BlkOk X.N X.env.scope scope own)
  (hg : ∀ (s : Shared) (H : Hp) (C : Addr) (cl : List (Str × Addr)) (fp : List Addr), PG (X.blk s H scope (compEnvC scope cl C X.env) fp) tg g)
  (ht : ∀ (s : Shared) (H : Hp) (C : Addr) (cl : List (Str × Addr)) (fp : List Addr), PTs (X.blk s H scope (compEnvC scope cl C X.env) fp) ifs (LT (cnOf X EX) never tt))
  (he : ∀ (s : Shared) (H : Hp) (C : Addr) (cl : List (Str × Addr)) (fp : List Addr), DE (X.blk s H scope (compEnvC scope cl C X.env) fp) EX never elt fe)
  (hs : ∀ x, foldedSetIterable iter X.env x = pure x := by intro _; rfl) : DE X EX W (.ListComp elt [⟨tg, iter, ifs, 0⟩] scope pos) (eLc (own.map (·.2)) fi h tt fe) :=
 pe_of (pe_lc hc hN hi ok hg ht he hs) (tLc_LE (C := cnOf X EX) ct)
theorem ds_setLc {i : Nat} {y : Str} {py : Pos} (ct : CT (cnOf X EX) (own.map (·.2)) h g) (hc : X.calm = true) (hN : X.N.Nodup) (hy : X.N[i]? = some y) (hyl : X.env.scope.names.lookup y = some .local)
  (hsw : swapsWith (.ListComp elt [⟨tg, iter, ifs, 0⟩] scope pos) (some (.Name y py)) spos.line X.env = pure true) (hi : DI X EX W tg iter fi) (ok : BlkOk X.N X.env.scope scope own)
  (hg : ∀ (s : Shared) (H : Hp) (C : Addr) (cl : List (Str × Addr)) (fp : List Addr), PG (X.blk s H scope (compEnvC scope cl C X.env) fp) tg g)
  (ht : ∀ (s : Shared) (H : Hp) (C : Addr) (cl : List (Str × Addr)) (fp : List Addr), PTs (X.blk s H scope (compEnvC scope cl C X.env) fp) ifs (LT (cnOf X EX) never tt))
  (he : ∀ (s : Shared) (H : Hp) (C : Addr) (cl : List (Str × Addr)) (fp : List Addr), DE (X.blk s H scope (compEnvC scope cl C X.env) fp) EX never elt fe)
  (hs : ∀ x, foldedSetIterable iter X.env x = pure x := by intro _; rfl) : DSt X EX W (.Assign [.Name y py] (.ListComp elt [⟨tg, iter, ifs, 0⟩] scope pos) spos) (sAsg (eLc (own.map (·.2)) fi h tt fe) (gSet i)) := by
 refine ps_of (ps_setLc (te := LE (cnOf X EX) never fe) hc hN hy hyl hsw hi ok hg ht he hs) fun D σ H ⟨AV, F, S, fp, st, q⟩ => ?_
 have key : LE (cnOf X EX) W (eLc (own.map (·.2)) fi h tt fe) σ H fun x H1 => gName i x σ H1 D.nx := by
  refine ⟨AV, F, S, fp, st, wp_mono (sw_bind (σ := σ) q) fun e S1 T1 q1 F1 H1 fp1 v fe p1 v1 => ?_⟩
  cases e with
  | pk r p => exact q1.elim
  | sv t =>
   have ev := p1.evA
   refine q1 (σ.set i (some v)) F1 H1 _ (p1.st.setSl v1.val v1.dj v1.nd) ⟨ev.evo, fun a ⟨r, hr⟩ => ?_⟩
   by_cases z : r = .s i
   ·rw [z, updF_same] at hr; exact (v1.new a hr).imp (fun y => y.al) id
   ·rw [updF_ne z] at hr; exact ev.new a ⟨r, hr⟩
 exact tLc_LE (C := cnOf X EX) ct σ H _ key
def fzEs : List EV → Option (List PyData)
 | [] => some []
 | .sv (.fz d) :: es => match fzEs es with
  | some ds => some (d :: ds)
  | none => none
 | _ :: _ => none
def svEs : List EV → Option (List SV)
 | [] => some []
 | .sv t :: es => match svEs es with
  | some ts => some (t :: ts)
  | none => none
 | _ :: _ => none
def eTup (fr : DS → Out (List EV)) : DS → Out EV := fun S => (fr S).bindT fun es S1 _ => match fzEs es with
 | some ds => if ds.length ≤ sizeLine then .ok (.sv (.fz (.tuple ds))) S1 [] else .fail
 | none => .fail
def eLst (fr : DS → Out (List EV)) : DS → Out EV := fun S => (fr S).bindT fun es S1 _ => match svEs es with
 | some ts => if ts.length ≤ sizeLine then .ok (.sv (.lst ts)) S1 [] else .fail
 | none => .fail
theorem fzEs_all {AV : List V} {F H : Hp} {σ : L2.St} {S : DS} : ∀ {es : List EV} {vs : List V} {fe : Nat → List Addr} {ds : List PyData}, vs.length = es.length →
  (∀ (k : Nat) (e : EV), es[k]? = some e → ∃ v, vs[k]? = some v ∧ EOk C AV F H σ v e (fe k) ∧ (e.tree S).isSome = true) → fzEs es = some ds → FzAll F vs ds
 | [], [], fe, ds, _, _, e => by cases e; exact .nil
 | [], _ :: _, _, _, h, _, _ => by simp at h
 | _ :: _, [], _, _, h, _, _ => by simp at h
 | e :: es, v :: vs, fe, ds, hl, h, q => by
  cases e with
  | pk r p => cases q
  | sv t =>
   cases t with
   | fz d =>
    unfold fzEs at q
    cases e2 : fzEs es with
    | none => rw [e2] at q; cases q
    | some ds' =>
     rw [e2] at q
     cases q
     obtain ⟨v', h1, h2, _⟩ := h 0 _ rfl
     simp at h1
     subst h1
     have o : Own C.K F H (.fz d) v (fe 0) := h2
     exact .cons (own_fz o) (fzEs_all (fe := fun k => fe (k + 1)) (by simpa using hl) (fun k e' he' => by
      have := h (k + 1) e' (by simpa using he')
      simpa using this) e2)
   | ro d => cases q
   | lst l => cases q
   | dic b l => cases q
   | fd b l => cases q
   | tb _ _ => cases q
   | gone => cases q
   | nd _ => cases q
   | ob _ _ _ => cases q
theorem de_tup {k : Nat} (ha : DA X EX W es fr) : DE X EX W (.Tuple es k pos) (eTup fr) := by
 refine pe_of (pe_tup ha) fun σ H Q ⟨AV, F, S, fp, st, q⟩ => ?_
 unfold eTup at q
 refine ⟨AV, F, S, fp, st, wp_mono (wp_bindT q) fun es S1 T1 q1 F1 H1 fp1 vs fe p1 v1 => ?_⟩
 have q1' := q1 F1 H1 fp1 p1.evA
 cases e1 : fzEs es with
 | none => rw [e1] at q1'; exact q1'.elim
 | some ds =>
  rw [e1] at q1'
  dsimp only at q1'
  split at q1'
  ·rename_i hl
   have fz := fzEs_all v1.ln v1.val e1
   refine ⟨by rw [fzAll_len fz]; exact hl, fun p hp => ?_⟩
   have n := nv_tup (K := X.K) p1.st.fh hp fz
   have v3 := n.vp (C := cnOf X EX) p1.st
   exact q1' _ _ fp1 _ _ (p1.trans (n.post p1.st)) ⟨v3.val, v3.dj, v3.nd, fun a ha => .inr (p1.evo.none_back (n.new a ha)), v3.tr⟩
  ·exact q1'.elim
def flatF (g : Nat → List Addr) : Nat → List Addr
 | 0 => []
 | n + 1 => g 0 ++ flatF (fun k => g (k + 1)) n
theorem flatF_mem {a : Addr} : ∀ {n : Nat} {g : Nat → List Addr}, a ∈ flatF g n → ∃ k, k < n ∧ a ∈ g k
 | 0, g, h => by cases h
 | n + 1, g, h => by
  rcases List.mem_append.mp h with h | h
  ·exact ⟨0, Nat.succ_pos _, h⟩
  ·obtain ⟨k, h1, h2⟩ := flatF_mem h
   exact ⟨k + 1, Nat.succ_lt_succ h1, h2⟩
theorem flatF_nd : ∀ {n : Nat} {g : Nat → List Addr}, (∀ k, (g k).Nodup) → (∀ j k a, a ∈ g j → a ∈ g k → j = k) → (flatF g n).Nodup
 | 0, g, _, _ => .nil
 | n + 1, g, h1, h2 => List.nodup_append.mpr ⟨h1 0, flatF_nd (fun k => h1 (k + 1)) fun j k a x y => by have := h2 _ _ a x y; omega, fun a ha b hb e => by
   subst e
   obtain ⟨k, _, hk⟩ := flatF_mem hb
   have := h2 0 (k + 1) a ha hk
   omega⟩
theorem svEs_all {AV : List V} {F H : Hp} {σ : L2.St} {S : DS} : ∀ {es : List EV} {vs : List V} {fe : Nat → List Addr} {ts : List SV}, vs.length = es.length →
  (∀ (k : Nat) (e : EV), es[k]? = some e → ∃ v, vs[k]? = some v ∧ EOk C AV F H σ v e (fe k) ∧ (e.tree S).isSome = true) → svEs es = some ts → OwnL C.K F H ts vs (flatF fe es.length)
 | [], [], fe, ts, _, _, e => by cases e; unfold OwnL; exact ⟨rfl, rfl⟩
 | [], _ :: _, _, _, h, _, _ => by simp at h
 | _ :: _, [], _, _, h, _, _ => by simp at h
 | e :: es, v :: vs, fe, ts, hl, h, q => by
  cases e with
  | pk r p => cases q
  | sv t =>
   unfold svEs at q
   cases e2 : svEs es with
   | none => rw [e2] at q; cases q
   | some ts' =>
    rw [e2] at q
    cases q
    obtain ⟨v', h1, h2, _⟩ := h 0 _ rfl
    simp at h1
    subst h1
    unfold OwnL
    exact ⟨v, vs, fe 0, flatF (fun k => fe (k + 1)) es.length, rfl, rfl, h2, svEs_all (fe := fun k => fe (k + 1)) (by simpa using hl) (fun k e' he' => by
     have := h (k + 1) e' (by simpa using he')
     simpa using this) e2⟩
theorem de_lst (ha : DA X EX W es fr) : DE X EX W (.List es pos) (eLst fr) := by
 refine pe_of (pe_lst ha) fun σ H Q ⟨AV, F, S, fp, st, q⟩ => ?_
 unfold eLst at q
 refine ⟨AV, F, S, fp, st, wp_mono (wp_bindT q) fun es S1 T1 q1 F1 H1 fp1 vs fe p1 v1 => ?_⟩
 have q1' := q1 F1 H1 fp1 p1.evA
 cases e1 : svEs es with
 | none => rw [e1] at q1'; exact q1'.elim
 | some ts =>
  rw [e1] at q1'
  dsimp only at q1'
  split at q1'
  ·rename_i hl
   have ol := svEs_all v1.ln v1.val e1
   refine ⟨by rw [← ownL_len ol]; exact hl, fun p hp => ?_⟩
   have fp0 : F1 p = none := by
    cases z : F1 p with
    | none => rfl
    | some o => rw [p1.st.fh p o z] at hp; cases hp
   have n := nv_lst (K := X.K) (F := F1) (vs := vs) (ds := []) p1.st.fh hp
   have keep : ∀ a o, H1 a = some o → upd H1 p (.lst vs) a = some o := fun a o z => upd_keep hp z
   have same : ∀ a o, H1 a = some o → upd H1 p (.lst vs) a = H1 a := fun a o z => (keep a o z).trans z.symm
   have st3 : StOk (cnOf X EX) AV F1 (upd H1 p (.lst vs)) σ S1 fp1 := by
    have s1 := p1.st
    have kp : ∀ r a, a ∈ fp1 r → upd H1 p (.lst vs) a = H1 a ∧ F1 a = none := fun r a ha => by
     obtain ⟨m1, o, m2⟩ := s1.mm r a ha
     exact ⟨same a o m2, m1⟩
    refine ⟨fun a o z => keep a o (s1.fh a o z), fun i x hx => ?_, fun j t1 hj => ?_, s1.dj, s1.nd, fun r a ha => ?_, fun r a xs ha z => s1.mt r a xs ha ((kp r a ha).1 ▸ z), s1.ln, s1.la⟩
    ·obtain ⟨v, q1, q2⟩ := s1.sl i x hx
     refine ⟨v, q1, ?_⟩
     cases x with
     | tr t1 => exact own_keep (fun _ _ z => z) t1 v _ q2 (kp _)
     | ar j => exact q2
     | ex c d => exact q2
    ·obtain ⟨v, q1, q2⟩ := s1.ar j t1 hj
     exact ⟨v, q1, own_keep (fun _ _ z => z) t1 v _ q2 (kp _)⟩
    ·obtain ⟨m1, o, m2⟩ := s1.mm r a ha
     exact ⟨m1, o, keep a o m2⟩
   have p3 : Post (cnOf X EX) AV F1 H1 σ S1 fp1 [] S1 F1 (upd H1 p (.lst vs)) fp1 := ⟨st3, ⟨fun _ _ z => z, fun a o z _ => keep a o z, fun a o z z' => (by rw [z] at z'; cases z'), fun a o z => ⟨o, keep a o z⟩⟩, fun _ _ => ⟨rfl, rfl⟩, fun _ _ _ => .inr (.inr (by simp))⟩
   have memH : ∀ a ∈ flatF fe es.length, ∃ o, H1 a = some o := fun a ha => (ownL_fp ts vs _ ol a ha).2
   refine q1' F1 _ fp1 (.ref p) (p :: flatF fe es.length) (p1.trans p3) ⟨?_, fun r a ha hm => ?_, List.nodup_cons.mpr ⟨fun z => ?_, flatF_nd v1.nd v1.dd⟩, fun a ha => ?_, rfl⟩
   ·show Own X.K F1 _ (.lst ts) (.ref p) _
    unfold Own
    exact ⟨p, vs, _, rfl, rfl, upd_same, fp0, ownL_keep (fun _ _ z => z) ts vs _ ol fun a ha => by
     obtain ⟨o, ho⟩ := memH a ha
     exact ⟨same a o ho, (ownL_fp ts vs _ ol a ha).1⟩⟩
   ·rcases List.mem_cons.mp hm with z | z
    ·obtain ⟨_, o, m⟩ := p1.st.mm r a ha
     rw [z] at m; rw [m] at hp; cases hp
    ·obtain ⟨k, _, hk⟩ := flatF_mem z
     exact v1.dj r a k ha hk
   ·obtain ⟨o, ho⟩ := memH p z
    rw [ho] at hp; cases hp
   ·rcases List.mem_cons.mp ha with z | z
    ·rw [z]; exact .inr (p1.evo.none_back hp)
    ·obtain ⟨k, _, hk⟩ := flatF_mem z
     have := v1.new k a hk
     simpa using this
  ·exact q1'.elim
theorem de_fn {x : Str} {p : Pos} {k : Nat} {f : Addr} {fd : FuncData} {ps : List Str} {m : List SV → FOut} (Fn : FnOk X.prog X.w X.K X.mg X.base (L2.CX X.prog X.w) k f fd ps (spOf X.K X.mg m)) (hr : Room k X.A) (hg : Gl X x) (hm : X.mg x = some (.ref f)) (hk : PySem.W.keepIn X.K (.ref f) = true) (hb : Binds X.K fd ps [])
  (tk : Takes X W) (ha : DA X EX W (e :: es) fr) (hdb : (x == ("__debug__" : Str)) = false := by decide)
  (he : starEach (e :: es) X.env = (false, eval e X.env) :: starEach es X.env := by rfl) (hpl : (backTo pos (starEach es X.env)).any (·.1) = false := by rfl) : DE X EX W (.Call (.Name x p) (e :: es) [] pos) (eFn m fr) :=
 pe_of (pe_callS Fn hr hg hm hk hb (fun σ => passAt tk σ) ha hdb he hpl) (tCall_LE (C := cnOf X EX))
theorem ds_raise {x m : Str} {j : Nat} {p p2 pos2 : Pos} {Cl : Addr} {bmB : List Value} {B newId initId : String} (hc : X.calm = true) (tk : Takes X W) (F : ExcBaseFacts B newId initId bmB) (q : PySem.W.excIn X.K Cl bmB newId = true) (gC : X.mg x = some (.ref Cl)) (kC : PySem.W.keepIn X.K (.ref Cl) = true) (r : Raises X (.ref Cl)) (hg : Gl X x) (hdb : (x == ("__debug__" : Str)) = false := by decide) :
  DSt X EX W (.Raise (some (.Call (.Name x p) [.Constant (.str m) j p2] [] pos)) none pos2) (fun S => .exc x none S) :=
 ps_of (ps_raise hc tk (pmk_own F q gC kC r hg hdb)) fun D σ H ⟨AV, F, S, fp, st, q⟩ => q σ F H fp (.ref Cl) none st .refl ⟨gC, rfl⟩
end
end Y
set_option maxRecDepth 100000
set_option maxHeartbeats 4000000
namespace Y
open PySem PySem.Spec L2
section
variable {X : Cx} {K : PySem.W.Frag} {F H : Hp} {ts : List SV} {xs : List V}
theorem cg_of {f : Value} {r : List V → Hp → VK → Prop} {g : List SV → Option SV} (h : CallR X f r)
  (k : ∀ F ts z xs H Q, (∀ a o, F a = some o → H a = some o) → OwnA X.K F H ts xs → g ts = some z → (∀ F' H' v fe, NewV X.K F H F' H' v z fe → Q v H') → r xs H Q) : CallR X f (cG X.K g) :=
 fun pins s σ H xs us Q I r ⟨F, ts, z, fh, oa, e, q⟩ => h pins s σ H xs us Q I r (k F ts z xs H Q fh oa e q)
theorem ownA_1 {t : SV} (h : OwnA K F H [t] xs) : ∃ x f, xs = [x] ∧ Own K F H t x f := by
 cases h with
 | cons a b => cases b; exact ⟨_, _, rfl, a⟩
theorem ownA_2 {t u : SV} (h : OwnA K F H [t, u] xs) : ∃ x y f g, xs = [x, y] ∧ Own K F H t x f ∧ Own K F H u y g := by
 cases h with
 | cons a b =>
  obtain ⟨y, g, rfl, c⟩ := ownA_1 b
  exact ⟨_, _, _, _, rfl, a, c⟩
def allScal : List PyData → Bool
 | [] => true
 | d :: ds => isScal d && allScal ds
theorem dpAll_scal : ∀ {ds : List PyData} {vs : List V}, DpAll K F vs ds → allScal ds = true → FzAll F vs ds
 | [], _, h, _ => by cases h; exact .nil
 | d :: ds, _, h, e => by
  cases h with
  | cons a b =>
   unfold allScal at e
   rw [Bool.and_eq_true] at e
   exact .cons (dp_scal a e.1) (dpAll_scal b e.2)
def SV.seqL : SV → Option (List PyData)
 | .fz (.list ds) => some ds
 | .ro (.list ds) => if allScal ds = true then some ds else none
 | .lst xs => allFz xs
 | _ => none
theorem own_seqL (fh : ∀ a o, F a = some o → H a = some o) {t : SV} {v : V} {fp : List Addr} {ds : List PyData} (h : Own K F H t v fp) (e : t.seqL = some ds) : ∃ a vs, v = .ref a ∧ SqL K H a vs ∧ FzAll F vs ds := by
 cases t with
 | fz d =>
  cases d with
  | list es => cases e; cases own_fz h with
   | lst a b => exact ⟨_, _, rfl, .inl (.inl (fh _ _ a)), b⟩
  | _ => cases e
 | ro d =>
  cases d with
  | list es =>
   unfold SV.seqL at e
   dsimp only at e
   split at e
   ·rename_i hs
    cases e
    unfold Own at h
    cases h.1 with
    | lst a b =>
     refine ⟨_, _, rfl, ?_, dpAll_scal b hs⟩
     rcases a with a | a
     ·rcases a with a | ⟨o, a⟩
      ·exact .inl (.inl (fh _ _ a))
      ·exact .inl (.inr ⟨o, fh _ _ a⟩)
     ·exact .inr a
   ·cases e
  | _ => cases e
 | lst xs =>
  have e' : allFz xs = some ds := e
  obtain ⟨a, vs, rfl, h1, h2⟩ := own_lis fh h (show SV.lis (.lst xs) = some ds from e')
  exact ⟨a, vs, rfl, (.inl (.inl h1)), h2⟩
 | dic b kvs => cases e
 | fd b kvs => cases e
 | tb _ _ => cases e
 | gone => cases e
 | nd _ => cases e
 | ob _ _ _ => cases e
def intsOf : List PyData → Option (List Int)
 | [] => some []
 | .int i :: ds => match intsOf ds with
  | some ns => some (i :: ns)
  | none => none
 | _ :: _ => none
def boolsOf : List PyData → Option (List Bool)
 | [] => some []
 | .bool i :: ds => match boolsOf ds with
  | some ns => some (i :: ns)
  | none => none
 | _ :: _ => none
theorem intsOf_eq : ∀ {ds : List PyData} {ns : List Int}, intsOf ds = some ns → ds = ns.map .int
 | [], _, h => by cases h; rfl
 | d :: ds, ns, h => by
  cases d with
  | int i =>
   unfold intsOf at h
   cases e : intsOf ds with
   | none => rw [e] at h; cases h
   | some ms => rw [e] at h; cases h; rw [intsOf_eq e]; rfl
  | _ => cases h
theorem boolsOf_eq : ∀ {ds : List PyData} {ns : List Bool}, boolsOf ds = some ns → ds = ns.map .bool
 | [], _, h => by cases h; rfl
 | d :: ds, ns, h => by
  cases d with
  | bool i =>
   unfold boolsOf at h
   cases e : boolsOf ds with
   | none => rw [e] at h; cases h
   | some ms => rw [e] at h; cases h; rw [boolsOf_eq e]; rfl
  | _ => cases h
theorem fzAll_int : ∀ {ns : List Int} {vs : List V}, FzAll F vs (ns.map .int) → vs = ns.map V.int
 | [], _, h => by cases h; rfl
 | n :: ns, _, h => by
  cases h with
  | cons a b => cases a; rw [fzAll_int b]; rfl
theorem fzAll_bool : ∀ {ns : List Bool} {vs : List V}, FzAll F vs (ns.map .bool) → vs = ns.map V.bl
 | [], _, h => by cases h; rfl
 | n :: ns, _, h => by
  cases h with
  | cons a b => cases a; rw [fzAll_bool b]; rfl
def SV.len : SV → Option Nat
 | .fz (.str x) => if x.length ≤ sizeLine then some x.length else none
 | .fz (.list ds) => some ds.length
 | .fz (.tuple ds) => some ds.length
 | .ro (.list ds) => some ds.length
 | .ro (.tuple ds) => some ds.length
 | .lst xs => some xs.length
 | .dic _ kvs => some kvs.length
 | _ => none
def gLen : List SV → Option SV
 | [t] => match t.len with
  | some n => some (.fz (.int n))
  | none => none
 | _ => none
theorem sqL_fh (fh : ∀ a o, F a = some o → H a = some o) {a : Addr} {vs : List V} (h : SqL K F a vs) : SqL K H a vs := by
 rcases h with (h | ⟨o, h⟩) | h
 ·exact .inl (.inl (fh _ _ h))
 ·exact .inl (.inr ⟨o, fh _ _ h⟩)
 ·exact .inr h
theorem sqT_fh (fh : ∀ a o, F a = some o → H a = some o) {a : Addr} {vs : List V} (h : SqT K F a vs) : SqT K H a vs := by
 rcases h with (h | ⟨o, h⟩) | h
 ·exact .inl (.inl (fh _ _ h))
 ·exact .inl (.inr ⟨o, fh _ _ h⟩)
 ·exact .inr h
theorem lenV_of (fh : ∀ a o, F a = some o → H a = some o) {t : SV} {v : V} {fp : List Addr} {n : Nat} (h : Own K F H t v fp) (e : t.len = some n) : LenV K v H n ∨ ∃ b kvs, t = .dic b kvs ∧ n = kvs.length := by
 cases t with
 | fz d =>
  have z := own_fz h
  cases d with
  | str x =>
   unfold SV.len at e
   dsimp only at e
   split at e
   ·cases e; cases z; exact .inl ⟨by assumption, rfl⟩
   ·cases e
  | list ds => cases e; cases z with
   | lst a b => exact .inl (.inl ⟨_, .inl (.inl (fh _ _ a)), (fzAll_len b).symm⟩)
  | tuple ds => cases e; cases z with
   | tup a b => exact .inl (.inr ⟨_, .inl (.inl (fh _ _ a)), (fzAll_len b).symm⟩)
  | _ => cases e
 | ro d =>
  unfold Own at h
  have z := h.1
  cases d with
  | list ds => cases e; cases z with
   | lst a b => exact .inl (.inl ⟨_, sqL_fh fh a, (dpAll_len b).symm⟩)
  | tuple ds => cases e; cases z with
   | tup a b => exact .inl (.inr ⟨_, sqT_fh fh a, (dpAll_len b).symm⟩)
  | _ => cases e
 | lst xs =>
  cases e
  unfold Own at h
  obtain ⟨a, vs, fq, rfl, _, h1, _, h2⟩ := h
  exact .inl (.inl ⟨vs, (.inl (.inl h1)), ownL_len h2⟩)
 | dic b kvs => cases e; exact .inr ⟨b, kvs, rfl, rfl⟩
 | fd b kvs => cases e
 | tb _ _ => cases e
 | gone => cases e
 | nd _ => cases e
 | ob _ _ _ => cases e
theorem cb_len : CallR X (.builtin "len") (cG X.K gLen) := by
 intro pins s σ H xs us Q I r ⟨F, ts, z, fh, oa, e, q⟩
 match ts, e with
 | [t], e =>
  obtain ⟨x, f, rfl, o⟩ := ownA_1 oa
  unfold gLen at e
  dsimp only at e
  cases e1 : t.len with
  | none => rw [e1] at e; cases e
  | some n =>
   rw [e1] at e
   cases e
   have fin := q F H _ [] (nv_fz fh (.int n))
   rcases lenV_of fh o e1 with h | ⟨b, kvs, rfl, rfl⟩
   ·exact call_len pins s σ H _ us Q I r ⟨x, n, rfl, h, fin⟩
   ·unfold Own at o
    obtain ⟨a, us', fq, rfl, _, _, _, ⟨rfl, ws, h1, h2, _⟩ | ⟨rfl, ws, h1, h2, _⟩⟩ := o
    ·refine call_lenD pins s σ H _ us Q I r ⟨a, ws, rfl, h1, ?_⟩
     have := congrArg List.length h2
     rw [List.length_map, List.length_map] at this
     rw [this]; exact fin
    ·refine call_len_dT pins s σ H _ us Q I r ⟨a, ws, rfl, h1, ?_⟩
     have := congrArg List.length h2
     rw [List.length_map, List.length_map] at this
     rw [this]; exact fin
 | [], e => cases e
 | _ :: _ :: _, e => cases e
def gI1 (f : Int → Int) : List SV → Option SV
 | [.fz (.int i)] => some (.fz (.int (f i)))
 | _ => none
theorem gI1_inv {f : Int → Int} {ts : List SV} {z : SV} (e : gI1 f ts = some z) : ∃ i, ts = [.fz (.int i)] ∧ z = .fz (.int (f i)) := by
 unfold gI1 at e
 split at e
 ·cases e; exact ⟨_, rfl, rfl⟩
 ·cases e
def gAbs := gI1 fun i => if i < 0 then -i else i
theorem cb_abs : CallR X (.builtin "abs") (cG X.K gAbs) := cg_of call_abs fun F ts z xs H Q fh oa e q => by
 obtain ⟨i, rfl, rfl⟩ := gI1_inv e
 obtain ⟨x, f, rfl, o⟩ := ownA_1 oa
 exact ⟨i, by rw [fz_int o], q F H _ [] (nv_fz fh (.int _))⟩
def foldI (f : Int → Int → Int) : List Int → Option Int
 | [] => none
 | n :: ns => some (ns.foldl f n)
def iMin (i j : Int) : Int := if j < i then j else i
def iMax (i j : Int) : Int := if j > i then j else i
theorem foldMin_le : ∀ (ns : List Int) (n m : Int), ns.foldl iMin n = m → m ≤ n ∧ (∀ y ∈ ns, m ≤ y) ∧ (m = n ∨ m ∈ ns)
 | [], n, m, h => by cases h; exact ⟨Int.le_refl _, fun _ h => absurd h (by simp), .inl rfl⟩
 | k :: ns, n, m, h => by
  obtain ⟨a, b, c⟩ := foldMin_le ns (iMin n k) m h
  have h1 : iMin n k ≤ n ∧ iMin n k ≤ k ∧ (iMin n k = n ∨ iMin n k = k) := by unfold iMin; split <;> omega
  refine ⟨by omega, fun y hy => ?_, ?_⟩
  ·rcases List.mem_cons.mp hy with rfl | hy
   ·omega
   ·exact b y hy
  ·rcases c with c | c
   ·rcases h1.2.2 with d | d
    ·exact .inl (c.trans d)
    ·exact .inr (by rw [c, d]; exact List.mem_cons_self)
   ·exact .inr (List.mem_cons_of_mem _ c)
theorem foldMax_le : ∀ (ns : List Int) (n m : Int), ns.foldl iMax n = m → n ≤ m ∧ (∀ y ∈ ns, y ≤ m) ∧ (m = n ∨ m ∈ ns)
 | [], n, m, h => by cases h; exact ⟨Int.le_refl _, fun _ h => absurd h (by simp), .inl rfl⟩
 | k :: ns, n, m, h => by
  obtain ⟨a, b, c⟩ := foldMax_le ns (iMax n k) m h
  have h1 : n ≤ iMax n k ∧ k ≤ iMax n k ∧ (iMax n k = n ∨ iMax n k = k) := by unfold iMax; split <;> omega
  refine ⟨by omega, fun y hy => ?_, ?_⟩
  ·rcases List.mem_cons.mp hy with rfl | hy
   ·omega
   ·exact b y hy
  ·rcases c with c | c
   ·rcases h1.2.2 with d | d
    ·exact .inl (c.trans d)
    ·exact .inr (by rw [c, d]; exact List.mem_cons_self)
   ·exact .inr (List.mem_cons_of_mem _ c)
def gOn (f : Int → Int → Int) : List SV → Option SV
 | [.fz (.int i), .fz (.int j)] => some (.fz (.int (f i j)))
 | [t] => match t.seqL with
  | some ds => match intsOf ds with
   | some ns => match foldI f ns with
    | some m => some (.fz (.int m))
    | none => none
   | none => none
  | none => none
 | _ => none
theorem gOn_inv {f : Int → Int → Int} {ts : List SV} {z : SV} (e : gOn f ts = some z) :
  (∃ i j, ts = [.fz (.int i), .fz (.int j)] ∧ z = .fz (.int (f i j))) ∨ ∃ t n ns, ts = [t] ∧ t.seqL = some ((n :: ns).map .int) ∧ z = .fz (.int (ns.foldl f n)) := by
 unfold gOn at e
 split at e
 ·cases e; exact .inl ⟨_, _, rfl, rfl⟩
 ·rename_i t
  split at e
  ·rename_i ds e1
   split at e
   ·rename_i ns e2
    cases ns with
    | nil => cases e
    | cons n ns => cases e; exact .inr ⟨t, n, ns, rfl, by rw [e1, intsOf_eq e2], rfl⟩
   ·cases e
  ·cases e
 ·cases e
def gMin := gOn iMin
def gMax := gOn iMax
theorem cb_min (hc : X.calm = true) : CallR X (.builtin "min") (cG X.K gMin) := by
 intro pins s σ H xs us Q I r ⟨F, ts, z, fh, oa, e, q⟩
 rcases gOn_inv e with ⟨i, j, rfl, rfl⟩ | ⟨t, n, ns, rfl, e1, rfl⟩
 ·obtain ⟨x, y, f, g, rfl, o1, o2⟩ := ownA_2 oa
  exact call_min2 hc pins s σ H _ us Q I r ⟨i, j, by rw [fz_int o1, fz_int o2], q F H _ [] (nv_fz fh (.int _))⟩
 ·obtain ⟨x, f, rfl, o⟩ := ownA_1 oa
  obtain ⟨a, vs, rfl, h1, h2⟩ := own_seqL fh o e1
  rw [fzAll_int h2] at h1
  obtain ⟨m1, m2, m3⟩ := foldMin_le ns n _ rfl
  refine cr_min hc pins s σ H _ us Q I r ⟨a, n :: ns, rfl, h1, by simp, fun m hm hl => ?_⟩
  have : m = ns.foldl iMin n := by
   have a1 : m ≤ ns.foldl iMin n := hl _ (by rcases m3 with h | h; exact List.mem_cons.mpr (.inl h); exact List.mem_cons_of_mem _ h)
   have a2 : ns.foldl iMin n ≤ m := by rcases List.mem_cons.mp hm with h | h; exact h ▸ m1; exact m2 m h
   omega
  rw [this]
  exact q F H _ [] (nv_fz fh (.int _))
theorem cb_max (hc : X.calm = true) : CallR X (.builtin "max") (cG X.K gMax) := by
 intro pins s σ H xs us Q I r ⟨F, ts, z, fh, oa, e, q⟩
 rcases gOn_inv e with ⟨i, j, rfl, rfl⟩ | ⟨t, n, ns, rfl, e1, rfl⟩
 ·obtain ⟨x, y, f, g, rfl, o1, o2⟩ := ownA_2 oa
  exact call_max2 hc pins s σ H _ us Q I r ⟨i, j, by rw [fz_int o1, fz_int o2], q F H _ [] (nv_fz fh (.int _))⟩
 ·obtain ⟨x, f, rfl, o⟩ := ownA_1 oa
  obtain ⟨a, vs, rfl, h1, h2⟩ := own_seqL fh o e1
  rw [fzAll_int h2] at h1
  obtain ⟨m1, m2, m3⟩ := foldMax_le ns n _ rfl
  refine cr_max hc pins s σ H _ us Q I r ⟨a, n :: ns, rfl, h1, by simp, fun m hm hl => ?_⟩
  have : m = ns.foldl iMax n := by
   have a1 : ns.foldl iMax n ≤ m := hl _ (by rcases m3 with h | h; exact List.mem_cons.mpr (.inl h); exact List.mem_cons_of_mem _ h)
   have a2 : m ≤ ns.foldl iMax n := by rcases List.mem_cons.mp hm with h | h; exact h ▸ m1; exact m2 m h
   omega
  rw [this]
  exact q F H _ [] (nv_fz fh (.int _))
def gBs (f : List Bool → Bool) : List SV → Option SV
 | [t] => match t.seqL with
  | some ds => match boolsOf ds with
   | some ns => some (.fz (.bool (f ns)))
   | none => none
  | none => none
 | _ => none
theorem gBs_inv {f : List Bool → Bool} {ts : List SV} {z : SV} (fh : ∀ a o, F a = some o → H a = some o) (oa : OwnA K F H ts xs) (e : gBs f ts = some z) : ∃ a ns, xs = [.ref a] ∧ SqL K H a (ns.map V.bl) ∧ z = .fz (.bool (f ns)) := by
 unfold gBs at e
 split at e
 ·rename_i t
  split at e
  ·rename_i ds e1
   split at e
   ·rename_i ns e2
    cases e
    obtain ⟨x, f, rfl, o⟩ := ownA_1 oa
    obtain ⟨a, vs, rfl, h1, h2⟩ := own_seqL fh o e1
    rw [boolsOf_eq e2] at h2
    rw [fzAll_bool h2] at h1
    exact ⟨a, ns, rfl, h1, rfl⟩
   ·cases e
  ·cases e
 ·cases e
def gAll := gBs fun bs => bs.all id
theorem cb_all (hc : X.calm = true) : CallR X (.builtin "all") (cG X.K gAll) := cg_of (cr_all hc) fun F ts z xs H Q fh oa e q => by
 obtain ⟨a, ns, rfl, h1, rfl⟩ := gBs_inv fh oa e
 exact ⟨a, ns, rfl, h1, q F H _ [] (nv_fz fh (.bl _))⟩
def gIntF : List SV → Option SV
 | [.fz (.int i)] => some (.fz (.int i))
 | [.fz (.bool k)] => some (.fz (.int (if k then 1 else 0)))
 | [.fz (.str x)] => match PySem.intText? x with
  | some n => if x.length ≤ 640 then some (.fz (.int n)) else none
  | none => none
 | _ => none
theorem ct_int : CallR X (.type "int") (cG X.K gIntF) := by
 intro pins s σ H xs us Q I r ⟨F, ts, z, fh, oa, e, q⟩
 unfold gIntF at e
 split at e
 ·cases e
  obtain ⟨x, f, rfl, o⟩ := ownA_1 oa
  exact call_int1 pins s σ H _ us Q I r (.inl ⟨_, by rw [fz_int o], q F H _ [] (nv_fz fh (.int _))⟩)
 ·cases e
  obtain ⟨x, f, rfl, o⟩ := ownA_1 oa
  exact call_int1 pins s σ H _ us Q I r (.inr ⟨_, by rw [fz_bl o], q F H _ [] (nv_fz fh (.int _))⟩)
 ·split at e
  ·split at e
   ·cases e
    obtain ⟨x, f, rfl, o⟩ := ownA_1 oa
    exact call_int_str pins s σ H _ us Q I r ⟨_, _, by rw [fz_str o], by assumption, by assumption, q F H _ [] (nv_fz fh (.int _))⟩
   ·cases e
  ·cases e
 ·cases e
def gStrF : List SV → Option SV
 | [.fz (.int i)] => if i.natAbs.log2 < 1920 then some (.fz (.str (toString i))) else none
 | [.fz (.str x)] => some (.fz (.str x))
 | _ => none
theorem ct_str : CallR X (.type "str") (cG X.K gStrF) := by
 intro pins s σ H xs us Q I r ⟨F, ts, z, fh, oa, e, q⟩
 unfold gStrF at e
 split at e
 ·split at e
  ·cases e
   obtain ⟨x, f, rfl, o⟩ := ownA_1 oa
   exact call_str_int pins s σ H _ us Q I r ⟨_, by rw [fz_int o], by assumption, q F H _ [] (nv_fz fh (.str _))⟩
  ·cases e
 ·cases e
  obtain ⟨x, f, rfl, o⟩ := ownA_1 oa
  exact SkE.call_str_str pins s σ H _ us Q I r ⟨_, by rw [fz_str o], q F H _ [] (nv_fz fh (.str _))⟩
 ·cases e
def gTupF : List SV → Option SV
 | [t] => match t.seqL with
  | some ds => some (.fz (.tuple ds))
  | none => match t with
   | .fz (.tuple ds) => some (.fz (.tuple ds))
   | .ro (.tuple ds) => some (.ro (.tuple ds))
   | _ => none
 | _ => none
theorem nv_ro (fh : ∀ a o, F a = some o → H a = some o) {d : PyData} {v : V} (h : Dp K F v d) : NewV K F H F H v (.ro d) [] where
 hk _ _ h := h
 fk _ _ h := h
 fn a o h1 h2 := by rw [h1] at h2; cases h2
 fh := fh
 own := by unfold Own; exact ⟨h, rfl⟩
 nd := List.nodup_nil
 new a h := by cases h
theorem ct_tuple : CallR X (.type "tuple") (cG X.K gTupF) := by
 refine cg_of call_tuple_of fun F ts z xs H Q fh oa e q => ?_
 unfold gTupF at e
 split at e
 ·rename_i t
  obtain ⟨x, f, rfl, o⟩ := ownA_1 oa
  split at e
  ·rename_i ds e1
   cases e
   obtain ⟨a, vs, rfl, h1, h2⟩ := own_seqL fh o e1
   exact ⟨a, vs, rfl, .inl ⟨h1, fun l hl => q _ _ _ [] (nv_tup fh hl h2)⟩⟩
  ·split at e
   ·cases e
    have z := own_fz o
    cases z with
    | tup a b => exact ⟨_, _, rfl, .inr ⟨.inl (.inl (fh _ _ a)), q F H _ [] (nv_fz fh (.tup a b))⟩⟩
   ·cases e
    unfold Own at o
    have z := o.1
    cases z with
    | tup a b => exact ⟨_, _, rfl, .inr ⟨sqT_fh fh a, q F H _ [] (nv_ro fh (.tup a b))⟩⟩
   ·cases e
 ·cases e
end
end Y
set_option maxRecDepth 100000
set_option maxHeartbeats 4000000
namespace Y
open PySem PySem.Spec L2
section
variable {C : Cn} {AV : List V} {F F1 H H1 : Hp} {σ : L2.St} {S S1 : DS} {fp fp1 : Rt → List Addr} {T1 : List Rt} {r : Rt} {t u : SV} {v0 w : V} {fe : List Addr} {p : List Nat}
theorem StOk.write (st1 : StOk C AV F1 H1 σ S1 fp1) (e : S1.get r = some t) (hs : t.sub p = some u) (hv : rootV σ AV r = some v0) (hw : Walk H1 v0 p w) (dje : ∀ r a, a ∈ fp1 r → a ∉ fe) :
  ∃ fu, Own C.K F1 H1 u w fu ∧ fu.Nodup ∧ (∀ a ∈ fu, a ∈ fp1 r) ∧ ∀ (H' : Hp) (u' : SV) (fu' : List Addr), (∀ a o, H1 a = some o → a ∉ fu → H' a = some o) → (∀ a o, H1 a = some o → ∃ o', H' a = some o') →
   Own C.K F1 H' u' w fu' → fu'.Nodup → (∀ a ∈ fu', a ∈ fu ∨ a ∈ fe) →
   ∃ fr, StOk C AV F1 H' σ (S1.put r (t.setAt p u')) (updF fp1 r fr) ∧ Evo (Rg [r] fp1) F1 H1 F1 H' ∧ (∀ a ∈ fr, (a ∈ fp1 r ∧ a ∉ fu) ∨ a ∈ fu') ∧ ∀ r' a, r' ≠ r → a ∈ fp1 r' → a ∉ fu := by
 obtain ⟨v1, hv1, o⟩ := st1.root e
 rw [hv] at hv1
 cases hv1
 obtain ⟨w', fu, c1, c2, c3, c4, c5⟩ := own_sub p o (st1.nd r) hs
 cases walk_fun hw c1
 refine ⟨fu, c2, c3, c4, fun H' u' fu' k dom ou nd hf => ?_⟩
 have notF : ∀ a o, F1 a = some o → a ∉ fu := fun a o h z => by rw [(st1.mm r a (c4 a z)).1] at h; cases h
 have same : ∀ r' a, a ∈ fp1 r' → a ∉ fu → H' a = H1 a ∧ F1 a = none := fun r' a ha hn => by
  obtain ⟨m1, ob, m2⟩ := st1.mm r' a ha
  exact ⟨by rw [m2]; exact k a ob m2 hn, m1⟩
 obtain ⟨fr, d1, d2, d3⟩ := c5 F1 H' u' fu' (fun _ _ h => h) (fun a ha hn => same r a ha hn) ou nd fun a ha => by
  rcases hf a ha with z | z
  ·exact .inl z
  ·exact .inr fun y => dje r a y z
 have other : ∀ r' a, r' ≠ r → a ∈ fp1 r' → a ∉ fu := fun r' a hr ha hf => hr (st1.dj r' r a ha (c4 a hf))
 have st := st1.upd (F' := F1) (H' := H') e hv (fun _ _ h => h) (fun a o h => k a o (st1.fh a o h) (notF a o h)) (fun r' a hr ha => same r' a ha (other r' a hr ha)) d1 d2 fun r' a hr ha hf' => by
  rcases d3 a hf' with ⟨z, _⟩ | z
  ·exact hr (st1.dj r' r a ha z)
  ·rcases hf a z with y | y
   ·exact other r' a hr ha y
   ·exact dje r' a ha y
 exact ⟨fr, st, ⟨fun _ _ h => h, fun a o h hn => k a o h fun z => hn ⟨r, List.mem_singleton.mpr rfl, c4 a z⟩, fun a o h1 h2 => (by rw [h1] at h2; cases h2), dom⟩, d3, other⟩
theorem Post.rgr (p1 : Post C AV F H σ S fp T1 S1 F1 H1 fp1) (r : Rt) : ∀ a, a ∈ fp1 r → Rg (T1 ++ [r]) fp a ∨ H a = none := fun a ha => by
 rcases p1.new r a ha with z | z | z
 ·exact .inl (Rg.app.mpr (.inl z))
 ·exact .inr z
 ·exact .inl (Rg.app.mpr (.inr ⟨r, List.mem_singleton.mpr rfl, by rw [← (p1.same r z).1]; exact ha⟩))
theorem Post.write (p1 : Post C AV F H σ S fp T1 S1 F1 H1 fp1) (e : S1.get r = some t) (hs : t.sub p = some u) (hv : rootV σ AV r = some v0) (hw : Walk H1 v0 p w) (dje : ∀ r a, a ∈ fp1 r → a ∉ fe) (newe : ∀ a ∈ fe, Rg T1 fp a ∨ H a = none) :
  ∃ fu, Own C.K F1 H1 u w fu ∧ fu.Nodup ∧ (∀ a ∈ fu, a ∈ fp1 r) ∧ ∀ (H' : Hp) (u' : SV) (fu' : List Addr), (∀ a o, H1 a = some o → a ∉ fu → H' a = some o) → (∀ a o, H1 a = some o → ∃ o', H' a = some o') →
   Own C.K F1 H' u' w fu' → fu'.Nodup → (∀ a ∈ fu', a ∈ fu ∨ a ∈ fe) →
   ∃ fp', Post C AV F H σ S fp (T1 ++ [r]) (S1.put r (t.setAt p u')) F1 H' fp' ∧ ∀ r' a, a ∈ fp' r' → (a ∈ fp1 r' ∧ a ∉ fu) ∨ a ∈ fu' := by
 obtain ⟨fu, c2, c3, c4, c5⟩ := p1.st.write (fe := fe) e hs hv hw dje
 refine ⟨fu, c2, c3, c4, fun H' u' fu' k dom ou nd hf => ?_⟩
 obtain ⟨fr, st, evo2, d3, other⟩ := c5 H' u' fu' k dom ou nd hf
 have rgr := p1.rgr r
 refine ⟨updF fp1 r fr, ⟨st, p1.evo.mono (fun a h => Rg.app.mpr (.inl h)) |>.trans evo2 fun a h => ?_, fun r' hr => ?_, fun r' a ha => ?_⟩, fun r' a ha => ?_⟩
 ·obtain ⟨r', h1, h2⟩ := h
  cases List.mem_singleton.mp h1
  exact rgr a h2
 ·have h1 : r' ∉ T1 := fun z => hr (List.mem_append.mpr (.inl z))
  have h2 : r' ≠ r := fun z => hr (List.mem_append.mpr (.inr (List.mem_singleton.mpr z)))
  rw [updF_ne h2, put_get_ne h2]
  exact p1.same r' h1
 ·by_cases z : r' = r
  ·subst z
   rw [updF_same] at ha
   rcases d3 a ha with ⟨y, _⟩ | y
   ·rcases rgr a y with q | q
    ·exact .inl q
    ·exact .inr (.inl q)
   ·rcases hf a y with q | q
    ·rcases rgr a (c4 a q) with q | q
     ·exact .inl q
     ·exact .inr (.inl q)
    ·rcases newe a q with q | q
     ·exact .inl (Rg.app.mpr (.inl q))
     ·exact .inr (.inl q)
  ·rw [updF_ne z] at ha
   rcases p1.new r' a ha with y | y | y
   ·exact .inl (Rg.app.mpr (.inl y))
   ·exact .inr (.inl y)
   ·exact .inr (.inr fun q => by
     rcases List.mem_append.mp q with q | q
     ·exact y q
     ·exact z (List.mem_singleton.mp q))
 ·by_cases z : r' = r
  ·subst z
   rw [updF_same] at ha
   exact d3 a ha
  ·rw [updF_ne z] at ha
   exact .inl ⟨ha, other r' a z ha⟩
theorem own_written {K : PySem.W.Frag} {a : Addr} {xs' : List SV} {vs' : List V} {fq' : List Addr} (hF : F1 a = none) (o : OwnL K F1 H1 xs' vs' fq') (ha : a ∉ fq') : Own K F1 (upd H1 a (.lst vs')) (.lst xs') (.ref a) (a :: fq') := by
 unfold Own
 refine ⟨a, vs', fq', rfl, rfl, upd_same, hF, ownL_keep (fun _ _ h => h) _ _ _ o fun b hb => ⟨?_, (ownL_fp _ _ _ o b hb).1⟩⟩
 exact upd_ne fun z => ha (by rw [← z]; exact hb)
end
def rA1 (K : PySem.W.Frag) : V → List V → Hp → VK → Prop := fun x xs H Q => ∃ F us fu t ft, (∀ a o, F a = some o → H a = some o) ∧ Own K F H (.lst us) x fu ∧ fu.Nodup ∧ us.length < sizeLine ∧ (∃ y, xs = [y] ∧ Own K F H t y ft) ∧ ft.Nodup ∧ (∀ a ∈ fu, a ∉ ft) ∧
 ∀ H' fu', (∀ a o, H a = some o → a ∉ fu → H' a = some o) → (∀ a o, H a = some o → ∃ o', H' a = some o') → Own K F H' (.lst (us ++ [t])) x fu' → fu'.Nodup → (∀ a ∈ fu', a ∈ fu ∨ a ∈ ft) → Q .non H'
section
variable {X : Cx} {K : PySem.W.Frag} {F H : Hp}
theorem upd_off {a : Addr} {o ob : HO} {b : Addr} {fq : List Addr} (h : H b = some ob) (hn : b ∉ a :: fq) : upd H a o b = some ob := by
 rw [upd_ne fun z => hn (by rw [z]; exact List.mem_cons_self)]
 exact h
theorem upd_dom {a : Addr} {o ob : HO} {b : Addr} (h : H b = some ob) : ∃ o', upd H a o b = some o' := by
 by_cases z : b = a
 ·subst z; exact ⟨_, upd_same⟩
 ·exact ⟨ob, by rw [upd_ne z]; exact h⟩
theorem mm_append : MtM X "list.append" (rA1 X.K) := by
 intro pins s σ H x vs v us Q I rx rv ⟨F, xs, fu, t, ft, fh, o, nd, hz, ⟨y, ey, oy⟩, ndt, dj, q⟩
 unfold Own at o
 obtain ⟨a, ws, fq, rfl, rfl, h1, h2, h3⟩ := o
 obtain ⟨na, nq⟩ := List.nodup_cons.mp nd
 subst ey
 refine mt_append pins s σ H _ _ v us Q I rx rv ⟨a, ws, y, rfl, rfl, h1, by rw [← ownL_len h3]; exact hz, ?_⟩
 have hl := ownL_app h3 oy
 have nin : a ∉ fq ++ ft := fun z => by
  rcases List.mem_append.mp z with z | z
  ·exact na z
  ·exact dj a List.mem_cons_self z
 refine q _ (a :: (fq ++ ft)) (fun b ob hb hn => upd_off hb hn) (fun b ob hb => upd_dom hb) (own_written h2 hl nin) (List.nodup_cons.mpr ⟨nin, List.nodup_append.mpr ⟨nq, ndt, fun b hb c hc e => dj b (List.mem_cons_of_mem _ hb) (by rw [e]; exact hc)⟩⟩) fun b hb => ?_
 rcases List.mem_cons.mp hb with z | z
 ·exact .inl (by rw [z]; exact List.mem_cons_self)
 ·rcases List.mem_append.mp z with z | z
  ·exact .inl (List.mem_cons_of_mem _ z)
  ·exact .inr z
end
section
variable {X : Cx} {EX : Hp → V → Str → Option PyData → Prop} {W : WX} {e a b c o : Expr} {es : List Expr} {pos apos cpos : Pos} {fo fa fb fc : DS → Out EV} {fr : DS → Out (List EV)} {C : Cn}
def EV.isL (S : DS) (e : EV) : Bool := match e.tree S with
 | some (.lst _) => true
 | _ => false
def eApp (fo fa : DS → Out EV) : DS → Out EV := fun S =>
 (fo S).bindT fun eo S1 _ => if eo.isL S1 = true then (fa S1).bindT fun ea S2 T2 => match eo, ea with
  | .pk r p, .sv y => if eo.stable T2 = true then match S2.get r with
   | some t => match t.sub p with
    | some (.lst xs) => if xs.length < sizeLine then .ok (.sv (.fz .none)) (S2.put r (t.setAt p (.lst (xs ++ [y])))) [r] else .fail
    | _ => .fail
   | none => .fail
   else .fail
  | _, _ => .fail
  else .fail
theorem isL_ty {AV : List V} {F H : Hp} {σ : L2.St} {S : DS} {fp : Rt → List Addr} {v : V} {e : EV} {fe : List Addr} (st : StOk C AV F H σ S fp) (o : EOk C AV F H σ v e fe) (h : e.isL S = true) : tyV C.K "list" v H := by
 unfold EV.isL at h
 split at h
 ·rename_i xs ht
  obtain ⟨f, ow⟩ := o.tree st ht
  unfold Own at ow
  obtain ⟨a, vs, fq, rfl, _, h1, _⟩ := ow
  exact .inl ⟨rfl, vs, .inl (.inl h1)⟩
 ·cases h
theorem tApp_LE : ∀ σ H Q, LE C W (eApp fo fa) σ H Q → tBM C.K "list" (rA1 C.K) (LE C W fo) (tCons (LE C W fa) tNil) σ H Q := by
 intro σ H Q ⟨AV, F, S, fp, st, q⟩
 unfold eApp at q
 refine ⟨AV, F, S, fp, st, wp_mono (wp_bindT q) fun eo S1 T1 q1 F1 H1 fp1 v fe p1 v1 => ?_⟩
 have q1' := q1 F1 H1 fp1 p1.evA
 split at q1'
 ·rename_i hL
  refine ⟨isL_ty p1.st v1.val hL, AV, F1, S1, fp1, p1.st, wp_mono (wp_bindT q1') fun ea S2 T2 q2 F2 H2 fp2 y fy p2 v2 => ?_⟩
  have q2' := q2 F2 H2 fp2 p2.evA
  split at q2'
  ·rename_i r p t
   split at q2'
   ·rename_i hst
    split at q2'
    ·rename_i tr ht
     split at q2'
     ·rename_i xs hs
      split at q2'
      ·rename_i hz
       have v1' := v1.later p1 p2 hst (by show (EV.tree S2 (.pk r p)).isSome = true; unfold EV.tree; dsimp only; rw [ht]; dsimp only; rw [hs]; rfl)
       have p12 := p1.trans p2
       obtain ⟨_, v0, hv0, hw⟩ := v1'.val
       have oy : Own C.K F2 H2 t y fy := v2.val
       have newy : ∀ a ∈ fy, Rg (T1 ++ T2) fp a ∨ H a = none := fun a ha => by
        rcases v2.new a ha with z | z
        ·exact p1.rg z
        ·exact .inr (p1.evo.none_back z)
       obtain ⟨fu, c1, c2, c3, c4⟩ := p12.write ht hs hv0 hw v2.dj newy
       refine ⟨F2, xs, fu, t, fy, p2.st.fh, c1, c2, hz, ⟨y, rfl, oy⟩, v2.nd, fun a ha => v2.dj r a (c3 a ha), fun H' fu' k dom ou nd hf => ?_⟩
       obtain ⟨fp', P, _⟩ := c4 H' _ fu' k dom ou nd hf
       rw [List.append_assoc] at P
       exact q2' F2 H' fp' .non [] P (vp_fz .non)
      ·exact q2'.elim
     ·exact q2'.elim
    ·exact q2'.elim
   ·exact q2'.elim
  ·exact q2'.elim
 ·exact q1'.elim
theorem de_append (ho : DE X EX W o fo) (ha : DE X EX W e fa) (hbase : attributeBase o "append" X.env (eval o X.env) = eval o X.env := by rfl)
  (hfew : ((backTo cpos (starEach [e] X.env)).all (fun x => !x.1) && (backToKw cpos (keywordEach [] X.env)).all (fun x => x.1.isSome) && decide (([e] : List Expr).length + ([] : List Keyword).length + (if ([] : List Keyword).isEmpty then 0 else 1) < 30)) = true := by rfl)
  (hline : (apos.endLine == cpos.line) = true := by rfl) (hs : starEach [e] X.env = (false, eval e X.env) :: starEach [] X.env := by rfl) (hplain : (backTo cpos (starEach [] X.env)).any (·.1) = false := by rfl) :
  DE X EX W (.Call (.Attribute o "append" apos) [e] [] cpos) (eApp fo fa) :=
 pe_of (pe_bm PySem.F.plainAttrs_list PySem.F.slot_list_append (by with_unfolding_all rfl) (mm_append) ho (pa_cons ha pa_nil hs) hbase hfew hline hs hplain) (tApp_LE (C := cnOf X EX))
end
section
variable {X : Cx} {K : PySem.W.Frag} {F H : Hp}
end
end Y
set_option maxRecDepth 100000
set_option maxHeartbeats 4000000
namespace Y
open PySem PySem.Spec L2
section
variable {κ : Type} [DecidableEq κ] {K : PySem.W.Frag} {F H : Hp}
theorem putK_ne {p : κ × V} {r : List (κ × V)} {k : κ} {v : V} (h : p.1 ≠ k) : putK (p :: r) k v = p :: putK r k v := by
 unfold putK
 rw [List.any_cons, decide_eq_false h, Bool.false_or]
 split
 ·rw [List.map_cons, if_neg h]
 ·rfl
theorem putK_eq {p : κ × V} {r : List (κ × V)} {k : κ} {v : V} (h : p.1 = k) (hn : ∀ q ∈ r, q.1 ≠ k) : putK (p :: r) k v = (p.1, v) :: r := by
 unfold putK
 rw [List.any_cons, decide_eq_true h, Bool.true_or, if_pos rfl, List.map_cons, if_pos h]
 congr 1
 have : r.map (fun kv => if kv.1 = k then (kv.1, v) else kv) = r.map id := List.map_congr_left fun q hq => by rw [if_neg (hn q hq)]; rfl
 rw [this, List.map_id]
theorem ownD_put (c : κ → DKey) (inj : ∀ a b, c a = c b → a = b) {t : SV} {v : V} {ft : List Addr} (ot : Own K F H t v ft) (ndt : ft.Nodup) (k : κ) : ∀ {kvs : List (DKey × SV)} {fq : List Addr} {ws : List (κ × V)}, OwnD K F H kvs (ws.map (·.2)) fq → ws.map (fun p => c p.1) = kvs.map (·.1) → (kvs.map (·.1)).Nodup →
  fq.Nodup → (∀ a ∈ fq, a ∉ ft) → ∃ fq', OwnD K F H (dput kvs (c k) t) ((putK ws k v).map (·.2)) fq' ∧ (putK ws k v).map (fun p => c p.1) = (dput kvs (c k) t).map (·.1) ∧ fq'.Nodup ∧ ∀ a ∈ fq', a ∈ fq ∨ a ∈ ft
 | [], fq, ws, h, e, _, nq, dj => by
  cases ws with
  | cons p r => simp at e
  | nil =>
   unfold OwnD at h
   refine ⟨ft, ?_, rfl, ndt, fun a ha => .inr ha⟩
   show OwnD K F H [(c k, t)] [v] ft
   unfold OwnD
   exact ⟨v, [], ft, [], rfl, by simp, ot, by unfold OwnD; exact ⟨rfl, rfl⟩⟩
 | (k0, x) :: kvs, fq, ws, h, e, nk, nq, dj => by
  cases ws with
  | nil => simp at e
  | cons p r =>
   rw [List.map_cons, List.map_cons] at e
   injection e with e1 e2
   rw [List.map_cons] at nk
   obtain ⟨nk1, nk2⟩ := List.nodup_cons.mp nk
   unfold OwnD at h
   obtain ⟨v1, r1, f1, g1, e3, rfl, h1, h2⟩ := h
   rw [List.map_cons] at e3
   injection e3 with e3 e4
   subst e4
   obtain ⟨n1, n2, n3⟩ := List.nodup_append.mp nq
   dsimp only at e1
   by_cases z : k0 = c k
   ·have pk : p.1 = k := inj _ _ (by rw [← z]; exact e1)
    have hn : ∀ q ∈ r, q.1 ≠ k := fun q hq hz => nk1 (by
     dsimp only
     rw [z, ← hz, ← e2]
     exact List.mem_map.mpr ⟨q, hq, rfl⟩)
    refine ⟨ft ++ g1, ?_, ?_, List.nodup_append.mpr ⟨ndt, n2, fun a ha b hb y => dj b (List.mem_append.mpr (.inr hb)) (by rw [← y]; exact ha)⟩, fun a ha => ?_⟩
    ·rw [putK_eq pk hn]
     unfold dput
     rw [if_pos z]
     unfold OwnD
     exact ⟨v, _, ft, g1, rfl, rfl, ot, h2⟩
    ·rw [putK_eq pk hn]
     unfold dput
     rw [if_pos z, List.map_cons, List.map_cons, e2]
     dsimp only
     rw [e1]
    ·rcases List.mem_append.mp ha with y | y
     ·exact .inr y
     ·exact .inl (List.mem_append.mpr (.inr y))
   ·have pk : p.1 ≠ k := fun y => z (by rw [← e1, y])
    obtain ⟨fq', a1, a2, a3, a4⟩ := ownD_put c inj ot ndt k (ws := r) h2 e2 nk2 n2 fun a ha => dj a (List.mem_append.mpr (.inr ha))
    refine ⟨f1 ++ fq', ?_, ?_, List.nodup_append.mpr ⟨n1, a3, fun a ha b hb y => ?_⟩, fun a ha => ?_⟩
    ·rw [putK_ne pk]
     unfold dput
     rw [if_neg z]
     unfold OwnD
     exact ⟨v1, _, f1, fq', by rw [List.map_cons, e3], rfl, h1, a1⟩
    ·rw [putK_ne pk]
     unfold dput
     rw [if_neg z, List.map_cons, List.map_cons, a2]
     dsimp only
     rw [e1]
    ·rcases a4 b hb with q | q
     ·exact n3 a ha b q y
     ·exact dj a (List.mem_append.mpr (.inl ha)) (by rw [y]; exact q)
    ·rcases List.mem_append.mp ha with y | y
     ·exact .inl (List.mem_append.mpr (.inl y))
     ·rcases a4 a y with q | q
      ·exact .inl (List.mem_append.mpr (.inr q))
      ·exact .inr q
end
section
variable {X : Cx} {K : PySem.W.Frag} {F H : Hp}
def gSetIx (u ti t : SV) : Option SV := match u with
 | .lst xs => match ti with
  | .fz (.int i) => match ixN xs.length i with
   | some k => some (.lst (xs.set k t))
   | none => none
  | _ => none
 | .dic b kvs => match toKey b ti with
  | some k => if kvs.length < sizeLine ∧ (kvs.map (·.1)).Nodup then some (.dic b (dput kvs k t)) else none
  | none => none
 | _ => none
def rSetG (K : PySem.W.Frag) : V → V → V → Hp → (Hp → Prop) → Prop := fun o i v H Q => ∃ F u ti t u' fu fi ft, (∀ a o, F a = some o → H a = some o) ∧ Own K F H u o fu ∧ fu.Nodup ∧ Own K F H ti i fi ∧ Own K F H t v ft ∧ ft.Nodup ∧ (∀ a ∈ fu, a ∉ ft) ∧ gSetIx u ti t = some u' ∧
 ∀ H' fu', (∀ a o, H a = some o → a ∉ fu → H' a = some o) → (∀ a o, H a = some o → ∃ o', H' a = some o') → Own K F H' u' o fu' → fu'.Nodup → (∀ a ∈ fu', a ∈ fu ∨ a ∈ ft) → Q H'
theorem own_dwritten {b : Bool} {a : Addr} {kvs : List (DKey × SV)} {us : List V} {fq : List Addr} {ob : HO} (hF : F a = none) (o : OwnD K F H kvs us fq) (ha : a ∉ fq)
  (hob : (b = false ∧ ∃ ws, ob = .dK ws ∧ ws.map (fun p => DKey.k p.1) = kvs.map (·.1) ∧ us = ws.map (·.2)) ∨ (b = true ∧ ∃ ws, ob = .dT ws ∧ ws.map (fun p => DKey.t p.1) = kvs.map (·.1) ∧ us = ws.map (·.2))) : Own K F (upd H a ob) (.dic b kvs) (.ref a) (a :: fq) := by
 unfold Own
 refine ⟨a, us, fq, rfl, rfl, hF, ownD_keep (fun _ _ h => h) _ _ _ o fun c hc => ⟨upd_ne fun z => ha (by rw [← z]; exact hc), (ownD_fp _ _ _ o c hc).1⟩, ?_⟩
 rcases hob with ⟨h1, ws, h2, h3, h4⟩ | ⟨h1, ws, h2, h3, h4⟩
 ·exact .inl ⟨h1, ws, by rw [← h2]; exact upd_same, h3, h4⟩
 ·exact .inr ⟨h1, ws, by rw [← h2]; exact upd_same, h3, h4⟩
theorem set_all (hu : X.A.units + 1 < cLine) : PSet X (rSetG X.K) := by
 intro pins s σ H o i v ov iv u Q I ro ri rv ⟨F, tu, ti, t, u', fu, fi, ft, fh, ou, nu, oi, ot, nt, dj, e, q⟩
 cases tu with
 | fz d => cases e
 | ro d => cases e
 | fd _ _ => cases e
 | tb _ _ => cases e
 | gone => cases e
 | nd _ => cases e
 | ob _ _ _ => cases e
 | lst xs =>
  unfold gSetIx at e
  dsimp only at e
  split at e
  ·rename_i k
   split at e
   ·rename_i j hj
    cases e
    unfold Own at ou
    obtain ⟨a, ws, fq, rfl, rfl, h1, h2, h3⟩ := ou
    obtain ⟨na, nq⟩ := List.nodup_cons.mp nu
    have hjl : j < xs.length := (ixN_seq hj).2.1
    obtain ⟨w, f1, fx, f2, c1, c2, c3, c4⟩ := ownL_at h3 (List.getElem?_eq_getElem hjl)
    subst c2
    have ol := c4 F H t v ft (fun _ _ h => h) (fun b hb => ⟨rfl, (ownL_fp _ _ _ h3 b (by rcases List.mem_append.mp hb with z | z <;> simp [z])).1⟩) ot
    refine set_list pins s σ H _ i v ov iv u Q I ro ri rv ⟨a, ws, k, j, rfl, fz_int oi, h1, by rw [← ownL_len h3]; exact hj, ?_⟩
    obtain ⟨m1, m2, m3⟩ := List.nodup_append.mp nq
    obtain ⟨m4, m5, m6⟩ := List.nodup_append.mp m2
    have nin : a ∉ f1 ++ (ft ++ f2) := fun z => by
     rcases List.mem_append.mp z with z | z
     ·exact na (by simp [z])
     ·rcases List.mem_append.mp z with z | z
      ·exact dj a List.mem_cons_self z
      ·exact na (by simp [z])
    refine q _ (a :: (f1 ++ (ft ++ f2))) (fun b ob hb hn => upd_off hb hn) (fun b ob hb => upd_dom hb) (own_written h2 ol nin) (List.nodup_cons.mpr ⟨nin, ?_⟩) fun b hb => ?_
    ·refine List.nodup_append.mpr ⟨m1, List.nodup_append.mpr ⟨nt, m5, fun b hb c hc y => dj c (by simp [hc]) (by rw [← y]; exact hb)⟩, fun b hb c hc y => ?_⟩
     rcases List.mem_append.mp hc with z | z
     ·exact dj b (by simp [hb]) (by rw [y]; exact z)
     ·exact m3 b hb c (by simp [z]) y
    ·rcases List.mem_cons.mp hb with z | z
     ·exact .inl (by rw [z]; exact List.mem_cons_self)
     ·rcases List.mem_append.mp z with z | z
      ·exact .inl (by simp [z])
      ·rcases List.mem_append.mp z with z | z
       ·exact .inr z
       ·exact .inl (by simp [z])
   ·cases e
  ·cases e
 | dic b kvs =>
  unfold gSetIx at e
  dsimp only at e
  split at e
  ·rename_i k hk
   split at e
   ·rename_i hz
    cases e
    obtain ⟨hz, hnd⟩ := hz
    unfold Own at ou
    obtain ⟨a, us, fq, rfl, rfl, h2, h3, h4⟩ := ou
    obtain ⟨na, nq⟩ := List.nodup_cons.mp nu
    have fin : ∀ (ob : HO) (kvs' : List (DKey × SV)) (us' : List V) (fq' : List Addr), OwnD X.K F H kvs' us' fq' → fq'.Nodup → (∀ c ∈ fq', c ∈ fq ∨ c ∈ ft) →
      ((b = false ∧ ∃ ws, ob = .dK ws ∧ ws.map (fun p => DKey.k p.1) = kvs'.map (·.1) ∧ us' = ws.map (·.2)) ∨ (b = true ∧ ∃ ws, ob = .dT ws ∧ ws.map (fun p => DKey.t p.1) = kvs'.map (·.1) ∧ us' = ws.map (·.2))) →
      kvs' = dput kvs k t → Q (upd H a ob) := by
     intro ob kvs' us' fq' o1 n1 n2 n3 n4
     subst n4
     have nin : a ∉ fq' := fun z => by
      rcases n2 a z with y | y
      ·exact na y
      ·exact dj a List.mem_cons_self y
     refine q _ (a :: fq') (fun b ob hb hn => upd_off hb hn) (fun b ob hb => upd_dom hb) (own_dwritten h2 o1 nin n3) (List.nodup_cons.mpr ⟨nin, n1⟩) fun c hc => ?_
     rcases List.mem_cons.mp hc with z | z
     ·exact .inl (by rw [z]; exact List.mem_cons_self)
     ·rcases n2 c z with y | y
      ·exact .inl (List.mem_cons_of_mem _ y)
      ·exact .inr y
    have djq : ∀ c ∈ fq, c ∉ ft := fun c hc => dj c (List.mem_cons_of_mem _ hc)
    refine set_dict hu pins s σ H _ i v ov iv u Q I ro ri rv ?_
    cases ti with
    | ro d => cases hk
    | lst _ => cases hk
    | dic _ _ => cases hk
    | fd _ _ => cases hk
    | tb _ _ => cases hk
    | gone => cases hk
    | nd _ => cases hk
    | ob _ _ _ => cases hk
    | fz d =>
     have hd := own_fz oi
     rcases h4 with ⟨rfl, ws, q1, q2, q3⟩ | ⟨rfl, ws, q1, q2, q3⟩
     ·have hk' : (match keyAt d with | some k => some (DKey.k k) | none => none) = some k := hk
      cases ek : keyAt d with
      | none => rw [ek] at hk'; cases hk'
      | some k' =>
       rw [ek] at hk'
       cases hk'
       have ey := keyAt_ok hd ek
       subst ey
       subst q3
       have hl : ws.length < sizeLine := by have := congrArg List.length q2; rw [List.length_map, List.length_map] at this; omega
       obtain ⟨fq', a1, a2, a3, a4⟩ := ownD_put DKey.k injK ot nt k' h3 q2 hnd nq djq
       exact ⟨a, _, rfl, DPut.k q1 hl, fin _ _ _ fq' a1 a3 a4 (.inl ⟨rfl, _, rfl, a2, rfl⟩) rfl⟩
     ·cases d with
      | tuple ds =>
       have hk' : (match keysOf ds with | some ks => some (DKey.t ks) | none => none) = some k := hk
       cases ek : keysOf ds with
       | none => rw [ek] at hk'; cases hk'
       | some k' =>
        rw [ek] at hk'
        cases hk'
        cases hd with
        | tup f1 f2 =>
         have ey := keysOf_ok f2 ek
         subst ey
         subst q3
         have hl : ws.length < sizeLine := by have := congrArg List.length q2; rw [List.length_map, List.length_map] at this; omega
         obtain ⟨fq', a1, a2, a3, a4⟩ := ownD_put DKey.t injT ot nt k' h3 q2 hnd nq djq
         exact ⟨a, _, rfl, DPut.t q1 (fh _ _ f1) hl, fin _ _ _ fq' a1 a3 a4 (.inr ⟨rfl, _, rfl, a2, rfl⟩) rfl⟩
      | _ => cases hk
   ·cases e
  ·cases e
end
section
variable {X : Cx} {EX : Hp → V → Str → Option PyData → Prop} {W : WX} {o i : Expr} {pos : Pos} {fo fi : DS → Out EV} {C : Cn}
def oSt (fo fi : DS → Out EV) (t : SV) : DS → Out Unit := fun S => (fo S).bindT fun eo S1 _ => (fi S1).bindT fun ei S2 T2 => match eo with
 | .pk r p => if eo.stable T2 = true then match S2.get r, ei.tree S2 with
  | some tr, some ti => match tr.sub p with
   | some u => match gSetIx u ti t with
    | some u' => .ok () (S2.put r (tr.setAt p u')) [r]
    | none => .fail
   | none => .fail
  | _, _ => .fail
  else .fail
 | _ => .fail
def gSt (fo fi : DS → Out EV) : SV → DS → SOut := fun t S => sBind (oSt fo fi t S) fun _ S' => .nx S'
theorem tSt_LG : ∀ v σ H Q, LG C W (gSt fo fi) v σ H Q → L2.gSub (LE C W fo) (LE C W fi) (rSetG C.K) v σ H Q := by
 intro v σ H Q ⟨AV, F, S, fp, t, fe, st, ot, dj, nd, q⟩
 have w : Wp C W AV F H σ fp (oSt fo fi t S) fun _ S' T => ∀ σ' F' H' fp', StOk C AV F' H' σ' S' fp' → Evo (fun a => Al fp a ∨ a ∈ fe) F H F' H' → (∀ a, Al fp' a → (Al fp a ∨ a ∈ fe) ∨ H a = none) → Q σ' H' := by
  unfold gSt sBind at q
  generalize oSt fo fi t S = z at q ⊢
  cases z with
  | fail => exact q.elim
  | ok x S' T => exact q
  | exc c d S' => exact fun F' H' fp' cls dd s1 ev ex => q σ F' H' fp' cls dd s1 (ev.evo.mono fun a h => .inl h) (fun a h => (ev.new a h).imp .inl id) ex
 clear q
 unfold oSt at w
 refine ⟨AV, F, S, fp, st, wp_mono (wp_bindT w) fun eo S1 T1 q1 F1 H1 fp1 x fx p1 v1 => ?_⟩
 have q1' := q1 F1 H1 fp1 p1.evA
 refine ⟨AV, F1, S1, fp1, p1.st, wp_mono (wp_bindT q1') fun ei S2 T2 q2 F2 H2 fp2 y fy p2 v2 => ?_⟩
 have q2' := q2 F2 H2 fp2 p2.evA
 split at q2'
 ·rename_i r p
  split at q2'
  ·rename_i hst
   split at q2'
   ·rename_i tr ti ht hti
    split at q2'
    ·rename_i u hs
     split at q2'
     ·rename_i u' hg
      have v1' := v1.later p1 p2 hst (by show (EV.tree S2 (.pk r p)).isSome = true; unfold EV.tree; dsimp only; rw [ht]; dsimp only; rw [hs]; rfl)
      have p12 := p1.trans p2
      obtain ⟨_, v0, hv0, hw⟩ := v1'.val
      obtain ⟨fi', oi⟩ := v2.val.tree p2.st hti
      have fk : ∀ a ∈ fe, H2 a = H a ∧ F2 a = none ∧ ∀ r, a ∉ fp2 r := fun a ha => by
       obtain ⟨f1, ob, f2⟩ := own_fp _ _ _ ot a ha
       exact free_keep st p12 f2 (own_nt _ _ _ ot a ha) f1 fun r hr => dj r a hr ha
      have ot2 : Own C.K F2 H2 t v fe := own_keep p12.evo.fsub _ _ _ ot fun a ha => ⟨(fk a ha).1, (fk a ha).2.1⟩
      obtain ⟨fu, c1, c2, c3, c4⟩ := p2.st.write (fe := fe) ht hs hv0 hw (fun r a ha hf => (fk a hf).2.2 r ha)
      refine ⟨F2, u, ti, t, u', fu, fi', fe, p2.st.fh, c1, c2, oi, ot2, nd, fun a ha hf => (fk a hf).2.2 r (c3 a ha), hg, fun H' fu' k dom ou nd' hf => ?_⟩
      obtain ⟨fr, st3, evo2, d3, _⟩ := c4 H' u' fu' k dom ou nd' hf
      have rgr : ∀ r a, a ∈ fp2 r → Al fp a ∨ H a = none := fun r a ha => (p12.rgr r a ha).imp (fun h => h.al) id
      refine q2' σ F2 H' _ st3 ((p12.evo.mono fun a h => .inl h.al).trans evo2 fun a h => ?_) fun a ⟨r', ha⟩ => ?_
      ·obtain ⟨r', h1, h2⟩ := h
       exact (rgr r' a h2).imp .inl id
      ·by_cases z : r' = r
       ·subst z
        rw [updF_same] at ha
        rcases d3 a ha with ⟨y, _⟩ | y
        ·exact (rgr r' a y).imp .inl id
        ·rcases hf a y with q | q
         ·exact (rgr r' a (c3 a q)).imp .inl id
         ·exact .inl (.inr q)
       ·rw [updF_ne z] at ha
        exact (rgr r' a ha).imp .inl id
     ·exact q2'.elim
    ·exact q2'.elim
   ·exact q2'.elim
  ·exact q2'.elim
 ·exact q2'.elim
theorem dg_st (hu : X.A.units + 1 < cLine) (ho : DE X EX W o fo) (hi : DE X EX W i fi)
  (ha : ∀ v, assign (.Subscript o i pos) X.env v = (do
   let ov ← holding [v] (eval o X.env)
   let iv ← holding [v, ov] (eval i X.env)
   standAt pos
   holding [v, ov, iv] (setItem ov iv v)
   release [v, ov, iv] []) := by intro _; rfl) : DG X EX W (.Subscript o i pos) (gSt fo fi) :=
 pg_of (pg_sub ho hi (set_all hu) ha) (tSt_LG (C := cnOf X EX))
end
end Y
set_option maxRecDepth 100000
set_option maxHeartbeats 4000000
namespace Y
open PySem PySem.Spec L2
inductive Ty where
 | non | bool | int | str | list | tuple | dict
 deriving DecidableEq
def Ty.name : Ty → String
 | .non => "NoneType"
 | .bool => "bool"
 | .int => "int"
 | .str => "str"
 | .list => "list"
 | .tuple => "tuple"
 | .dict => "dict"
def Ty.isa : Ty → Ty → Bool
 | .non, .non => true
 | .bool, .bool => true
 | .bool, .int => true
 | .int, .int => true
 | .str, .str => true
 | .list, .list => true
 | .tuple, .tuple => true
 | .dict, .dict => true
 | _, _ => false
theorem kit_isa (a b : Ty) : kitB a.name b.name = some (a.isa b) := by
 cases a <;> cases b <;> decide +kernel
def tyD : PyData → Option Ty
 | .none => some .non
 | .bool _ => some .bool
 | .int _ => some .int
 | .str _ => some .str
 | .list _ => some .list
 | .tuple _ => some .tuple
 | _ => none
def SV.ty : SV → Option Ty
 | .fz d => tyD d
 | .ro d => tyD d
 | .lst _ => some .list
 | .dic _ _ => some .dict
 | .fd _ _ => none
 | .tb _ _ => none
 | .gone => none
 | .nd _ => none
 | .ob _ _ _ => none
section
variable {K : PySem.W.Frag} {F H : Hp}
theorem dp_ty {d : PyData} {v : V} {t : Ty} (h : Dp K H v d) (e : tyD d = some t) : TyX K H v (.type t.name) := by
 cases h with
 | non => cases e; exact .base .non
 | bl b => cases e; exact .base (.bl b)
 | int b => cases e; exact .base (.int b)
 | str b => cases e; exact .base (.str b)
 | lst a b =>
  cases e
  rcases a with (a | ⟨o, a⟩) | ⟨o, its, n, a, c, _⟩
  ·exact .base (.lst a)
  ·exact .base (.frz a)
  ·exact .kList a c
 | tup a b =>
  cases e
  rcases a with (a | ⟨o, a⟩) | ⟨o, its, n, a, c, _⟩
  ·exact .base (.tup a)
  ·exact .fTuple a
  ·exact .kTuple a c
theorem own_ty (fh : ∀ a o, F a = some o → H a = some o) {t : SV} {v : V} {fp : List Addr} {n : Ty} (h : Own K F H t v fp) (e : t.ty = some n) : TyX K H v (.type n.name) := by
 cases t with
 | fz d => exact dp_ty (dp_mono fh d v (fz_dp d v (own_fz h))) e
 | ro d => unfold Own at h; exact dp_ty (dp_mono fh d v h.1) e
 | lst xs =>
  cases e
  unfold Own at h
  obtain ⟨a, vs, fq, rfl, _, h1, _⟩ := h
  exact .base (.lst h1)
 | dic b kvs =>
  cases e
  unfold Own at h
  obtain ⟨a, us, fq, rfl, _, _, _, ⟨_, ws, h1, _⟩ | ⟨_, ws, h1, _⟩⟩ := h
  ·exact .base (.dK h1)
  ·exact .base (.dT h1)
 | fd b kvs => cases e
 | tb _ _ => cases e
 | gone => cases e
 | nd _ => cases e
 | ob _ _ _ => cases e
end
section
variable {X : Cx} {EX : Hp → V → Str → Option PyData → Prop} {W : WX} {e a b c o : Expr} {es : List Expr} {p p2 pos : Pos} {fo fa fb fc : DS → Out EV} {fr : DS → Out (List EV)} {C : Cn}
def eIsi (T : Ty) (fa : DS → Out EV) : DS → Out EV := fun S => (fa S).bindT fun ea S1 _ => match ea.tree S1 with
 | some t => match t.ty with
  | some n => .ok (.sv (.fz (.bool (n.isa T)))) S1 []
  | none => .fail
 | none => .fail
theorem de_isi (T : Ty) {x : Str} (ha : DE X EX W a fa) (hg : Gl X "isinstance") (hm : X.mg "isinstance" = none) (hgT : Gl X x) (hmT : X.mg x = none) (hvT : bootBuiltins x = some (.type T.name))
  (hn : x ≠ "__name__" := by decide) (hd : (x == ("__debug__" : Str)) = false := by decide) (hs : starEach [a, .Name x p2] X.env = (false, eval a X.env) :: starEach [.Name x p2] X.env := by rfl)
  (hs2 : starEach [.Name x p2] X.env = (false, eval (.Name x p2) X.env) :: starEach [] X.env := by rfl) (hpl : (backTo pos (starEach [.Name x p2] X.env)).any (·.1) = false := by rfl) : DE X EX W (.Call (.Name "isinstance" p) [a, .Name x p2] [] pos) (eIsi T fa) := by
 refine pe_of (pe_callB call_isi hg hm (by with_unfolding_all rfl) (pa_cons ha (pa_cons (pe_bltn (v := .ty T.name) hgT hmT hvT rfl hn hd) pa_nil hs2) hs) (he := hs) (hpl := hpl)) fun σ H Q ⟨AV, F, S, fp, st, q⟩ => ?_
 unfold eIsi at q
 refine ⟨AV, F, S, fp, st, wp_mono (wp_bindT q) fun ea S1 T1 q1 F1 H1 fp1 v fe p1 v1 => ?_⟩
 have q1' := q1 F1 H1 fp1 p1.evA
 split at q1'
 ·rename_i t ht
  split at q1'
  ·rename_i n hn'
   obtain ⟨f, ot⟩ := v1.val.tree p1.st ht
   exact ⟨v, .ty T.name, .type n.name, .type T.name, n.isa T, rfl, .ty _, own_ty p1.st.fh ot hn', kit_ty (kit_isa n T), by have := q1' F1 H1 fp1 (.bl (n.isa T)) [] (by simpa using p1) (vp_fz (.bl _)); exact this⟩
  ·exact q1'.elim
 ·exact q1'.elim
theorem eok_int {AV : List V} {F H : Hp} {σ : L2.St} {v : V} {j : Int} {fe : List Addr} (h : EOk C AV F H σ v (.sv (.fz (.int j))) fe) : v = .int j := by
 have h' : Own C.K F H (.fz (.int j)) v fe := h
 exact fz_int h'
theorem new_ok {AV : List V} {F H F1 H1 F2 H2 : Hp} {σ : L2.St} {S S1 : DS} {fp fp1 : Rt → List Addr} {T1 : List Rt} {v : V} {z : SV} {fe : List Addr} {Q : VK} (p1 : Post C AV F H σ S fp T1 S1 F1 H1 fp1) (n : NewV C.K F1 H1 F2 H2 v z fe)
  (q : Wp C W AV F1 H1 σ fp1 (.ok (.sv z) S1 []) fun e S' T => ∀ F' H' fp' v fe, Post C AV F H σ S fp (T1 ++ T) S' F' H' fp' → VP C AV F H σ fp (T1 ++ T) S' F' H' fp' v e fe → Q v H') : Q v H2 := by
 have p3 := n.post p1.st
 have v3 := n.vp p1.st
 exact q F2 H2 fp1 v fe (p1.trans p3) ⟨v3.val, v3.dj, v3.nd, fun a ha => .inr (p1.evo.none_back (n.new a ha)), v3.tr⟩
def cutL {α : Type} (xs : List α) (lo hi : Option Int) : List α := (xs.drop (HT.sIx xs.length 0 lo)).take (HT.sIx xs.length xs.length hi - HT.sIx xs.length 0 lo)
def LO (C : Cn) (W : WX) (f : DS → Out (Option Int)) : TO := fun σ H Q => ∃ AV F S fp, StOk C AV F H σ S fp ∧
 Wp C W AV F H σ fp (f S) fun e S' T => ∀ F' H' fp', Post C AV F H σ S fp T S' F' H' fp' → Q e H'
abbrev DO (X : Cx) (EX : Hp → V → Str → Option PyData → Prop) (W : WX) (e : Option Expr) (f : DS → Out (Option Int)) : Prop := PO X e (LO (cnOf X EX) W f)
def pNo : DS → Out (Option Int) := fun S => .ok none S []
def pAt (fa : DS → Out EV) : DS → Out (Option Int) := fun S => (fa S).bindT fun ea S1 _ => match ea with
 | .sv (.fz (.int i)) => .ok (some i) S1 []
 | _ => .fail
theorem do_none : DO X EX W none pNo := ⟨fun pins s σ H Q I ⟨AV, F, S, fp, st, q⟩ => po_none.run pins s σ H Q I (q F H fp (.refl st))⟩
theorem do_some (ha : DE X EX W a fa) : DO X EX W (some a) (pAt fa) := by
 refine ⟨fun pins s σ H Q I ⟨AV, F, S, fp, st, q⟩ => (po_some ha).run pins s σ H Q I ?_⟩
 unfold pAt at q
 refine ⟨AV, F, S, fp, st, wp_mono (wp_bindT q) fun ea S1 T1 q1 F1 H1 fp1 v fe p1 v1 => ?_⟩
 have q1' := q1 F1 H1 fp1 p1.evA
 split at q1'
 ·rename_i i
  exact ⟨i, eok_int v1.val, by have := q1' F1 H1 fp1 (by simpa using p1); exact this⟩
 ·exact q1'.elim
def gSl (t : SV) (lo hi : Option Int) : Option SV := match t with
 | .fz (.str x) => if x.length ≤ sizeLine then some (.fz (.str (cutS x lo hi))) else none
 | .fz (.tuple ds) => some (.fz (.tuple (cutL ds lo hi)))
 | t => match t.seqL with
  | some ds => some (.lst (fzs (cutL ds lo hi)))
  | none => none
def eSl (fa : DS → Out EV) (fl fh : DS → Out (Option Int)) : DS → Out EV := fun S => (fa S).bindT fun ea S1 _ => (fl S1).bindT fun l S2 T2 => (fh S2).bindT fun h S3 T3 =>
 match ea.stable (T2 ++ T3), ea.tree S3 with
 | true, some t => match gSl t l h with
  | some z => .ok (.sv z) S3 []
  | none => .fail
 | _, _ => .fail
def rSlAll (K : PySem.W.Frag) : V → Option Int → Option Int → Hp → VK → Prop := fun x lo hi H Q => (rSlL K x lo hi H Q ∨ rSlA K x lo hi H Q) ∨ rSlS x lo hi H Q
theorem sl_all : SlR X (rSlAll X.K) := SlR.or (SlR.or sl_list sl_tupA) sl_str
theorem fzAll_cut {F : Hp} {ds : List PyData} {vs : List V} (h : FzAll F vs ds) (lo hi : Option Int) : FzAll F (cutV vs lo hi) (cutL ds lo hi) := by
 unfold cutV cutL
 rw [fzAll_len h]
 exact fzAll_take _ (fzAll_drop _ h)
theorem cut_whole {α : Type} {xs : List α} {lo hi : Option Int} (h : HT.sIx xs.length 0 lo = 0 ∧ HT.sIx xs.length xs.length hi = xs.length) : cutL xs lo hi = xs := by
 unfold cutL
 rw [h.1, h.2]
 simp
theorem gSl_ok {K : PySem.W.Frag} {F H : Hp} (fh : ∀ a o, F a = some o → H a = some o) {t z : SV} {v : V} {fp : List Addr} {lo hi : Option Int} {Q : VK} (o : Own K F H t v fp) (e : gSl t lo hi = some z) (q : ∀ F' H' v fe, NewV K F H F' H' v z fe → Q v H') : rSlAll K v lo hi H Q := by
 have lis : ∀ ds, t.seqL = some ds → z = .lst (fzs (cutL ds lo hi)) → rSlAll K v lo hi H Q := by
  intro ds h1 h2
  subst h2
  obtain ⟨a, vs, rfl, h3, h4⟩ := own_seqL fh o h1
  exact .inl (.inl ⟨a, vs, rfl, h3, fun l hl => q _ _ _ [l] (nv_lst fh hl (fzAll_cut h4 lo hi))⟩)
 unfold gSl at e
 split at e
 ·split at e
  ·cases e
   exact .inr ⟨_, fz_str o, by assumption, q F H _ [] (nv_fz fh (.str _))⟩
  ·cases e
 ·rename_i ds
  cases e
  have z := own_fz o
  cases z with
  | @tup a xs _ h1 h2 =>
   refine .inl (.inr ⟨_, _, rfl, .inl (.inl (fh _ _ h1)), fun hw => ?_, fun _ l hl => q _ _ _ [] (nv_tup fh hl (fzAll_cut h2 lo hi))⟩)
   rw [fzAll_len h2] at hw
   rw [cut_whole hw] at q
   exact q F H _ [] (nv_fz fh (.tup h1 h2))
 ·split at e
  ·cases e; exact lis _ (by assumption) rfl
  ·cases e
theorem de_sl {lo hi : Option Expr} {fl fh : DS → Out (Option Int)} (ha : DE X EX W a fa) (hl : DO X EX W lo fl) (hh : DO X EX W hi fh) : DE X EX W (.Subscript a (.Slice lo hi none p2) pos) (eSl fa fl fh) := by
 refine pe_of (pe_slice sl_all ha hl hh) fun σ H Q ⟨AV, F, S, fp, st, q⟩ => ?_
 unfold eSl at q
 refine ⟨AV, F, S, fp, st, wp_mono (wp_bindT q) fun ea S1 T1 q1 F1 H1 fp1 v fe p1 v1 => ?_⟩
 refine ⟨AV, F1, S1, fp1, p1.st, wp_mono (wp_bindT (q1 F1 H1 fp1 p1.evA)) fun l S2 T2 q2 F2 H2 fp2 p2 => ?_⟩
 refine ⟨AV, F2, S2, fp2, p2.st, wp_mono (wp_bindT (q2 F2 H2 fp2 p2.evA)) fun h S3 T3 q3 F3 H3 fp3 p3 => ?_⟩
 have q3' := q3 F3 H3 fp3 p3.evA
 split at q3'
 ·rename_i t hst ht
  split at q3'
  ·rename_i z hz
   have p23 := p2.trans p3
   have v1' := v1.later p1 p23 hst (by rw [ht]; rfl)
   obtain ⟨f, ot⟩ := v1'.val.tree p3.st ht
   have p123 := p1.trans p23
   refine gSl_ok p3.st.fh ot hz fun F4 H4 w fw n => new_ok (W := W) p123 n ?_
   refine wp_mono q3' fun y S' T' k F' H' fp' v fe P V => ?_
   have e : T1 ++ (T2 ++ (T3 ++ T')) = (T1 ++ (T2 ++ T3)) ++ T' := by simp
   rw [e] at k
   exact k F' H' fp' v fe P V
  ·exact q3'.elim
 ·exact q3'.elim
def mG (K : PySem.W.Frag) (g : List SV → Option SV) : V → List V → Hp → VK → Prop := fun x xs H Q => cG K g (x :: xs) H Q
def EV.isT (S : DS) (T : Ty) (e : EV) : Bool := match e.tree S with
 | some t => match T, t with
  | .str, .fz (.str _) => true
  | .list, t => t.seqL.isSome
  | .dict, .dic _ _ => true
  | _, _ => false
 | none => false
def eMet (T : Ty) (g : List SV → Option SV) (fo : DS → Out EV) (fr : DS → Out (List EV)) : DS → Out EV := fun S =>
 (fo S).bindT fun eo S1 _ => if eo.isT S1 T = true then (fr S1).bindT fun es S2 T2 => match eo.stable T2, eo.tree S2, trees S2 es with
  | true, some t, some ts => match g (t :: ts) with
   | some z => .ok (.sv z) S2 []
   | none => .fail
  | _, _, _ => .fail
 else .fail
theorem isT_ty {T : Ty} {AV : List V} {F H : Hp} {σ : L2.St} {S : DS} {fp : Rt → List Addr} {v : V} {e : EV} {fe : List Addr} (st : StOk C AV F H σ S fp) (o : EOk C AV F H σ v e fe) (h : e.isT S T = true) : tyV C.K T.name v H := by
 unfold EV.isT at h
 split at h
 ·rename_i t ht
  obtain ⟨f, ow⟩ := o.tree st ht
  split at h
  ·rw [fz_str ow]; exact rfl
  ·cases h1 : t.seqL with
   | none => rw [h1] at h; cases h
   | some ds =>
    obtain ⟨a, vs, rfl, h3, h4⟩ := own_seqL st.fh ow h1
    exact .inl ⟨rfl, vs, h3⟩
  ·unfold Own at ow
   obtain ⟨a, us, fq, rfl, _, _, _, ⟨_, ws, h1, _⟩ | ⟨_, ws, h1, _⟩⟩ := ow
   ·exact .inr (.inr (.inl ⟨rfl, .inl ⟨ws, h1⟩⟩))
   ·exact .inr (.inr (.inl ⟨rfl, .inr ⟨ws, h1⟩⟩))
  ·cases h
 ·cases h
theorem tMet_LE {T : Ty} {g : List SV → Option SV} : ∀ σ H Q, LE C W (eMet T g fo fr) σ H Q → tBM C.K T.name (mG C.K g) (LE C W fo) (LA C W fr) σ H Q := by
 intro σ H Q ⟨AV, F, S, fp, st, q⟩
 unfold eMet at q
 refine ⟨AV, F, S, fp, st, wp_mono (wp_bindT q) fun eo S1 T1 q1 F1 H1 fp1 v fe p1 v1 => ?_⟩
 have q1' := q1 F1 H1 fp1 p1.evA
 split at q1'
 ·rename_i hL
  refine ⟨isT_ty p1.st v1.val hL, AV, F1, S1, fp1, p1.st, wp_mono (wp_bindT q1') fun es S2 T2 q2 F2 H2 fp2 ys fy p2 v2 => ?_⟩
  have q2' := q2 F2 H2 fp2 p2.evA
  split at q2'
  ·rename_i t ts hst ht hts
   split at q2'
   ·rename_i z hg
    have v1' := v1.later p1 p2 hst (by rw [ht]; rfl)
    obtain ⟨f, ot⟩ := v1'.val.tree p2.st ht
    refine ⟨F2, t :: ts, z, p2.st.fh, .cons ot (ownA_of p2.st v2.ln v2.val hts), hg, fun F3 H3 w fw n => new_ok (W := W) (p1.trans p2) n ?_⟩
    refine wp_mono q2' fun y S' T' k F' H' fp' v fe P V => ?_
    rw [← List.append_assoc] at k
    exact k F' H' fp' v fe P V
   ·exact q2'.elim
  ·exact q2'.elim
 ·exact q1'.elim
theorem de_met {T : Ty} {name : Str} {id : String} {g : List SV → Option SV} (hm : MtR X id (mG X.K g)) (pa : PlainAttrs T.name) (slot : Slot T.name name id) (hty : typeOf (.builtin id) = pure (.type "method_descriptor")) (ho : DE X EX W o fo) (ha : DA X EX W (e :: es) fr) {apos cpos : Pos} (hbase : attributeBase o name X.env (eval o X.env) = eval o X.env := by rfl)
  (hfew : ((backTo cpos (starEach (e :: es) X.env)).all (fun x => !x.1) && (backToKw cpos (keywordEach [] X.env)).all (fun x => x.1.isSome) && decide ((e :: es).length + ([] : List Keyword).length + (if ([] : List Keyword).isEmpty then 0 else 1) < 30)) = true := by rfl)
  (hline : (apos.endLine == cpos.line) = true := by rfl) (hs : starEach (e :: es) X.env = (false, eval e X.env) :: starEach es X.env := by rfl) (hplain : (backTo cpos (starEach es X.env)).any (·.1) = false := by rfl) :
  DE X EX W (.Call (.Attribute o name apos) (e :: es) [] cpos) (eMet T g fo fr) :=
 pe_of (pe_bm pa slot hty hm ho ha hbase hfew hline hs hplain) (tMet_LE (C := cnOf X EX))
end
end Y
set_option maxRecDepth 100000
set_option maxHeartbeats 4000000
namespace Y
open PySem PySem.Spec L2
def slOf (i : Nat) : Option SV → Option Sl
 | some (.fz d) => some (.tr (.fz d))
 | some (.ro d) => some (.tr (.ro d))
 | some (.fd b d) => some (.tr (.fd b d))
 | some _ => some (.ar i)
 | none => none
def initDS (n : Nat) (ts : List SV) : DS := { sl := (List.range n).map fun i => slOf i ts[i]?, ar := ts }
def runFn (n np : Nat) (fb : DS → SOut) : List SV → FOut := fun ts => if ts.length = np ∧ np ≤ n then match fb (initDS n ts) with
 | .nx S => .ret (.fz .none) S.ar
 | .rt t A => .ret t A
 | .exc c d S => .exc c d S.ar
 | _ => .fail
 else .fail
def argF (g : Nat → List Addr) : Rt → List Addr
 | .s _ => []
 | .a j => g j
theorem al_arg {g : Nat → List Addr} {a : Addr} : Al (argF g) a ↔ Ag g a := by
 constructor
 ·rintro ⟨r, h⟩
  cases r with
  | s i => cases h
  | a j => exact ⟨j, h⟩
 ·rintro ⟨j, h⟩
  exact ⟨.a j, h⟩
theorem start_at {N : List Str} {vs : List V} {i : Nat} {v : V} (h : vs[i]? = some v) : (L2.start N vs)[i]? = some (some v) := by
 unfold L2.start
 have hi : i < vs.length := (List.getElem?_eq_some_iff.mp h).1
 rw [List.getElem?_append_left (by rw [List.length_map]; exact hi), List.getElem?_map, h]
 rfl
theorem start_st {C : Cn} {N : List Str} {vs : List V} {F H : Hp} {ts : List SV} {g : Nat → List Addr} (h : ArOk C.K vs F H ts g) (hn : vs.length ≤ N.length) : StOk C vs F H (L2.start N vs) (initDS N.length ts) (argF g) where
 fh := h.fh
 sl i x e := by
  unfold initDS at e
  dsimp only at e
  rw [List.getElem?_map] at e
  cases e1 : (List.range N.length)[i]? with
  | none => rw [e1] at e; simp at e
  | some j =>
   rw [e1] at e
   obtain ⟨hj, e2⟩ := List.getElem?_eq_some_iff.mp e1
   rw [List.getElem_range] at e2
   subst e2
   have e' : slOf i ts[i]? = some x := by simpa using e
   cases e3 : ts[i]? with
   | none => rw [e3] at e'; cases e'
   | some t =>
    rw [e3] at e'
    obtain ⟨v, h1, h2⟩ := h.ar i t e3
    refine ⟨v, start_at h1, ?_⟩
    cases t with
    | fz d => cases e'; exact own_of_fz (K := C.K) (H := H) (own_fz h2)
    | ro d =>
     cases e'
     show Own C.K F H (.ro d) v []
     unfold Own at h2 ⊢
     exact ⟨h2.1, rfl⟩
    | fd b d =>
     cases e'
     show Own C.K F H (.fd b d) v []
     unfold Own at h2 ⊢
     exact ⟨rfl, h2.2⟩
    | lst xs => cases e'; exact ⟨h1, rfl⟩
    | dic b kvs => cases e'; exact ⟨h1, rfl⟩
    | tb _ _ => cases e'; exact ⟨h1, rfl⟩
    | gone => cases e'; exact ⟨h1, rfl⟩
    | nd _ => cases e'; exact ⟨h1, rfl⟩
    | ob _ _ _ => cases e'; exact ⟨h1, rfl⟩
 ar j t e := h.ar j t e
 dj r r' a ha hb := by
  cases r with
  | s i => cases ha
  | a j => cases r' with
   | s i => cases hb
   | a k => rw [h.dj j k a ha hb]
 nd r := by
  cases r with
  | s i => exact .nil
  | a j => exact h.nd j
 mm r a ha := by
  cases r with
  | s i => cases ha
  | a j => exact h.mm j a ha
 mt r a xs ha := by
  cases r with
  | s i => cases ha
  | a j => exact h.mt j a xs ha
 ln := by
  unfold initDS L2.start
  simp
  omega
 la := h.ln
section
variable {P : Program} {w : World} {K : PySem.W.Frag} {mg : Str → Option Value} {base : Heap} {f : Addr} {fd : FuncData} {x qual : Str} {params : Arguments} {body : List Stmt} {scope : Scope} {N ps : List Str} {k : Nat} {fb : DS → SOut}
abbrev CxF (P : Program) (w : World) (K : PySem.W.Frag) (mg : Str → Option Value) (base : Heap) (N : List Str) (qual : Str) (scope : Scope) (f : Addr) (cdv : Value) (A : Around) (outer : List Env) (s : Shared) (H : Hp) (E : XK) : Cx := cxOf (L2.CX P w) P w K mg base N qual scope f cdv A outer s H E
theorem fn_ok (F : FunD K x qual params body scope [] [] f fd) (S : FnScope N ps scope) (EX : Hp → V → Str → Option PyData → Prop)
  (hb : ∀ (cdv : Value) (A : Around) (outer : List Env) (s : Shared) (H : Hp) (E : XK), Room k (A.deeper (PyProof.Rows.envOfC qual scope s.heap.objs.size f cdv)) → DSs (CxF P w K mg base N qual scope f cdv A outer s H E) EX (fun cls d _ H => E cls d H) body fb) :
  FnOk P w K mg base (L2.CX P w) (k + 1) f fd ps (spOf K mg (runFn N.length ps.length fb)) := by
 refine F.ok S (fun vs H Q E h => ?_) fun cdv A outer s H vs Q E hr h => ⟨_, hb cdv A outer s H E hr, ?_⟩
 ·obtain ⟨F0, ts, g, ha, hm⟩ := h
  unfold runFn at hm
  split at hm
  ·exact hm.elim
  all_goals
   rename_i e
   split at e
   ·rename_i hl; rw [← ha.ln]; exact hl.1
   ·cases e
 ·obtain ⟨F0, ts, g, ha, hm⟩ := h
  unfold runFn at hm
  by_cases hl : ts.length = ps.length ∧ ps.length ≤ N.length
  ·rw [if_pos hl] at hm
   have hn : vs.length ≤ N.length := by rw [← ha.ln]; omega
   have st : StOk (cnOf (CxF P w K mg base N qual scope f cdv A outer s H E) EX) vs F0 H (L2.start N vs) (initDS N.length ts) (argF g) := start_st ha hn
   refine ⟨vs, F0, _, _, st, ?_⟩
   generalize fb (initDS N.length ts) = o at hm ⊢
   have ret : ∀ (S' : DS) (σ' : L2.St) (F' H' : Hp) (fp' : Rt → List Addr), StOk (cnOf (CxF P w K mg base N qual scope f cdv A outer s H E) EX) vs F' H' σ' S' fp' → EvA F0 H F' H' (argF g) fp' → RetOk K vs F0 H g S'.ar F' H' (arF fp') := by
    intro S' σ' F' H' fp' s1 ev
    refine ⟨s1.args, ev.evo.mono fun a h => al_arg.mp h, fun a ⟨j, hj⟩ => ?_⟩
    exact (ev.new a ⟨.a j, hj⟩).imp al_arg.mp id
   cases o with
   | fail => exact hm.elim
   | bk S' => exact hm.elim
   | ct S' => exact hm.elim
   | nx S' =>
    intro σ' F' H' fp' s1 ev
    exact hm F' H' (arF fp') .non [] (ret S' σ' F' H' fp' s1 ev) (own_of_fz .non) .nil (fun _ h => by cases h) (fun _ _ h => by cases h)
   | rt t A' =>
    intro F' H' g' v fe r
    exact hm F' H' g' v fe ⟨r.ar, r.evo.mono fun a h => al_arg.mp h, fun a h => (r.newa a h).imp al_arg.mp id⟩ r.own r.nd (fun a h => (r.newv a h).imp al_arg.mp id) r.dj
   | exc c d S' =>
    intro σ' F' H' fp' cls dd s1 ev ex
    exact hm F' H' (arF fp') cls dd (ret S' σ' F' H' fp' s1 ev) ex
  ·rw [if_neg hl] at hm
   exact hm.elim
end
end Y
set_option maxRecDepth 100000
set_option maxHeartbeats 4000000
namespace Y
open PySem PySem.Spec L2
def spLaw (K : PySem.W.Frag) (n : Nat) : Sp := fun vs H Q _ => ∃ (a : Addr) (ns : List Int), vs = [.ref a] ∧ SqL K H a (ns.map V.int) ∧ ns.length ≤ n ∧ ∀ H', Q (.bl true) H'
def script (ns : List Int) : SV := .ro (.list (ns.map .int))
theorem dp_ints {K : PySem.W.Frag} {H : Hp} : ∀ ns : List Int, DpAll K H (ns.map V.int) (ns.map .int)
 | [] => .nil
 | n :: ns => .cons (.int n) (dp_ints ns)
theorem law_fn {P : Program} {w : World} {K : PySem.W.Frag} {mg : Str → Option Value} {base : Heap} {f : Addr} {fd : FuncData} {x : Str} {k n : Nat} {m : List SV → FOut} (G : FnOk P w K mg base (L2.CX P w) k f fd [x] (spOf K mg m))
  (hm : ∀ ns : List Int, ns.length ≤ n → ∃ A, m [script ns] = .ret (.fz (.bool true)) A) : FnOk P w K mg base CX0 k f fd [x] (spLaw K n) where
 len vs H Q E h := by obtain ⟨a, ns, rfl, _⟩ := h; rfl
 run A outer s H args us vs Q E hr e0 hb hv h := by
  obtain ⟨a, ns, rfl, hS, hn, hQ⟩ := h
  obtain ⟨A', hA⟩ := hm ns hn
  have sp : spOf K mg m [.ref a] H Q (fun _ _ _ => False) := by
   refine ⟨H, [script ns], fun _ => [], ⟨fun _ _ h => h, rfl, fun j t e => ?_, fun _ _ _ h => (by cases h), fun _ => .nil, fun _ _ h => (by cases h), fun _ _ _ h => (by cases h)⟩, ?_⟩
   ·cases j with
    | zero =>
     cases e
     refine ⟨.ref a, rfl, ?_⟩
     unfold script Own
     exact ⟨.lst hS (dp_ints ns), rfl⟩
    | succ j => simp at e
   ·rw [hA]
    intro F' H' g' v fe _ o _ _ _
    rw [fz_bl o]
    exact hQ H'
  refine codeAny_mono (G.run A outer s H args us _ Q _ hr e0 hb hv sp) fun r s' h => ?_
  unfold CR at h ⊢
  cases r with
  | ok fl => cases fl <;> exact h
  | error e =>
   obtain ⟨_, _, _, _, _, h'⟩ := h
   obtain ⟨_, _, _, _, _, _, _, z⟩ := h'
   exact z.elim
end Y
set_option maxRecDepth 100000
set_option maxHeartbeats 4000000
namespace Y
open PySem PySem.Spec L2
section
variable {X : Cx} {EX : Hp → V → Str → Option PyData → Prop} {W : WX} {e a : Expr} {st : Stmt} {sts : List Stmt} {fa : DS → Out EV} {C : Cn}
def eRo (d : PyData) : DS → Out EV := fun S => .ok (.sv (.ro d)) S []
theorem de_ro {v : V} {d : PyData} (h : PE X e (tC v)) (hd : ∀ F, Dp X.K F v d) : DE X EX W e (eRo d) :=
 pe_of h fun σ H Q ⟨AV, F, S, fp, st, q⟩ => q F H fp v [] (.refl st) (vp_ro (hd F))
def eView (i : Nat) (fa : DS → Out EV) : DS → Out EV := fun S => match eVar i S with
 | .ok (.pk r []) _ _ => match S.get r with
  | some t => match t.frz with
   | some d => match fa (S.put r (.fz d)) with
    | .ok (.sv (.fz c)) _ [] => if isScal c = true then .ok (.sv (.fz c)) S [] else .fail
    | _ => .fail
   | none => .fail
  | none => .fail
 | .ok (.sv _) _ _ => fa S
 | _ => .fail
theorem fz_scal {F F' : Hp} {v : V} {c : PyData} (h : Fz F v c) (s : isScal c = true) : Fz F' v c := by
 cases h with
 | non => exact .non
 | bl b => exact .bl b
 | int b => exact .int b
 | str b => exact .str b
 | lst a b => cases s
 | tup a b => cases s
theorem de_view (i : Nat) (ha : DE X EX W a fa) : DE X EX W a (eView i fa) := by
 refine pe_of ha fun σ H Q ⟨AV, F, S, fp, st, q⟩ => ?_
 unfold eView at q
 split at q
 ·rename_i r _ _ _
  split at q
  ·rename_i t ht
   split at q
   ·rename_i d hd
    obtain ⟨v0, hv0, o⟩ := st.root ht
    obtain ⟨F1, fp1, p1, hf⟩ := st.freeze (p := []) ht (by unfold SV.sub; cases t <;> rfl) hd hv0 rfl
    have eput : t.setAt [] (.fz d) = .fz d := by unfold SV.setAt; cases t <;> rfl
    rw [eput] at p1
    refine ⟨AV, F1, _, fp1, p1.st, ?_⟩
    split at q
    ·rename_i c S2 hfa
     split at q
     ·rename_i hs
      rw [hfa]
      intro F2 H2 fp2 v fe p2 v2
      have k : ∀ a o, H a = some o → H2 a = some o := fun a o h => p2.evo.keep a o h fun ⟨r, h1, _⟩ => by cases h1
      have kp : ∀ r a, a ∈ fp r → H2 a = H a ∧ F a = none := fun r a ha => by
       obtain ⟨m1, ob, m2⟩ := st.mm r a ha
       exact ⟨by rw [m2]; exact k a ob m2, m1⟩
      have st2 : StOk (cnOf X EX) AV F H2 σ S fp := by
       refine ⟨fun a o h => k a o (st.fh a o h), fun i x e => ?_, fun j t e => ?_, st.dj, st.nd, fun r a ha => ?_, fun r a xs ha z => st.mt r a xs ha ((kp r a ha).1 ▸ z), st.ln, st.la⟩
       ·obtain ⟨v, h1, h2⟩ := st.sl i x e
        refine ⟨v, h1, ?_⟩
        cases x with
        | tr t => exact own_keep (fun _ _ h => h) _ _ _ h2 (kp _)
        | ar j => exact h2
        | ex c d => exact h2
       ·obtain ⟨v, h1, h2⟩ := st.ar j t e
        exact ⟨v, h1, own_keep (fun _ _ h => h) _ _ _ h2 (kp _)⟩
       ·obtain ⟨m1, ob, m2⟩ := st.mm r a ha
        exact ⟨m1, ob, k a ob m2⟩
      have fz2 : Fz F v c := by
       have h' : Own (cnOf X EX).K F2 H2 (.fz c) v fe := v2.val
       exact fz_scal (own_fz h') hs
      exact q F H2 fp v [] ⟨st2, ⟨fun _ _ h => h, fun a o h _ => k a o h, fun a o h1 h2 => (by rw [h1] at h2; cases h2), fun a o h => ⟨o, k a o h⟩⟩, fun _ _ => ⟨rfl, rfl⟩, fun r a _ => .inr (.inr List.not_mem_nil)⟩ (vp_fz fz2)
     ·exact q.elim
    ·exact q.elim
   ·exact q.elim
  ·exact q.elim
 ·exact ⟨AV, F, S, fp, st, q⟩
 ·exact q.elim
end
section
variable {X : Cx}
theorem hu65 {A : Around} {k : Nat} (hr : Room k A) : A.units + 65 < cLine := by have := hr.un; omega
theorem hu1 {A : Around} {k : Nat} (hr : Room k A) : A.units + 1 < cLine := by have := hr.un; omega
end
end Y
set_option maxRecDepth 100000
set_option maxHeartbeats 4000000
namespace Y
open PySem PySem.Spec L2
section
variable {X : Cx} {EX : Hp → V → Str → Option PyData → Prop} {W : WX} {a : Expr} {fa : DS → Out EV} {x : Str} {pos pos' : Pos}
theorem yv (i : Nat) (hN : X.N[i]? = some x := by rfl) (hv : Vis X.env.scope x := by first | exact Or.inl rfl | exact Or.inr (Or.inl rfl) | exact Or.inr (Or.inr rfl)) (hd : (x == ("__debug__" : Str)) = false := by decide) (hcd : (x == ("__classdict__" : Str)) = false := by decide) : DE X EX W (.Name x pos) (eVar i) := de_var hN hv hd hcd
theorem yglobS {z : Str} (h : ∃ t, X.mg x = some (.str z t)) (hg : Gl X x := by rfl) (hd : (x == ("__debug__" : Str)) = false := by decide) : DE X EX W (.Name x pos) (eC (.str z)) := by
 obtain ⟨t, h⟩ := h
 exact de_c (v := .str z) (pe_glob hg h ⟨t, rfl⟩ hd) fun F => .str z
theorem yglobI {z : Int} (h : ∃ t, X.mg x = some (.int z t)) (hg : Gl X x := by rfl) (hd : (x == ("__debug__" : Str)) = false := by decide) : DE X EX W (.Name x pos) (eC (.int z)) := by
 obtain ⟨t, h⟩ := h
 exact de_c (v := .int z) (pe_glob hg h ⟨t, rfl⟩ hd) fun F => .int z
theorem yglobT {p : Addr} {d : PyData} (h : X.mg x = some (.ref p)) (hD : ∀ F, Dp X.K F (.ref p) d) (hg : Gl X x := by rfl) (hd : (x == ("__debug__" : Str)) = false := by decide) : DE X EX W (.Name x pos) (eRo d) :=
 de_ro (pe_glob (v := .ref p) hg h rfl hd) hD
theorem yset (i : Nat) (hN : X.N.Nodup) (ha : DE X EX W a fa) (hi : X.N[i]? = some x := by rfl) (hx : Loc X.env.scope x := by first | exact Or.inl rfl | exact Or.inr rfl)
  (hs : swapsWith a (some (.Name x pos')) pos.line X.env = pure false := by rfl) (hf : X.fn x = true ∨ X.env.scope.names.lookup x = some .local := by first | exact .inl rfl | exact .inr rfl) : DSt X EX W (.Assign [.Name x pos'] a pos) (sAsg fa (gSet i)) := ds_set hN hi hx ha hs hf
theorem ysetg (i : Nat) (hN : X.N.Nodup) (hi : X.N[i]? = some x := by rfl) (hx : Loc X.env.scope x := by first | exact Or.inl rfl | exact Or.inr rfl) (hf : X.fn x = true ∨ X.env.scope.names.lookup x = some .local := by first | exact .inl rfl | exact .inr rfl) : DG X EX W (.Name x pos) (gSet i) := dg_name hN hi hx hf
theorem yg (i : Nat) (hN : X.N.Nodup) (hi : X.N[i]? = some x := by rfl) (hx : Loc X.env.scope x := by first | exact Or.inl rfl | exact Or.inr rfl) (hf : X.fn x = true ∨ X.env.scope.names.lookup x = some .local := by first | exact .inl rfl | exact .inr rfl) : PG X (.Name x pos) (gName i) := pg_name hN hi hx hf
end
end Y
set_option maxRecDepth 100000
set_option maxHeartbeats 4000000
namespace Y
open PySem PySem.Spec L2
def IsTab (K : PySem.W.Frag) (mg : Str → Option Value) (tab : List (Str × Bool)) (cv : Value) : Prop := ∀ c b, tab.lookup c = some b → ∃ D, mg c = some (.ref D) ∧ ExcC K D ∧ PySem.W.kitOne K (.ref D) cv = some b
def IsTabs (K : PySem.W.Frag) (mg : Str → Option Value) (tab : List (Str × Bool)) (cvs : List Value) : Prop := ∀ c b, tab.lookup c = some b → ∃ D, mg c = some (.ref D) ∧ ExcC K D ∧ PySem.W.kitAny K (.ref D) cvs = some b
def CtTab (K : PySem.W.Frag) (mg : Str → Option Value) (tab : List (Str × Bool)) (cv : Value) : Prop := ∀ c b, tab.lookup c = some b → ∃ D, mg c = some (.ref D) ∧ PySem.W.exmOne K (.ref D) cv = some b
def exIn (a : Addr) (mg : Str → Option Value) (cls : Value) (dd : Option Addr) : Hp → V → Str → Option PyData → Prop := fun F₀ v c d => v = .ref a ∧ mg c = some cls ∧ match d with
 | none => dd = none
 | some x => ∃ b w, dd = some b ∧ F₀ b = some (.xd [(("at" : Str), w)]) ∧ Fz F₀ w x
def ClsE (X : Cx) (e : Expr) (cv : Value) : Prop := ∃ v, ClsV v cv ∧ PE X e (tC v)
def ClsEs (X : Cx) (es : List Expr) (cvs : List Value) : Prop := ∃ vs, Paired ClsV vs cvs ∧ PA X es (fun σ H Q => Q vs H)
section
variable {X : Cx} {x : Str} {pos : Pos} {e : Expr} {es : List Expr} {C : Addr} {cv : Value} {cvs : List Value}
theorem clsE_own (hm : X.mg x = some (.ref C)) (hg : Gl X x := by rfl) (hd : (x == ("__debug__" : Str)) = false := by decide) : ClsE X (.Name x pos) (.ref C) := ⟨_, .own C, pe_glob hg hm rfl hd⟩
theorem clsEs_nil : ClsEs X [] [] := ⟨[], .nil, pa_nil⟩
theorem clsEs_cons (h : ClsE X e cv) (hr : ClsEs X es cvs) (hs : starEach (e :: es) X.env = (false, eval e X.env) :: starEach es X.env := by rfl) : ClsEs X (e :: es) (cv :: cvs) := by
 obtain ⟨v, h1, h2⟩ := h
 obtain ⟨vs, h3, h4⟩ := hr
 exact ⟨v :: vs, .cons h1 h3, pa_cons h2 h4 hs⟩
end
theorem paired_len {A B : Type} {R : A → B → Prop} : ∀ {xs : List A} {ys : List B}, Paired R xs ys → xs.length = ys.length
 | _, _, .nil => rfl
 | _, _, .cons _ h => by simp [paired_len h]
def rIsET (K : PySem.W.Frag) (D a : Addr) : List V → Hp → VK → Prop := fun xs H Q => ∃ (tp : Addr) (cs : List V) (us : List Value) (b : Bool), xs = [.ref a, .ref tp] ∧ H tp = some (.tup cs) ∧ Paired ClsV cs us ∧ PySem.W.kitAny K (.ref D) us = some b ∧ Q (.bl b) H
theorem call_isET {X : Cx} {a D : Addr} {oe : Obj} {pn : List (Addr × Obj)} (C : ExcC X.K D) (hz : Zc (.ref D) none oe) (hf : ∃ vs, oe.data = .fields vs) : CallR (X.suite a ((a, oe) :: pn)) (.builtin "isinstance") (rIsET X.K D a) := by
 intro pins s σ H xs us Q I r h
 obtain ⟨tp, cs, ws, b, rfl, hT, k, e, q⟩ := h
 cases r with
 | cons rx rr =>
  cases rr with
  | cons rt rr =>
   cases rr
   cases rx
   cases rt
   obtain ⟨_, its, rv, o, h1, h2, n, h3⟩ := (show ObjOk X.prog X.w H s.heap tp (.tup cs) from I.hok tp _ hT)
   have e3 := ClsV.all k rv
   subst e3
   obtain ⟨hget, _⟩ := I.pin (a, oe) (List.mem_append.mpr (.inl List.mem_cons_self))
   obtain ⟨vs, hv⟩ := hf
   have J : PySem.W.InstAt s.heap a oe D none := by
    obtain ⟨oc, od, oda, osl⟩ := oe
    obtain ⟨h1, h2⟩ := hz
    dsimp only at h1 h2 hv
    subst h1 h2 hv
    exact ⟨hget, rfl, rfl, trivial⟩
   obtain ⟨oc, od, dt, sl⟩ := o
   simp only at h2 h3
   subst h2 h3
   exact PySem.W.kia_tup (PySem.W.handS_kitx_exc C.hg C.hk C.hs C.hd C.ha C.hn C.ht C.hm) I.kIn J h1 e (fun z => nomatch z) fun tk => ⟨.bl b, H, I.tok tk, rfl, q⟩
def eIsE (i : Nat) (tab : List (Str × Bool)) : DS → Out EV := fun S => match S.sl[i]? with
 | some (some (.ex c none)) => match tab.lookup c with
  | some b => .ok (.sv (.fz (.bool b))) S []
  | none => .fail
 | _ => .fail
theorem post_grow {C : Cn} {AV : List V} {F H : Hp} {σ : L2.St} {S : DS} {fp : Rt → List Addr} {p : Addr} {o : HO} (s1 : StOk C AV F H σ S fp) (hp : H p = none) : Post C AV F H σ S fp [] S F (upd H p o) fp := by
 have keep : ∀ a o', H a = some o' → upd H p o a = some o' := fun a o z => upd_keep hp z
 have same : ∀ a o', H a = some o' → upd H p o a = H a := fun a o z => (keep a o z).trans z.symm
 have kp : ∀ r a, a ∈ fp r → upd H p o a = H a ∧ F a = none := fun r a ha => by
  obtain ⟨m1, o, m2⟩ := s1.mm r a ha
  exact ⟨same a o m2, m1⟩
 have st3 : StOk C AV F (upd H p o) σ S fp := by
  refine ⟨fun a o z => keep a o (s1.fh a o z), fun i x hx => ?_, fun j t1 hj => ?_, s1.dj, s1.nd, fun r a ha => ?_, fun r a xs ha z => s1.mt r a xs ha ((kp r a ha).1 ▸ z), s1.ln, s1.la⟩
  ·obtain ⟨v, q1, q2⟩ := s1.sl i x hx
   refine ⟨v, q1, ?_⟩
   cases x with
   | tr t1 => exact own_keep (fun _ _ z => z) t1 v _ q2 (kp _)
   | ar j => exact q2
   | ex c d => exact q2
  ·obtain ⟨v, q1, q2⟩ := s1.ar j t1 hj
   exact ⟨v, q1, own_keep (fun _ _ z => z) t1 v _ q2 (kp _)⟩
  ·obtain ⟨m1, o, m2⟩ := s1.mm r a ha
   exact ⟨m1, o, keep a o m2⟩
 exact ⟨st3, ⟨fun _ _ z => z, fun a o z _ => keep a o z, fun a o z z' => (by rw [z] at z'; cases z'), fun a o z => ⟨o, keep a o z⟩⟩, fun _ _ => ⟨rfl, rfl⟩, fun _ _ _ => .inr (.inr (by simp))⟩
section
variable {X : Cx} {W : WX} {n x : Str} {p p1 p2 pos : Pos} {i : Nat} {a : Addr} {oe : Obj} {cls : Value} {d : Option Addr} {pn : List (Addr × Obj)} {tab : List (Str × Bool)} {cv : Value} {cvs : List Value} {ce : Expr} {ces : List Expr}
theorem de_isE (i : Nat) (tab : List (Str × Bool)) (hz : Zc cls d oe) (hf : ∃ vs, oe.data = .fields vs) (ht : IsTab X.K X.mg tab cv) (hc : ClsE (X.suite a ((a, oe) :: pn)) ce cv) (hm : X.mg "isinstance" = none) (hN : X.N[i]? = some n := by rfl) (hv : Vis X.env.scope n := by first | exact Or.inl rfl | exact Or.inr (Or.inl rfl) | exact Or.inr (Or.inr rfl))
  (hg : Gl X "isinstance" := by rfl)
  (hd : (n == ("__debug__" : Str)) = false := by decide) (hcd : (n == ("__classdict__" : Str)) = false := by decide)
  (hs : starEach [.Name n p1, ce] X.env = (false, eval (.Name n p1) X.env) :: starEach [ce] X.env := by rfl)
  (hs2 : starEach [ce] X.env = (false, eval ce X.env) :: starEach [] X.env := by rfl) (hpl : (backTo pos (starEach [ce] X.env)).any (·.1) = false := by rfl) :
  DE (X.suite a ((a, oe) :: pn)) (exIn a X.mg cls d) W (.Call (.Name "isinstance" p) [.Name n p1, ce] [] pos) (eIsE i tab) := by
 refine ⟨fun pins s σ H Q I h => ?_⟩
 obtain ⟨AV, F, S, fp, st, q⟩ := h
 unfold eIsE at q
 split at q
 ·rename_i c e1
  split at q
  ·rename_i b e2
   obtain ⟨v, e3, o⟩ := st.sl i _ e1
   obtain ⟨⟨F₀, _, rfl, hcl, rfl⟩, _⟩ := (show (∃ F₀, _ ∧ exIn a X.mg cls d F₀ v c none) ∧ _ from o)
   obtain ⟨D, g1, g2, g3⟩ := ht c b e2
   cases hcl.symm.trans g1
   obtain ⟨vc, k1, k2⟩ := hc
   have := pe_callB (X := X.suite a ((a, oe) :: pn)) (p := p) (pos := pos) (call_isE g2 hz hf) hg hm (by with_unfolding_all rfl) (pa_cons (pe_var (pos := p1) hN hv hd hcd) (pa_cons k2 pa_nil hs2) hs) (he := hs) (hpl := hpl)
   refine this.run pins s σ H Q I ⟨.ref a, e3, vc, cv, b, rfl, fun u r => k1.eq r, g3, q F H fp (.bl b) [] (.refl st) (vp_fz (.bl _))⟩
  ·exact q.elim
 ·exact q.elim
theorem de_isET {kk : Nat} {p3 : Pos} (i : Nat) (tab : List (Str × Bool)) (hz : Zc cls d oe) (hf : ∃ vs, oe.data = .fields vs) (ht : IsTabs X.K X.mg tab cvs) (hc : ClsEs (X.suite a ((a, oe) :: pn)) ces cvs) (hm : X.mg "isinstance" = none) (hl : cvs.length ≤ 1000 := by exact Nat.le_of_ble_eq_true rfl) (hN : X.N[i]? = some n := by rfl) (hv : Vis X.env.scope n := by first | exact Or.inl rfl | exact Or.inr (Or.inl rfl) | exact Or.inr (Or.inr rfl))
  (hg : Gl X "isinstance" := by rfl)
  (hd : (n == ("__debug__" : Str)) = false := by decide) (hcd : (n == ("__classdict__" : Str)) = false := by decide)
  (hs : starEach [.Name n p1, .Tuple ces kk p3] X.env = (false, eval (.Name n p1) X.env) :: starEach [.Tuple ces kk p3] X.env := by rfl)
  (hs2 : starEach [.Tuple ces kk p3] X.env = (false, eval (.Tuple ces kk p3) X.env) :: starEach [] X.env := by rfl) (hpl : (backTo pos (starEach [.Tuple ces kk p3] X.env)).any (·.1) = false := by rfl) :
  DE (X.suite a ((a, oe) :: pn)) (exIn a X.mg cls d) W (.Call (.Name "isinstance" p) [.Name n p1, .Tuple ces kk p3] [] pos) (eIsE i tab) := by
 refine ⟨fun pins s σ H Q I h => ?_⟩
 obtain ⟨AV, F, S, fp, st, q⟩ := h
 unfold eIsE at q
 split at q
 ·rename_i c e1
  split at q
  ·rename_i b e2
   obtain ⟨v, e3, o⟩ := st.sl i _ e1
   obtain ⟨⟨F₀, _, rfl, hcl, rfl⟩, _⟩ := (show (∃ F₀, _ ∧ exIn a X.mg cls d F₀ v c none) ∧ _ from o)
   obtain ⟨D, g1, g2, g3⟩ := ht c b e2
   cases hcl.symm.trans g1
   obtain ⟨vc, k1, k2⟩ := hc
   have := pe_callB (X := X.suite a ((a, oe) :: pn)) (p := p) (pos := pos) (call_isET g2 hz hf) hg hm (by with_unfolding_all rfl) (pa_cons (pe_var (pos := p1) hN hv hd hcd) (pa_cons (pe_tup (pos := p3) (x1 := kk) k2) pa_nil hs2) hs) (he := hs) (hpl := hpl)
   refine this.run pins s σ H Q I ⟨.ref a, e3, by rw [paired_len k1, sizeLine_eq]; exact Nat.le_trans hl (by decide), fun tp hp => ?_⟩
   have pg := post_grow (o := .tup vc) st hp
   exact ⟨tp, vc, cvs, b, rfl, upd_same, k1, g3, q F _ fp (.bl b) [] pg (vp_fz (.bl _))⟩
  ·exact q.elim
 ·exact q.elim
end
def noEx (S : DS) : Bool := S.sl.all fun x => match x with
 | some (.ex _ _) => false
 | _ => true
def DS.killE (i : Nat) (S : DS) : DS := { S with sl := S.sl.set i none }
def sTry (i : Nat) (tab : List (Str × Bool)) (fb fh : DS → SOut) : DS → SOut := fun S => match fb S with
 | .exc c none S1 => if noEx S1 = true ∧ i < S1.sl.length then
   match tab.lookup c with
   | some true => match fh { S1 with sl := S1.sl.set i (some (.ex c none)) } with
    | .nx S2 => if noEx (S2.killE i) = true then .nx (S2.killE i) else .fail
    | .bk S2 => if noEx (S2.killE i) = true then .bk (S2.killE i) else .fail
    | .ct S2 => if noEx (S2.killE i) = true then .ct (S2.killE i) else .fail
    | .rt t A => .rt t A
    | _ => .fail
   | some false => .exc c none S1
   | none => .fail
  else .fail
 | .exc _ (some _) _ => .fail
 | o => o
theorem noEx_at {S : DS} (h : noEx S = true) {i : Nat} {c : Str} {d : Option PyData} : S.sl[i]? ≠ some (some (.ex c d)) := fun e => by
 have m := List.mem_of_getElem? e
 unfold noEx at h
 have := List.all_eq_true.mp h _ m
 cases this
theorem st_ex {C C' : Cn} {AV : List V} {F H : Hp} {σ : L2.St} {S : DS} {fp : Rt → List Addr} (hK : C.K = C'.K) (h : StOk C AV F H σ S fp) (n : noEx S = true) : StOk C' AV F H σ S fp where
 fh := h.fh
 sl i x e := by
  obtain ⟨v, h1, h2⟩ := h.sl i x e
  refine ⟨v, h1, ?_⟩
  cases x with
  | tr t => unfold SlOk at h2 ⊢; rw [← hK]; exact h2
  | ar j => exact h2
  | ex c d => exact absurd e (noEx_at n)
 ar j t e := by
  obtain ⟨v, h1, h2⟩ := h.ar j t e
  exact ⟨v, h1, hK ▸ h2⟩
 dj := h.dj
 nd := h.nd
 mm := h.mm
 mt := h.mt
 ln := h.ln
 la := h.la
theorem st_setEx {C : Cn} {AV : List V} {F H : Hp} {σ : L2.St} {S : DS} {fp : Rt → List Addr} (h : StOk C AV F H σ S fp) {i : Nat} {c : Str} {d : Option PyData} {v : V} (hi : i < S.sl.length) (hx : C.EX F v c d) :
  StOk C AV F H (σ.set i (some v)) { S with sl := S.sl.set i (some (.ex c d)) } (updF fp (.s i) []) := by
 have sub : ∀ r a, a ∈ updF fp (.s i) [] r → a ∈ fp r ∧ r ≠ .s i := fun r a ha => by
  by_cases z : r = .s i
  ·rw [z, updF_same] at ha; cases ha
  ·rw [updF_ne z] at ha; exact ⟨ha, z⟩
 refine ⟨h.fh, fun j x e => ?_, fun j t e => ?_, fun r r' a h1 h2 => h.dj r r' a (sub r a h1).1 (sub r' a h2).1, fun r => ?_, fun r a ha => h.mm r a (sub r a ha).1, fun r a xs ha => h.mt r a xs (sub r a ha).1, by simp [h.ln], h.la⟩
 ·dsimp only at e
  by_cases z : j = i
  ·subst z
   rw [List.getElem?_set_self hi] at e
   cases e
   refine ⟨v, List.getElem?_set_self (by rw [← h.ln]; exact hi), ⟨F, fun _ _ z => z, hx⟩, updF_same⟩
  ·rw [List.getElem?_set_ne (fun q => z q.symm)] at e
   obtain ⟨u, h1, h2⟩ := h.sl j x e
   refine ⟨u, by rw [List.getElem?_set_ne (fun q => z q.symm)]; exact h1, ?_⟩
   rw [updF_ne (by intro q; cases q; exact z rfl)]
   exact h2
 ·obtain ⟨u, h1, h2⟩ := h.ar j t e
  refine ⟨u, h1, ?_⟩
  rw [updF_ne (by intro q; cases q)]
  exact h2
 ·by_cases z : r = .s i
  ·rw [z, updF_same]; exact .nil
  ·rw [updF_ne z]; exact h.nd r
theorem st_kill {C : Cn} {AV : List V} {F H : Hp} {σ : L2.St} {S : DS} {fp : Rt → List Addr} (h : StOk C AV F H σ S fp) (i : Nat) : StOk C AV F H (σ.set i none) (S.killE i) (updF fp (.s i) []) := by
 have sub : ∀ r a, a ∈ updF fp (.s i) [] r → a ∈ fp r ∧ r ≠ .s i := fun r a ha => by
  by_cases z : r = .s i
  ·rw [z, updF_same] at ha; cases ha
  ·rw [updF_ne z] at ha; exact ⟨ha, z⟩
 refine ⟨h.fh, fun j x e => ?_, fun j t e => ?_, fun r r' a h1 h2 => h.dj r r' a (sub r a h1).1 (sub r' a h2).1, fun r => ?_, fun r a ha => h.mm r a (sub r a ha).1, fun r a xs ha => h.mt r a xs (sub r a ha).1, by unfold DS.killE; simp [h.ln], h.la⟩
 ·unfold DS.killE at e
  dsimp only at e
  by_cases z : j = i
  ·subst z
   by_cases hi : j < S.sl.length
   ·rw [List.getElem?_set_self hi] at e; cases e
   ·rw [List.getElem?_eq_none (by simp; omega)] at e; cases e
  ·rw [List.getElem?_set_ne (fun q => z q.symm)] at e
   obtain ⟨u, h1, h2⟩ := h.sl j x e
   refine ⟨u, by rw [List.getElem?_set_ne (fun q => z q.symm)]; exact h1, ?_⟩
   rw [updF_ne (by intro q; cases q; exact z rfl)]
   exact h2
 ·obtain ⟨u, h1, h2⟩ := h.ar j t e
  refine ⟨u, h1, ?_⟩
  rw [updF_ne (by intro q; cases q)]
  exact h2
 ·by_cases z : r = .s i
  ·rw [z, updF_same]; exact .nil
  ·rw [updF_ne z]; exact h.nd r
theorem al_sub {fp : Rt → List Addr} {r0 : Rt} {a : Addr} (h : Al (updF fp r0 []) a) : Al fp a := by
 obtain ⟨r, hr⟩ := h
 by_cases z : r = r0
 ·rw [z, updF_same] at hr; cases hr
 ·rw [updF_ne z] at hr; exact ⟨r, hr⟩
section
variable {X : Cx} {EX : Hp → V → Str → Option PyData → Prop} {W : WX} {x n : Str} {body suite : List Stmt} {b₀ : Stmt} {np pos pos' : Pos} {cv : Value} {i : Nat} {tab : List (Str × Bool)} {fb fh : DS → SOut}
theorem ds_try (i : Nat) (tab : List (Str × Bool)) (hN : X.N.Nodup) (tk : Takes X W) (hc : Names X x cv) (ht : CtTab X.K X.mg tab cv)
  (hs : X.stack = X.env :: X.outer) (hf : X.env.frame = some X.env.locals)
  (hb : ∀ (W : WX) (pn : List (Addr × Obj)) (xe : Value → Shared → Prop), Takes (X.tr pn xe) W → PassesOwn (model X.prog X.w) X.A X.env xe → DSs (X.tr pn xe) EX W body fb)
  (hsu : ∀ (a : Addr) (oe : Obj) (cls : Value) (d : Option Addr) (pn : List (Addr × Obj)), Zc cls d oe → (∃ vs, oe.data = .fields vs) → DSs (X.suite a ((a, oe) :: pn)) (exIn a X.mg cls d) never (b₀ :: suite) fh)
  (hi : X.N[i]? = some n := by rfl) (hln : X.env.kindOf n = some .local := by rfl) :
  DSt X EX W (.Try body [.ExceptHandler (some (.Name x np)) (some n) (b₀ :: suite) pos'] [] [] pos) (sTry i tab fb fh) := by
 refine ps_of (ps_try_as (i := i) (ts := fun a cls d => LS ⟨X.K, X.mg, exIn a X.mg cls d⟩ never fh) (tb := fun W => LS (cnOf X EX) W fb) hs hf hN hi hln hc tk hb hsu) fun D σ H ⟨AV, F, S, fp, st, q⟩ => ?_
 refine ⟨AV, F, S, fp, st, ?_⟩
 unfold sTry at q
 generalize fb S = o at q ⊢
 cases o with
 | fail => exact q
 | nx S1 => exact q
 | bk S1 => exact q
 | ct S1 => exact q
 | rt t A => exact q
 | exc c d S1 =>
  cases d with
  | some d => exact q.elim
  | none =>
   dsimp only at q
   split at q
   ·rename_i hh
    obtain ⟨h1, h2⟩ := hh
    intro σ' F' H' fp' cls dd st' ev ex
    obtain ⟨ex1, ex2⟩ := ex
    dsimp only at ex2
    subst ex2
    cases e1 : tab.lookup c with
    | none => rw [e1] at q; exact q.elim
    | some b =>
     rw [e1] at q
     obtain ⟨D0, g1, g2⟩ := ht c b e1
     cases ex1.symm.trans g1
     refine ⟨b, g2, fun hb => ?_, fun hb => ?_⟩
     ·subst hb
      intro a na
      have s2 : StOk ⟨X.K, X.mg, exIn a X.mg (.ref D0) none⟩ AV F' H' σ' S1 fp' := st_ex (C := cnOf X EX) (C' := ⟨X.K, X.mg, exIn a X.mg (.ref D0) none⟩) rfl st' h1
      have s3 := st_setEx (i := i) (c := c) (d := none) (v := .ref a) s2 h2 ⟨rfl, g1, rfl⟩
      refine ⟨AV, F', _, _, s3, ?_⟩
      have e0 : EvA F H F' H' fp (updF fp' (.s i) []) := ⟨ev.evo, fun a ha => ev.new a (al_sub ha)⟩
      dsimp only at q
      generalize fh { S1 with sl := S1.sl.set i (some (.ex c none)) } = o2 at q ⊢
      have fin : ∀ {S2 : DS}, noEx (S2.killE i) = true → ∀ (σ2 : L2.St) (F2 H2 : Hp) (fp2 : Rt → List Addr), StOk ⟨X.K, X.mg, exIn a X.mg (.ref D0) none⟩ AV F2 H2 σ2 S2 fp2 → EvA F' H' F2 H2 (updF fp' (.s i) []) fp2 →
        StOk (cnOf X EX) AV F2 H2 (σ2.set i none) (S2.killE i) (updF fp2 (.s i) []) ∧ EvA F H F2 H2 fp (updF fp2 (.s i) []) := fun n2 σ2 F2 H2 fp2 s4 ev2 =>
       ⟨st_ex (C := ⟨X.K, X.mg, exIn a X.mg (.ref D0) none⟩) rfl (st_kill s4 i) n2, e0.trans ⟨ev2.evo, fun a ha => ev2.new a (al_sub ha)⟩⟩
      cases o2 with
      | fail => exact q.elim
      | exc c d S2 => exact q.elim
      | nx S2 =>
       dsimp only at q
       split at q
       ·rename_i n2
        intro σ2 F2 H2 fp2 s4 ev2
        obtain ⟨s5, e5⟩ := fin n2 σ2 F2 H2 fp2 s4 ev2
        exact q _ F2 H2 _ s5 e5
       ·exact q.elim
      | bk S2 =>
       dsimp only at q
       split at q
       ·rename_i n2
        intro σ2 F2 H2 fp2 s4 ev2
        obtain ⟨s5, e5⟩ := fin n2 σ2 F2 H2 fp2 s4 ev2
        exact q _ F2 H2 _ s5 e5
       ·exact q.elim
      | ct S2 =>
       dsimp only at q
       split at q
       ·rename_i n2
        intro σ2 F2 H2 fp2 s4 ev2
        obtain ⟨s5, e5⟩ := fin n2 σ2 F2 H2 fp2 s4 ev2
        exact q _ F2 H2 _ s5 e5
       ·exact q.elim
      | rt t A => exact SW.later (C := cnOf X EX) (W := W) e0 q
     ·subst hb
      exact q σ' F' H' fp' (.ref D0) none st' ev ⟨g1, rfl⟩
   ·exact q.elim
end
end Y
namespace Y
open PySem PySem.Spec L2
def exCB (K : PySem.W.Frag) (D : Addr) : Bool :=
 decide (PySem.W.findIn K (.ref D) "__getattribute__" = some (some (.builtin "BaseException.__getattribute__"))) && (decide (PySem.W.findIn K (.ref D) "__getattr__" = some none) && (decide (PySem.W.subIn K (.ref D) (.type "BaseException") = some true) && (PySem.W.hasDictIn K D &&
 (decide (PySem.W.findIn K (.ref D) "__class__" = some (some (.builtin "object.__class__"))) && (decide (PySem.W.specialIn K (.builtin "object.__class__") "__get__" = some (some (.builtin "getset_descriptor.__get__"))) && (decide (PySem.W.takesIn K (.builtin "object.__class__") = some true) && decide (PySem.W.mroIn K D (.type "object") = some true)))))))
theorem exCB_ok {K : PySem.W.Frag} {D : Addr} (h : exCB K D = true) : ExcC K D := by
 unfold exCB at h
 simp only [Bool.and_eq_true, decide_eq_true_eq] at h
 obtain ⟨h1, h2, h3, h4, h5, h6, h7, h8⟩ := h
 exact ⟨h1, h2, h3, h4, h5, h6, h7, h8⟩
def tabB (K : PySem.W.Frag) (f : Addr → Bool → Bool) : List (Str × Bool) → Bool
 | [] => true
 | p :: r => (He.eqO (PySem.W.nsIn K mainGlobals p.1) (some (some (.ref (He.ga K p.1)))) && f (He.ga K p.1) p.2) && tabB K f r
theorem tabB_ok {K : PySem.W.Frag} {f : Addr → Bool → Bool} {h : Heap} {mg : Str → Option Value} (X : K.In h) (G : h.Ns mainGlobals mg) : ∀ {tab : List (Str × Bool)}, tabB K f tab = true → ∀ c b, tab.lookup c = some b → mg c = some (.ref (He.ga K c)) ∧ f (He.ga K c) b = true
 | [], _, c, b, e => nomatch e
 | p :: r, h, c, b, e => by
  unfold tabB at h
  simp only [Bool.and_eq_true] at h
  obtain ⟨⟨h1, h2⟩, h3⟩ := h
  rw [List.lookup_cons] at e
  cases z : (c == p.1) with
  | true =>
   rw [z] at e
   cases e
   cases beq_iff_eq.mp z
   exact ⟨PySem.W.mg_of X G (He.eqO_ok h1), h2⟩
  | false =>
   rw [z] at e
   exact tabB_ok X G h3 c b e
def isB (K : PySem.W.Frag) (cv : Value) : Addr → Bool → Bool := fun D b => exCB K D && decide (PySem.W.kitOne K (.ref D) cv = some b)
def isTB (K : PySem.W.Frag) (cvs : List Value) : Addr → Bool → Bool := fun D b => exCB K D && decide (PySem.W.kitAny K (.ref D) cvs = some b)
def ctB (K : PySem.W.Frag) (cv : Value) : Addr → Bool → Bool := fun D b => decide (PySem.W.exmOne K (.ref D) cv = some b)
section
variable {K : PySem.W.Frag} {h : Heap} {mg : Str → Option Value} {tab : List (Str × Bool)} {cv : Value} {cvs : List Value}
theorem isTab_of (X : K.In h) (G : h.Ns mainGlobals mg) (e : tabB K (isB K cv) tab = true) : IsTab K mg tab cv := fun c b q => by
 obtain ⟨h1, h2⟩ := tabB_ok X G e c b q
 unfold isB at h2
 simp only [Bool.and_eq_true, decide_eq_true_eq] at h2
 exact ⟨_, h1, exCB_ok h2.1, h2.2⟩
theorem isTabs_of (X : K.In h) (G : h.Ns mainGlobals mg) (e : tabB K (isTB K cvs) tab = true) : IsTabs K mg tab cvs := fun c b q => by
 obtain ⟨h1, h2⟩ := tabB_ok X G e c b q
 unfold isTB at h2
 simp only [Bool.and_eq_true, decide_eq_true_eq] at h2
 exact ⟨_, h1, exCB_ok h2.1, h2.2⟩
theorem ctTab_of (X : K.In h) (G : h.Ns mainGlobals mg) (e : tabB K (ctB K cv) tab = true) : CtTab K mg tab cv := fun c b q => by
 obtain ⟨h1, h2⟩ := tabB_ok X G e c b q
 exact ⟨_, h1, of_decide_eq_true h2⟩
def RzOk (K : PySem.W.Frag) (mg : Str → Option Value) (x : Str) : Prop := ∃ C, mg x = some (.ref C) ∧ PySem.W.excIn K C He.veBase "ValueError.__new__" = true ∧ PySem.W.keepIn K (.ref C) = true ∧ PySem.W.subIn K (.ref C) (.type "BaseException") = some true ∧ PySem.W.typeIn K (.ref C) = some (.type "type")
theorem rzOk_of {x : Str} (h1 : mg x = some (.ref (He.ga K x))) (h2 : (He.Fa.exc x).ok K = true) : RzOk K mg x := by
 obtain ⟨q1, q2, q3, q4⟩ := He.exc_ok h2
 exact ⟨_, h1, q1, q2, q3, q4⟩
end
section
variable {X : Cx} {EX : Hp → V → Str → Option PyData → Prop} {W : WX}
theorem ds_raiseY {x m : Str} {j : Nat} {p p2 pos2 pos : Pos} (h : RzOk X.K X.mg x) (hc : X.calm = true) (tk : Takes X W) (hg : Gl X x := by rfl) (hdb : (x == ("__debug__" : Str)) = false := by decide) :
  DSt X EX W (.Raise (some (.Call (.Name x p) [.Constant (.str m) j p2] [] pos)) none pos2) (fun S => .exc x none S) := by
 obtain ⟨C, h1, h2, h3, h4, h5⟩ := h
 exact ds_raise (pos := pos) hc tk PySem.F.excBase_ValueError h2 h1 h3 (raises_own h4 h5) hg hdb
end
end Y
set_option maxRecDepth 100000
set_option maxHeartbeats 4000000
namespace Y
open PySem PySem.Spec L2
section
variable {X : Cx} {EX : Hp → V → Str → Option PyData → Prop} {W : WX} {e a b c elt tg iter : Expr} {es ifs : List Expr} {scope : Scope} {own : List (Str × Nat)} {pos spos : Pos} {fi : DS → Out (List PyData)} {h : PyData → DS → Option DS} {g : TG} {tt : DS → Out Bool} {fe fa fb : DS → Out EV} {fr : DS → Out (List EV)} {C : Cn}
theorem tFz_LE : ∀ σ H Q, LE C W (eFz fa) σ H Q → LE C W fa σ H Q := fun σ H Q ⟨AV, F, S, fp, st, q⟩ => by
 unfold eFz at q
 refine ⟨AV, F, S, fp, st, wp_mono (wp_bindT q) fun ea S1 T1 q1 F1 H1 fp1 v fe p1 v1 => ?_⟩
 have q1' := q1 F1 H1 fp1 p1.evA
 cases ea with
 | sv t =>
  dsimp only at q1'
  cases e1 : t.frz with
  | none => rw [e1] at q1'; exact q1'.elim
  | some d =>
   rw [e1] at q1'
   obtain ⟨F2, p2, f2⟩ := vp_freeze p1 v1 e1
   exact q1' F2 H1 fp1 v [] (by simpa using p2) (vp_fz f2)
 | pk r p =>
  dsimp only at q1'
  cases e1 : S1.get r with
  | none => rw [e1] at q1'; exact q1'.elim
  | some t =>
   rw [e1] at q1'
   dsimp only at q1'
   cases e2 : t.sub p with
   | none => rw [e2] at q1'; exact q1'.elim
   | some u =>
    rw [e2] at q1'
    dsimp only at q1'
    cases e3 : u.frz with
    | none => rw [e3] at q1'; exact q1'.elim
    | some d =>
     rw [e3] at q1'
     obtain ⟨_, v0, z1, z2⟩ := v1.val
     obtain ⟨F2, fp2, p2, f2⟩ := p1.st.freeze e1 e2 e3 z1 z2
     exact q1' F2 H1 fp2 v [] (p1.trans p2) (vp_fz f2)
theorem ds_setLcF {i : Nat} {y : Str} {py : Pos} (ct : CT (cnOf X EX) (own.map (·.2)) h g) (hc : X.calm = true) (hN : X.N.Nodup) (hy : X.N[i]? = some y) (hyl : X.env.scope.names.lookup y = some .local)
  (hsw : swapsWith (.ListComp elt [⟨tg, iter, ifs, 0⟩] scope pos) (some (.Name y py)) spos.line X.env = pure true) (hi : DI X EX W tg iter fi) (ok : BlkOk X.N X.env.scope scope own)
  (hg : ∀ (s : Shared) (H : Hp) (C : Addr) (cl : List (Str × Addr)) (fp : List Addr), PG (X.blk s H scope (compEnvC scope cl C X.env) fp) tg g)
  (ht : ∀ (s : Shared) (H : Hp) (C : Addr) (cl : List (Str × Addr)) (fp : List Addr), PTs (X.blk s H scope (compEnvC scope cl C X.env) fp) ifs (LT (cnOf X EX) never tt))
  (he : ∀ (s : Shared) (H : Hp) (C : Addr) (cl : List (Str × Addr)) (fp : List Addr), DE (X.blk s H scope (compEnvC scope cl C X.env) fp) EX never elt fe)
  (hs : ∀ x, foldedSetIterable iter X.env x = pure x := by intro _; rfl) : DSt X EX W (.Assign [.Name y py] (.ListComp elt [⟨tg, iter, ifs, 0⟩] scope pos) spos) (sAsg (eFz (eLc (own.map (·.2)) fi h tt fe)) (gSet i)) := by
 refine ps_of (ps_setLc (te := LE (cnOf X EX) never fe) hc hN hy hyl hsw hi ok hg ht he hs) fun D σ H ⟨AV, F, S, fp, st, q⟩ => ?_
 have key : LE (cnOf X EX) W (eFz (eLc (own.map (·.2)) fi h tt fe)) σ H fun x H1 => gName i x σ H1 D.nx := by
  refine ⟨AV, F, S, fp, st, wp_mono (sw_bind (σ := σ) q) fun e S1 T1 q1 F1 H1 fp1 v fe p1 v1 => ?_⟩
  cases e with
  | pk r p => exact q1.elim
  | sv t =>
   have ev := p1.evA
   refine q1 (σ.set i (some v)) F1 H1 _ (p1.st.setSl v1.val v1.dj v1.nd) ⟨ev.evo, fun a ⟨r, hr⟩ => ?_⟩
   by_cases z : r = .s i
   ·rw [z, updF_same] at hr; exact (v1.new a hr).imp (fun y => y.al) id
   ·rw [updF_ne z] at hr; exact ev.new a ⟨r, hr⟩
 exact tLc_LE (C := cnOf X EX) ct σ H _ (tFz_LE (C := cnOf X EX) σ H _ key)
end
end Y
set_option maxRecDepth 100000
set_option maxHeartbeats 4000000
namespace Y
open PySem PySem.Spec L2 PyProof PyProof.Rows
section
variable {X : Cx} {F : Hp}
def strsJ : List PyData → Option (List Str)
 | [] => some []
 | .str x :: r => match strsJ r with
  | some l => some (x :: l)
  | none => none
 | _ :: _ => none
theorem strsJ_eq : ∀ {ds : List PyData} {ys : List Str}, strsJ ds = some ys → ds = ys.map PyData.str
 | [], ys, h => by cases h; rfl
 | .str x :: r, ys, h => by
  unfold strsJ at h
  cases e : strsJ r with
  | none => rw [e] at h; cases h
  | some l =>
   rw [e] at h
   cases h
   rw [strsJ_eq e]
   rfl
 | .none :: _, _, h => by cases h
 | .bool _ :: _, _, h => by cases h
 | .int _ :: _, _, h => by cases h
 | .list _ :: _, _, h => by cases h
 | .tuple _ :: _, _, h => by cases h
 | .dict _ :: _, _, h => by cases h
theorem fzAll_strs : ∀ {ys : List Str} {vs : List V}, FzAll F vs (ys.map PyData.str) → vs = ys.map V.str
 | [], _, h => by cases h; rfl
 | y :: ys, _, h => by
  cases h with
  | cons a b =>
   cases a
   rw [fzAll_strs b]
   rfl
theorem strs_fzAll : ∀ {ys : List Str}, FzAll F (ys.map V.str) (ys.map PyData.str)
 | [] => .nil
 | y :: ys => .cons (.str y) strs_fzAll
def gSplit : List SV → Option SV
 | [.fz (.str a), .fz (.str b)] => if (b.length == 0) = false ∧ a.length + 2 ≤ sizeLine then some (.lst (fzs ((Txt.split a b).map .str))) else none
 | _ => none
theorem mm_split : MtR X "str.split" (mG X.K gSplit) := by
 intro pins s σ H x xs v us Q I rx rv ⟨F, ts, z, fh, oa, e, q⟩
 unfold gSplit at e
 split at e
 ·rename_i a b
  split at e
  ·rename_i hh
   cases e
   obtain ⟨y1, y2, f1, f2, e1, o1, o2⟩ := ownA_2 oa
   cases e1
   exact mt_split pins s σ H x _ v us Q I rx rv ⟨_, _, fz_str o1, by rw [fz_str o2], hh.1, hh.2, fun p hp => q _ _ _ _ (nv_lst fh hp strs_fzAll)⟩
  ·cases e
 ·cases e
def gJoin : List SV → Option SV
 | [.fz (.str a), u] => match u.seqL with
  | some ds => match strsJ ds with
   | some ys => if (ys.map (·.length)).sum + ys.length * a.length ≤ 16777216 then some (.fz (.str (Txt.join a ys))) else none
   | none => none
  | none => none
 | _ => none
theorem mm_join : MtR X "str.join" (mG X.K gJoin) := by
 intro pins s σ H x xs v us Q I rx rv ⟨F, ts, z, fh, oa, e, q⟩
 unfold gJoin at e
 split at e
 ·rename_i a u
  split at e
  ·rename_i ds h1
   split at e
   ·rename_i ys h2
    split at e
    ·rename_i hl
     cases e
     obtain ⟨y1, y2, f1, f2, e1, o1, o2⟩ := ownA_2 oa
     cases e1
     obtain ⟨p, vs, rfl, g1, g2⟩ := own_seqL fh o2 h1
     rw [strsJ_eq h2] at g2
     rw [fzAll_strs g2] at g1
     exact mt_join pins s σ H x _ v us Q I rx rv ⟨_, p, ys, fz_str o1, rfl, .inl g1, hl, q F H _ [] (nv_fz fh (.str _))⟩
    ·cases e
   ·cases e
  ·cases e
 ·cases e
end
end Y
set_option maxRecDepth 100000
set_option maxHeartbeats 4000000
namespace Y
open PySem PySem.Spec L2
def SV.isL : SV → Bool
 | .lst _ => true
 | _ => false
def DS.free (S : DS) (i : Nat) : Bool := match S.sl[i]? with
 | some none => true
 | _ => false
section
variable {X : Cx} {EX : Hp → V → Str → Option PyData → Prop} {W : WX} {x y : Str} {i j : Nat} {p1 p2 p3 p4 p5 p6 : Pos}
end
end Y
set_option maxRecDepth 100000
set_option maxHeartbeats 4000000
namespace Y
open PySem PySem.Spec L2 PyProof PyProof.Rows
structure LamMk (P : Addr) (q : Str) (F H F1 H1 : Hp) : Prop where
 fh : ∀ a o, F1 a = some o → H1 a = some o
 fsub : ∀ a o, F a = some o → F1 a = some o
 keep : ∀ a o, H a = some o → a ≠ P → H1 a = some o
 fnew : ∀ a o, F1 a = some o → F a = none → H a = none
 tb : TbOk P q F1 H1
theorem LamMk.dom {P : Addr} {q : Str} {F H F1 H1 : Hp} (M : LamMk P q F H F1 H1) : ∀ a o, H a = some o → ∃ o', H1 a = some o' := fun a o e => by
 by_cases z : a = P
 ·obtain ⟨_, ps, h, _⟩ := M.tb
  exact ⟨_, by rw [z]; exact h⟩
 ·exact ⟨o, M.keep a o e z⟩
section
variable {X : Cx} {pins : List (Addr × Obj)} {σ : L2.St} {F H : Hp} {s : Shared}
end
section
variable {X : Cx} {pins : List (Addr × Obj)} {σ : L2.St} {H : Hp} {s : Shared} {W : WX}
end
section
variable {X : Cx} {W : WX} {EX : Hp → V → Str → Option PyData → Prop}
end
end Y
set_option maxRecDepth 100000
set_option maxHeartbeats 4000000
namespace L2
open PySem PySem.Spec PyProof.Rows
section
variable {X : Cx} {pins : List (Addr × Obj)} {σ : St} {H : Hp} {s : Shared} {a b : Addr} {r : Value} {d : V} {k : List Key} {E : Value → Shared → Prop}
end
section
variable {X : Cx} {o e f : Expr} {td ty tx : TE} {apos cpos : Pos}
end
end L2
namespace Y
open PySem PySem.Spec L2 PyProof PyProof.Rows
section
variable {C : Cn} {W : WX} {AV : List V} {F H : Hp} {σ : L2.St} {S : DS} {fp : Rt → List Addr} {r : Rt} {fd fk fv : DS → Out EV}
theorem sub_nil (t : SV) : t.sub [] = some t := by unfold SV.sub; cases t <;> rfl
theorem set_nil (t u : SV) : t.setAt [] u = u := by unfold SV.setAt; cases t <;> rfl
end
section
variable {X : Cx} {EX : Hp → V → Str → Option PyData → Prop} {W : WX} {o e f v : Expr} {fd fk fv : DS → Out EV} {apos cpos apos2 cpos2 lpos : Pos}
end
end Y
set_option maxRecDepth 100000
set_option maxHeartbeats 4000000
namespace PySem
open Sem (wp)
section
variable {prog : Program} {w : World} {K : Type} [DecidableEq K] (knd : KeyKind prog w K)
inductive NItems (h : Heap) : List (List K) → List Value → Prop
 | nil : NItems h [] []
 | cons {k : List K} {b : Addr} {ks : List (List K)} {vs : List Value} : IsTupleKey knd h k b → NItems h ks vs → NItems h (k :: ks) (.ref b :: vs)
def IsNKey (h : Heap) (ks : List (List K)) (a : Addr) : Prop := ∃ o items n, h.get? a = some o ∧ o.cls = .type "tuple" ∧ o.data = .seq items n ∧ NItems knd h ks items.toList
variable {knd}
theorem NItems.inj {h : Heap} {x y : List (List K)} {vs : List Value} (hx : NItems knd h x vs) (hy : NItems knd h y vs) : x = y := by
 induction hx generalizing y with
 | nil => cases hy; rfl
 | cons h1 _ ih =>
  cases hy with
  | cons h2 t2 => rw [h1.inj h2, ih t2]
theorem NItems.length {h : Heap} {x : List (List K)} {vs : List Value} (hx : NItems knd h x vs) : x.length = vs.length := by
 induction hx with
 | nil => rfl
 | cons _ _ ih => simp [ih]
theorem IsNKey.typeIs {s : Shared} {ks : List (List K)} {a : Addr} (x : IsNKey knd s.heap ks a) : s.TypeIs (.ref a) "tuple" := let ⟨o, _, _, ho, hc, _⟩ := x; ⟨o, ho, hc⟩
theorem IsNKey.inj {h : Heap} {a : Addr} {x y : List (List K)} (hx : IsNKey knd h x a) (hy : IsNKey knd h y a) : x = y := by
 obtain ⟨o, items, n, ho, _, hd, hi⟩ := hx
 obtain ⟨o', items', n', ho', _, hd', hi'⟩ := hy
 obtain rfl : o = o' := Option.some.inj (ho.symm.trans ho')
 rw [hd] at hd'
 injection hd' with h1 _
 subst h1
 exact hi.inj hi'
theorem NItems.keeps {h h' : Heap} {ks : List (List K)} {vs : List Value} {d : Addr} {o : Obj} {es ep} (x : NItems knd h ks vs) (ho : h.get? d = some o) (hd : o.data = .dict es ep) (hs : Heap.SameBut d h h') : NItems knd h' ks vs := by
 induction x with
 | nil => exact .nil
 | cons h1 _ ih => exact .cons (h1.keeps ho hd hs) ih
theorem IsNKey.keeps {h h' : Heap} {ks : List (List K)} {a d : Addr} {o : Obj} {es ep} (x : IsNKey knd h ks a) (ho : h.get? d = some o) (hd : o.data = .dict es ep) (hs : Heap.SameBut d h h') : IsNKey knd h' ks a := by
 obtain ⟨o', items, n, ho', hc, hd', hi⟩ := x
 have hne : a ≠ d := by
  rintro rfl
  obtain rfl : o' = o := Option.some.inj (ho'.symm.trans ho)
  rw [hd] at hd'; exact nomatch hd'
 exact ⟨o', items, n, (hs.2 a hne).trans ho', hc, hd', hi.keeps ho hd hs⟩
def nKeyHash (knd : KeyKind prog w K) (ks : List (List K)) : Int := reduceHash (Builtin.Tuple.tupleHashOf (ks.map (tupleKeyHash knd)))
def nDraws (ks : List (List K)) : Nat := (ks.map fun k => k.length + 1).sum
variable {A : Around} {E : Value → Shared → Prop} {s : Shared}
theorem wpAny_pyHash_n {ks : List (List K)} {a : Addr} {Q : Int → Shared → Prop} (hu : A.units + 8 < cLine) (hk : IsNKey knd s.heap ks a) (h : Q (nKeyHash knd ks) { s with toks := s.toks + (nDraws ks + 1) }) :
  wpAny (model prog w) A (pyHash (.ref a)) Q E s := by
 have hT := hk.typeIs
 obtain ⟨o, items, n, ho, _, hd, hi⟩ := hk
 unfold pyHash
 first | unfold pyHashByItsType | skip
 first | refine wpAny_bind (wpAny_cRoomFor_or (.inr (show A.units < cLine by omega)) ?_) | skip
 refine wpAny_bind (wpAny_specialOf hT F.slot_tuple_hash.lookup ?_)
 show wpAny _ _ (if (some (Value.builtin "tuple.__hash__") == some Value.none) = true then _ else _) Q E s
 rw [if_neg (by rw [beq_builtin_none]; exact Bool.false_ne_true)]
 refine wpAny_bind (wpAny_specialOf hT F.slot_tuple_hash.lookup ?_)
 show wpAny _ _ (callSpecialIfBoundUnlessNone? (.ref a) "__hash__" _ >>= _) Q E s
 refine wpAny_bind (wpAny_callSpecialIfBoundUnlessNone?_slot hT F.slot_tuple_hash (wpAny_call_entry F.slot_tuple_hash hT F.entry_tuple_hash ?_ (F.args_tuple_hash_1 _)))
 show wpAny _ _ (Builtin.Tuple.tupleItemsOf (.ref a) >>= _) _ _ s
 refine wpAny_bind (wpAny_tupleItemsOf ho hd ?_)
 refine wpAny_bind ?_
 rw [← Array.forIn_toList]
 refine wpAny_forIn_list _
  (fun rest (b : Array Int) s' => ∃ done left, ks = done ++ left ∧ NItems knd s.heap left rest ∧ b.toList = done.map (tupleKeyHash knd) ∧ s' = { s with toks := s.toks + nDraws done })
  _ ?_ ?_ _ _ ⟨[], ks, rfl, hi, rfl, rfl⟩
 ·rintro x rest b s' ⟨done, left, rfl, hl, hb, rfl⟩
  cases hl with
  | @cons k c ks' _ h1 hl' =>
   refine wpAny_bind (wpAny_pyHash_tuple (knd := knd) (ks := k) (by first | (show A.units < cLine; omega) | (show A.units + 1 < cLine; omega) | (show A.units + 1 + 1 < cLine; omega) | (show A.units + 2 < cLine; omega)) h1 ?_)
   have e : nDraws (done ++ [k]) = nDraws done + (k.length + 1) := by unfold nDraws; simp
   first
    | exact wpAny_pure ⟨done ++ [k], ks', by simp, hl', by simp [hb], by simp [e, Nat.add_assoc]⟩
    | exact wpAny_bind (wpAny_pure (wpAny_pure ⟨done ++ [k], ks', by simp, hl', by simp [hb], by simp [e, Nat.add_assoc]⟩))
 ·rintro b s' ⟨done, left, rfl, hl, hb, rfl⟩
  cases hl
  rw [List.append_nil] at h
  show wpAny _ _ (retInt (Builtin.Tuple.tupleHashOf b.toList)) _ _ _
  rw [hb]
  refine wpAny_ret_mkInt ?_
  show wpAny _ _ (if (decide (-(2 : Int) ^ 63 ≤ Builtin.Tuple.tupleHashOf (done.map (tupleKeyHash knd))) && decide (Builtin.Tuple.tupleHashOf (done.map (tupleKeyHash knd)) < 2 ^ 63)) = true then _ else _) Q E _
  unfold nKeyHash reduceHash at h
  by_cases hr : (decide (-(2 : Int) ^ 63 ≤ Builtin.Tuple.tupleHashOf (done.map (tupleKeyHash knd))) && decide (Builtin.Tuple.tupleHashOf (done.map (tupleKeyHash knd)) < 2 ^ 63)) = true
  ·rw [if_pos hr]
   rw [if_pos hr] at h
   exact wpAny_pure (by simpa [Nat.add_assoc] using h)
  ·rw [if_neg hr]
   rw [if_neg hr] at h
   exact wpAny_bind (wpAny_rule (wpAny_pure (by simpa [Nat.add_assoc] using h)))
theorem n_eq_tree {x y : List (List K)} {a b : Addr} {P : Fin → Shared → Prop} (hu : A.units < cLine) (hx : IsNKey knd s.heap x a) (hy : IsNKey knd s.heap y b) (h : P (.done (.ret (.bool (decide (x = y))))) s) :
  wpAny (model prog w) A (Builtin.«tuple.__eq__» ⟨[.ref a, .ref b], []⟩) P E s := by
 have hTb := hy.typeIs
 obtain ⟨oa, xs, na, hoa, _, hda, hia⟩ := hx
 obtain ⟨ob, ys, nb, hob, _, hdb, hib⟩ := hy
 show wpAny _ _ (isInstance (.ref b) (.type "tuple") >>= _) _ _ s
 refine wpAny_bind (wpAny_isInstance hTb isSubtype_tuple_tuple ?_)
 simp only [Bool.not_true, Bool.false_eq_true, if_false]
 refine wpAny_bind (wpAny_tupleItemsOf hoa hda ?_)
 refine wpAny_bind (wpAny_tupleItemsOf hob hdb ?_)
 refine wpAny_bind ?_
 refine wpAny_forIn_list _
  (fun rest r s' => r.1 = none ∧ s' = s ∧ ∃ x' y' xs' ys', rest = List.zip xs' ys' ∧ NItems knd s.heap x' xs' ∧ NItems knd s.heap y' ys' ∧ decide (x' = y') = decide (x = y) ∧ (xs'.length == ys'.length) = (xs.size == ys.size))
  _ ?_ ?_ _ _ ⟨rfl, rfl, x, y, xs.toList, ys.toList, rfl, hia, hib, rfl, by simp⟩
 ·rintro ⟨u, v⟩ rest r s' ⟨hr, rfl, x', y', xs', ys', hz, hx', hy', hdec, hlen⟩
  cases hx' with
  | nil => simp at hz
  | @cons k1 u' x'' xs'' h1 hx'' =>
   cases hy' with
   | nil => simp at hz
   | @cons k2 v' y'' ys'' h2 hy'' =>
    simp only [List.zip_cons_cons, List.cons.injEq, Prod.mk.injEq] at hz
    obtain ⟨⟨rfl, rfl⟩, rfl⟩ := hz
    refine wpAny_bind (wpAny_eqBool_tuple (knd := knd) hu h1 h2 ?_)
    by_cases hk : k1 = k2
    ·subst hk
     rw [decide_eq_true rfl]
     simp only [Bool.not_true, Bool.false_eq_true, if_false]
     refine wpAny_pure ⟨rfl, rfl, x'', y'', xs'', ys'', rfl, hx'', hy'', ?_, by simpa using hlen⟩
     rw [← hdec]
     by_cases hxy : x'' = y''
     ·simp [hxy]
     ·simp [hxy]
    ·rw [decide_eq_false hk]
     simp only [Bool.not_false, if_true]
     have hf : decide (x = y) = false := by rw [← hdec]; simp [hk]
     rw [hf] at h
     exact wpAny_bind (wpAny_pure (wpAny_pure (wpAny_pure h)))
 ·rintro ⟨r1, r2⟩ s' ⟨hr, rfl, x', y', xs', ys', hz, hx', hy', hdec, hlen⟩
  simp only at hr
  subst hr
  refine wpAny_pure ?_
  have hfin : (xs.size == ys.size) = decide (x = y) := by
   rw [← hdec, ← hlen]
   cases hx' with
   | nil =>
    cases hy' with
    | nil => simp
    | cons _ _ => simp
   | cons _ _ =>
    cases hy' with
    | nil => simp
    | cons _ _ => simp at hz
  show P (.done (.ret (.bool (xs.size == ys.size)))) s'
  rw [hfin]; exact h
theorem wpAny_eqBool_n {x y : List (List K)} {a b : Addr} {Q : Bool → Shared → Prop} (hu : A.units + 8 < cLine) (hx : IsNKey knd s.heap x a) (hy : IsNKey knd s.heap y b) (h : Q (decide (x = y)) s) :
  wpAny (model prog w) A (eqBool (.ref a) (.ref b)) Q E s := by
 unfold eqBool
 try with_reducible refine wpAny_holding ?_
 show wpAny _ _ (if (Value.ref a == Value.ref b) = true then _ else _) Q E s
 by_cases hab : (Value.ref a == Value.ref b) = true
 ·rw [if_pos hab]
  have e : a = b := by have := eq_of_beq hab; injection this
  subst e
  obtain rfl := hx.inj hy
  exact wpAny_bind (wpAny_rule (wpAny_pure (by simpa using h)))
 ·rw [if_neg hab]
  exact wpAny_bind (wpAny_richCompare_same_room (op := .Eq) hx.typeIs hy.typeIs F.slot_tuple_eq
   (wpAny_call_entry F.slot_tuple_eq hx.typeIs F.entry_tuple_eq (n_eq_tree (by first | (show A.units < cLine; omega) | (show A.units + 1 < cLine; omega) | (show A.units + 1 + 1 < cLine; omega) | (show A.units + 2 < cLine; omega)) hx hy ⟨_, rfl, (fun e => nomatch e), wpAny_truthy_bool h⟩) (F.args_tuple_eq_2 _ _)) (show A.units < cLine by omega))
theorem wpAny_quiet_tuple {d : Nat} {ks : List K} {a : Addr} {Q : Bool → Shared → Prop} (hk : IsTupleKey knd s.heap ks a) (h : Q true s) : wpAny (model prog w) A (eqIsQuiet (d + 1) (.ref a)) Q E s := by
 have hT := hk.typeIs
 obtain ⟨o, items, n, ho, _, hd, hi⟩ := hk
 unfold eqIsQuiet
 refine wpAny_bind (wpAny_specialOf hT F.slot_tuple_eq.lookup ?_)
 show wpAny _ _ (isInstance (.ref a) (.type "tuple") >>= _) _ _ s
 refine wpAny_bind (wpAny_isInstance hT isSubtype_tuple_tuple ?_)
 simp only [Bool.not_true, Bool.false_eq_true, if_false]
 refine wpAny_bind (wpAny_seqItems ho hd ?_)
 refine wpAny_bind ?_
 show wpAny _ _ (forIn items _ _) _ _ s
 rw [← Array.forIn_toList]
 refine wpAny_forIn_list _ (fun rest r s' => r.1 = none ∧ s' = s ∧ ∀ v ∈ rest, carriedByValue v = true) _ ?_ ?_ _ _ ⟨rfl, rfl, hi.byValue⟩
 ·rintro v rest r s' ⟨hr, rfl, hall⟩
  rw [eqIsQuiet_byValue _ (hall v List.mem_cons_self)]
  refine wpAny_bind (wpAny_pure ?_)
  simp only [Bool.not_true, Bool.false_eq_true, if_false]
  exact wpAny_pure ⟨rfl, rfl, fun u hu' => hall u (List.mem_cons_of_mem _ hu')⟩
 ·rintro ⟨r1, r2⟩ s' ⟨hr, rfl, _⟩
  simp only at hr
  subst hr
  exact wpAny_pure h
theorem wpAny_quiet_n {ks : List (List K)} {a : Addr} {Q : Bool → Shared → Prop} (hk : IsNKey knd s.heap ks a) (h : Q true s) : wpAny (model prog w) A (eqIsQuiet 8 (.ref a)) Q E s := by
 have hT := hk.typeIs
 obtain ⟨o, items, n, ho, _, hd, hi⟩ := hk
 unfold eqIsQuiet
 refine wpAny_bind (wpAny_specialOf hT F.slot_tuple_eq.lookup ?_)
 show wpAny _ _ (isInstance (.ref a) (.type "tuple") >>= _) _ _ s
 refine wpAny_bind (wpAny_isInstance hT isSubtype_tuple_tuple ?_)
 simp only [Bool.not_true, Bool.false_eq_true, if_false]
 refine wpAny_bind (wpAny_seqItems ho hd ?_)
 refine wpAny_bind ?_
 show wpAny _ _ (forIn items _ _) _ _ s
 rw [← Array.forIn_toList]
 refine wpAny_forIn_list _ (fun rest r s' => r.1 = none ∧ s' = s ∧ ∃ left, NItems knd s.heap left rest) _ ?_ ?_ _ _ ⟨rfl, rfl, _, hi⟩
 ·rintro v rest r s' ⟨hr, rfl, left, hl⟩
  cases hl with
  | cons h1 hl' =>
   refine wpAny_bind (wpAny_quiet_tuple (d := 6) h1 ?_)
   simp only [Bool.not_true, Bool.false_eq_true, if_false]
   exact wpAny_pure ⟨rfl, rfl, _, hl'⟩
 ·rintro ⟨r1, r2⟩ s' ⟨hr, rfl, _⟩
  simp only at hr
  subst hr
  exact wpAny_pure h
end
def nKind {prog : Program} {w : World} {K : Type} [DecidableEq K] (knd : KeyKind prog w K) : HeapKind prog w (List (List K)) where
 is := IsNKey knd
 hash := nKeyHash knd
 draws := fun ks => nDraws ks + 1
 room := fun A => A.units + 8 < cLine
 inj := fun hx hy => hx.inj hy
 keeps := fun x ho hd hs => x.keeps ho hd hs
 pyHash := fun hu hk h => wpAny_pyHash_n hu hk h
 eqBool := fun hu hx hy h => wpAny_eqBool_n hu hx hy h
 quiet := fun hk h => wpAny_quiet_n hk h
end PySem
set_option maxRecDepth 100000
set_option maxHeartbeats 4000000
namespace Y
open PySem PySem.Spec L2
def ndLook (k : List (List Int)) : List (List (List Int) × PyData) → Option PyData
 | [] => none
 | (j, d) :: r => if j = k then some d else ndLook k r
def ndPut (k : List (List Int)) (v : PyData) (kvs : List (List (List Int) × PyData)) : List (List (List Int) × PyData) :=
 if (ndLook k kvs).isSome then kvs.map (fun p => if p.1 = k then (p.1, v) else p) else kvs ++ [(k, v)]
inductive NdZ (F : Hp) : List (List (List Int) × Addr × V) → List (List (List Int) × PyData) → List Value → Prop
 | nil : NdZ F [] [] []
 | cons {k : List (List Int)} {b : Addr} {v : V} {d : PyData} {u : Value} {ws : List (List (List Int) × Addr × V)} {kvs : List (List (List Int) × PyData)} {vs : List Value} : Fz F (.ref b) (netD k) → Fz F v d → RelV v u → NdZ F ws kvs vs → NdZ F ((k, b, v) :: ws) ((k, d) :: kvs) (u :: vs)
section
variable {F : Hp}
theorem NdZ.back {ws : List (List (List Int) × Addr × V)} {kvs : List (List (List Int) × PyData)} {vs : List Value} (h : NdZ F ws kvs vs) : NdR F ws kvs ∧ Vals (ws.map (·.2.2)) vs := by
 induction h with
 | nil => exact ⟨⟨rfl, .nil, .nil⟩, .nil⟩
 | cons a b c _ ih => exact ⟨⟨by rw [List.map_cons, List.map_cons, ih.1.1], .cons a ih.1.2.1, .cons b ih.1.2.2⟩, .cons c ih.2⟩
theorem NdZ.len {ws : List (List (List Int) × Addr × V)} {kvs : List (List (List Int) × PyData)} {vs : List Value} (h : NdZ F ws kvs vs) : ws.length = kvs.length ∧ vs.length = ws.length := by
 induction h with
 | nil => exact ⟨rfl, rfl⟩
 | cons _ _ _ _ ih => exact ⟨by simp [ih.1], by simp [ih.2]⟩
def xsOf (ws : List (List (List Int) × Addr × V)) (vs : List Value) : List (List (List Int) × Addr × Value) := (ws.zip vs).map fun p => (p.1.1, p.1.2.1, p.2)
theorem xs_cons {k : List (List Int)} {b : Addr} {v : V} {u : Value} {ws : List (List (List Int) × Addr × V)} {vs : List Value} : xsOf ((k, b, v) :: ws) (u :: vs) = (k, b, u) :: xsOf ws vs := rfl
theorem NdZ.keys {ws : List (List (List Int) × Addr × V)} {kvs : List (List (List Int) × PyData)} {vs : List Value} (h : NdZ F ws kvs vs) : (xsOf ws vs).map (·.1) = ws.map (·.1) ∧ ws.map (·.1) = kvs.map (·.1) := by
 induction h with
 | nil => exact ⟨rfl, rfl⟩
 | cons _ _ _ _ ih => exact ⟨by rw [xs_cons, List.map_cons, List.map_cons, ih.1], by rw [List.map_cons, List.map_cons, ih.2]⟩
theorem NdZ.look {ws : List (List (List Int) × Addr × V)} {kvs : List (List (List Int) × PyData)} {vs : List Value} (h : NdZ F ws kvs vs) (k : List (List Int)) : (ndLook k kvs = none ∧ atKey (xsOf ws vs) k = none) ∨ ∃ d v b u, ndLook k kvs = some d ∧ atKey (xsOf ws vs) k = some (b, u) ∧ RelV v u ∧ Fz F v d := by
 induction h with
 | nil => exact .inl ⟨rfl, rfl⟩
 | @cons j b v d u ws kvs vs a1 a2 a3 _ ih =>
  rw [xs_cons]
  by_cases q : j = k
  ·right
   refine ⟨d, v, b, u, ?_, ?_, a3, a2⟩
   ·unfold ndLook; rw [if_pos q]
   ·simp [atKey, List.find?_cons, q]
  ·have e1 : ndLook k ((j, d) :: kvs) = ndLook k kvs := by
    show (if j = k then some d else ndLook k kvs) = _
    rw [if_neg q]
   have e2 : atKey ((j, b, u) :: xsOf ws vs) k = atKey (xsOf ws vs) k := by simp [atKey, List.find?_cons, q]
   rw [e1, e2]
   exact ih
theorem NdZ.app {ws : List (List (List Int) × Addr × V)} {kvs : List (List (List Int) × PyData)} {vs : List Value} (h : NdZ F ws kvs vs) {k : List (List Int)} {b : Addr} {v : V} {d : PyData} {u : Value} (a1 : Fz F (.ref b) (netD k)) (a2 : Fz F v d) (a3 : RelV v u) : NdZ F (ws ++ [(k, b, v)]) (kvs ++ [(k, d)]) (vs ++ [u]) ∧ xsOf (ws ++ [(k, b, v)]) (vs ++ [u]) = xsOf ws vs ++ [(k, b, u)] := by
 induction h with
 | nil => exact ⟨.cons a1 a2 a3 .nil, rfl⟩
 | cons b1 b2 b3 _ ih => exact ⟨.cons b1 b2 b3 ih.1, by rw [List.cons_append, List.cons_append, xs_cons, ih.2, xs_cons, List.cons_append]⟩
theorem NdZ.repl {ws : List (List (List Int) × Addr × V)} {kvs : List (List (List Int) × PyData)} {vs : List Value} (h : NdZ F ws kvs vs) {k : List (List Int)} {v : V} {d : PyData} {u : Value} (a2 : Fz F v d) (a3 : RelV v u) : ∃ ws' vs', NdZ F ws' (kvs.map fun p => if p.1 = k then (p.1, d) else p) vs' ∧ xsOf ws' vs' = (xsOf ws vs).map (putAt k u) := by
 induction h with
 | nil => exact ⟨[], [], .nil, rfl⟩
 | @cons j b w e x ws kvs vs b1 b2 b3 _ ih =>
  obtain ⟨ws', vs', h1, h2⟩ := ih
  by_cases q : j = k
  ·refine ⟨(j, b, v) :: ws', u :: vs', ?_, ?_⟩
   ·rw [List.map_cons, if_pos q]
    exact .cons b1 a2 a3 h1
   ·rw [xs_cons, xs_cons, List.map_cons, h2]
    unfold putAt
    rw [if_pos q]
  ·refine ⟨(j, b, w) :: ws', x :: vs', ?_, ?_⟩
   ·rw [List.map_cons, if_neg q]
    exact .cons b1 b2 b3 h1
   ·rw [xs_cons, xs_cons, List.map_cons, h2]
    unfold putAt
    rw [if_neg q]
theorem NdZ.put {ws : List (List (List Int) × Addr × V)} {kvs : List (List (List Int) × PyData)} {vs : List Value} (h : NdZ F ws kvs vs) (hn : (kvs.map (·.1)).Nodup) {k : List (List Int)} {b : Addr} {v : V} {d : PyData} {u : Value} (a1 : Fz F (.ref b) (netD k)) (a2 : Fz F v d) (a3 : RelV v u) : ∃ ws' vs', NdZ F ws' (ndPut k d kvs) vs' ∧ xsOf ws' vs' = storedH (xsOf ws vs) k b u ∧ ((ndPut k d kvs).map (·.1)).Nodup ∧ (ndPut k d kvs).length ≤ kvs.length + 1 := by
 unfold ndPut
 rcases h.look k with ⟨e1, e2⟩ | ⟨d', v', b', u', e1, e2, _, _⟩
 ·obtain ⟨g1, g2⟩ := h.app a1 a2 a3
  refine ⟨_, _, by rw [e1]; exact g1, by rw [g2, storedH_new e2], ?_, by rw [e1]; simp⟩
  rw [e1]
  show ((kvs ++ [(k, d)]).map (·.1)).Nodup
  have nk : k ∉ kvs.map (·.1) := fun hm => by
   have : ∀ {l : List (List (List Int) × PyData)}, k ∈ l.map (·.1) → ndLook k l ≠ none := by
    intro l
    induction l with
    | nil => intro hm; cases hm
    | cons p r ih =>
     intro hm
     obtain ⟨j, x⟩ := p
     unfold ndLook
     by_cases q : j = k
     ·rw [if_pos q]; exact fun z => nomatch z
     ·rw [if_neg q]
      exact ih ((List.mem_cons.mp hm).resolve_left fun z => q z.symm)
   exact this hm e1
  rw [List.map_append]
  exact List.nodup_append.mpr ⟨hn, by simp, fun x hx y hy e => by
   have hy' : y = k := by simpa using hy
   exact nk (hy' ▸ e ▸ hx)⟩
 ·obtain ⟨ws', vs', g1, g2⟩ := h.repl (k := k) a2 a3
  have ek : (kvs.map fun p => if p.1 = k then (p.1, d) else p).map (·.1) = kvs.map (·.1) := by
   rw [List.map_map]
   refine List.map_congr_left fun p _ => ?_
   show (if p.1 = k then (p.1, d) else p).1 = p.1
   split <;> rfl
  refine ⟨ws', vs', by rw [e1]; exact g1, by rw [g2, storedH_old e2], ?_, by rw [e1]; simp⟩
  rw [e1]
  show ((kvs.map fun p => if p.1 = k then (p.1, d) else p).map (·.1)).Nodup
  rw [ek]
  exact hn
end
section
variable {P : Program} {w : World} {F H : Hp} {h : Heap}
theorem ents_eq {ws : List (List (List Int) × Addr × V)} {vs : List Value} : (ws.zip vs).map (fun p => (⟨hashN p.1.1, .ref p.1.2.1, p.2⟩ : DictEntry)) = (xsOf ws vs).map (entryOfKey (nKind (intKind P w))) := by
 unfold xsOf
 rw [List.map_map]
 rfl
end
section
variable {X : Cx} {pins : List (Addr × Obj)} {σ : L2.St} {s : Shared} {F H : Hp}
structure NdAt (X : Cx) (F H : Hp) (s : Shared) (kvs : List (List (List Int) × PyData)) (a : Addr) (ws : List (List (List Int) × Addr × V)) (vs : List Value) : Prop where
 ha : H a = some (.ext (NdO a ws))
 fa : F a = none
 z : NdZ F ws kvs vs
 sys : (a == sysModules) = false
 ln : kvs.length ≤ sizeLine
 nd : (kvs.map (·.1)).Nodup
 dict : s.heap.DictOfH (nKind (intKind X.prog X.w)) a (xsOf ws vs)
theorem NdAt.obj {kvs : List (List (List Int) × PyData)} {a : Addr} {ws : List (List (List Int) × Addr × V)} {vs : List Value} {h' : Heap} {H' : Hp} (z : NdZ F ws kvs vs) (sys : (a == sysModules) = false) (ln : kvs.length ≤ sizeLine) (nd : (kvs.map (·.1)).Nodup) (dd : h'.DictOfH (nKind (intKind X.prog X.w)) a (xsOf ws vs)) : ObjOk X.prog X.w H' h' a (.ext (NdO a ws)) := by
 obtain ⟨o, es, ep, h1, h2, h3, h4, _, _⟩ := dd
 refine ⟨⟨by rw [z.len.1]; exact ln, sys, by rw [z.keys.2]; exact nd, vs, z.back.2, o, es, ep, h1, h2, h3, by rw [h4, ents_eq (P := X.prog) (w := X.w)]⟩, ⟨o, h1⟩, fun g1 g2 ⟨w1, w2, w3, vs', w4, o', es', ep', w5, w6, w7, w8⟩ k => ⟨w1, w2, w3, vs', w4, o', es', ep', k _ w5, w6, w7, w8⟩⟩
end
end Y
set_option maxRecDepth 100000
namespace Hd
open PySem PySem.W
def rI (n : Nat) : Value := .int n 0
inductive It where
 | d (i a t : Nat)
 | r (i a t : Nat)
 | e (i a t i2 a2 t2 : Nat)
 | o (os : List Obj) (es : List (Str × Nat × Value)) (ps : List Value)
 | m (v : Value)
end Hd
set_option maxRecDepth 100000
set_option maxHeartbeats 4000000
namespace LcR
open PySem PySem.Spec PyProof.Rows L2 HandSPX
variable {M : Model} {A : Around} {E : Value → Shared → Prop} {s : Shared} {env : Env} {outer : List Env} {base : Heap} {e L : Addr} {Z : Obj → Prop} {fl : Value}
theorem noted_any {Q : Unit → Shared → Prop} (hZ : Steady Z) (hfr : A.frames = some (env :: outer)) (hf : env.frame = some L) (hB : base.StaysIn s.heap) (hn : base.get? e = none) (hF : s.heap.FunFrames base (env :: outer)) (hT : TracedZ s.heap base e Z fl)
  (hQ : ∀ h', HeldZ base (env :: outer) e Z L h' → s.heap.UpToSlots h' → Q () { s with heap := h' }) : wpAny M A (noteFrame (.ref e) env) Q E s := by
 by_cases q : (fl == rawInt L) = true
 ·have q' : fl = rawInt L := by simpa using q
  exact againZ hf (by rw [← q']; exact hT) (hQ s.heap ⟨hB, hn, hF, by rw [← q']; exact hT⟩ (Heap.UpToSlots.refl _))
 ·obtain ⟨oe, vs, T, oT, ts, he, hz, hd, h1, nT, neT, gT, dT, h3⟩ := hT
  unfold noteFrame
  simp only [hf]
  refine wpAny_bind (wpAny_field he hd h1 ?_)
  rw [if_pos (show (Value.ref T != Value.none) = true from by simp)]
  refine wpAny_bind (wpAny_field gT dT h3 ?_)
  rw [if_neg q]
  refine wpAny_bind (wpAny_setField gT dT (Array.getElem?_eq_some_iff.mp h3).1 ?_)
  have away : ∀ b, b ≠ T → (s.heap.update T (Obj.mapFields (·.setIfInBounds 3 Value.none))).get? b = s.heap.get? b := fun b hb => Heap.get?_update_other _ _ (Ne.symm hb)
  have plain : ∀ b o, s.heap.get? b = some o → (∀ vs, o.data ≠ .fields vs) → b ≠ T := fun b o hb no z => by
   subst z
   rw [gT] at hb
   cases hb
   exact no ts dT
  refine wpAny_entryZ hZ hfr (hF.of_keeps fun b o hb no => ⟨o, (away b (plain b o hb no)).trans hb, rfl⟩) hf ((away e (Ne.symm neT)).trans he)
   (fun b o hb => (away b fun z => by rw [z, nT] at hb; cases hb).trans (hB b o hb)) hn hd (Array.getElem?_eq_some_iff.mp h1).1 hz fun h' ⟨x1, x2, x3, x4⟩ => ?_
  exact hQ h' ⟨x1, hn, x2, x3⟩ fun b o hb no => x4 b o ((away b (plain b o hb no)).trans hb) no
theorem noted_same {ce : Env} (h : ce.frame = env.frame) (v : Value) : noteFrame v ce = noteFrame v env := by
 unfold noteFrame PySem.frameOf
 rw [h]
theorem ff_base {h B B2 : Heap} (k : ∀ L, B.get? L = none → B2.get? L = none) : ∀ {l : List Env}, h.FunFrames B l → h.FunFrames B2 l
 | [], _ => trivial
 | _ :: _, ⟨a, ⟨L, o, b1, b2, b3, b4⟩, c⟩ => ⟨a, ⟨L, o, b1, k L b2, b3, b4⟩, ff_base k c⟩
theorem ff_heap {h h2 B : Heap} : ∀ {l : List Env}, (∀ b ∈ frs l, h2.get? b = h.get? b) → h.FunFrames B l → h2.FunFrames B l
 | [], _, _ => trivial
 | en :: r, k, ⟨a, ⟨L, o, b1, b2, b3, b4⟩, c⟩ => ⟨a, ⟨L, o, b1, b2, (k L (List.mem_filterMap.mpr ⟨en, List.mem_cons_self, b1⟩)).trans b3, b4⟩, ff_heap (fun b hb => k b (by
   obtain ⟨y, hy, ey⟩ := List.mem_filterMap.mp hb
   exact List.mem_filterMap.mpr ⟨y, List.mem_cons_of_mem _ hy, ey⟩)) c⟩
theorem dict_live {o : Obj} {es : Array DictEntry} {ep : Nat} (h : o.data = .dict es ep) : o.isFreed = false := by
 obtain ⟨c, d, dt, sl⟩ := o
 dsimp only at h
 subst h
 rfl
section
variable {X : Cx} {W : WX} {s3 : Shared} {H3 : Hp} {scope : Scope} {ce : Env} {fp : List Addr} {pins : List (Addr × Obj)} {σ : L2.St} {xe' : Value → Shared → Prop}
abbrev blkE (X : Cx) (s : Shared) (H : Hp) (scope : Scope) (ce : Env) (fp : List Addr) (xe : Value → Shared → Prop) : Cx := { X.blk s H scope ce fp with xe := xe }
theorem fly (tk : Takes X W) (hs : X.stack = X.env :: X.outer) (hf : X.env.frame = some X.env.locals) (hcf : ce.frame = X.env.frame) (J3 : Inv X pins σ H3 s3) (fr3 : ∀ b ∈ fp, FpOk X pins H3 b) (cl : ce.locals = s3.heap.objs.size)
  {u : Value} {s' : Shared} (x : XE (blkE X s3 H3 scope ce fp xe') (fun c d _ H => W c d σ H) u s') : notedBy (model X.prog X.w) X.A ce (fun e s'' => CompFails (model X.prog X.w) X.A X.xe ce e s'') u s' := by
 obtain ⟨a, B, sI, pins', σb, H', cls, d, rfl, I', nb, up, sky, na, os, ag, w⟩ := x
 have I7 : Inv X pins σ H' sI := J3.call' (ch := fp) I'.os I'.base I'.hok I'.bare fun b hb => ⟨(fr3 b hb).2.2.2.1, (fr3 b hb).2.1, (fr3 b hb).2.2.2.2.1, (fr3 b hb).2.2.2.2.2⟩
 have frames : X.A.frames = some (X.env :: X.outer) := by rw [J3.ok.frames, hs]
 have nC : H' s3.heap.objs.size = none := by
  have z : H' ce.locals = none := I'.free
  rwa [cl] at z
 obtain ⟨f0, f1, f2, f3, f4, f5⟩ := J3.fpOk (Nat.le_refl _) nC
 obtain ⟨m, hm, _⟩ := I'.loc
 have hm : sI.heap.Ns ce.locals m := hm
 rw [cl] at hm
 have notF : s3.heap.objs.size ∉ frs X.stack := by
  rw [hs]
  intro z
  obtain ⟨y, hy, ey⟩ := List.mem_filterMap.mp z
  rcases List.mem_cons.mp hy with rfl | hy
  ·rw [hf] at ey
   exact f1 (Option.some.inj ey).symm
  ·exact f2 (List.mem_filterMap.mpr ⟨y, hy, ey⟩)
 have fin : ∀ h1, HeldZ B (X.env :: X.outer) a (Zc cls d) X.env.locals h1 → s'.heap.UpToSlots h1 → CompFails (model X.prog X.w) X.A X.xe ce (.ref a) { s' with heap := h1 } := fun h1 hh up1 => by
  refine ⟨m, by rw [cl]; exact (up.trans up1).ns hm, fun h2 m2 hn2 sb => ?_⟩
  rw [cl] at hn2 sb
  generalize s3.heap.objs.size = C at *
  obtain ⟨hB, hn0, hF, oe, vs, T, oT, ts, he, hz, hd, hv1, nT, neT, gT, dT, h3⟩ := hh
  obtain ⟨o1, es1, ep1, e1, d1, _⟩ := (up.trans up1).ns hm
  obtain ⟨o0, es0, ep0, e0, d0, _⟩ := hm
  obtain ⟨oC, es, ep, eC, dC, _⟩ := hn2
  have aC : a ≠ C := fun z => by
   subst z
   rw [e1] at he
   cases he
   rw [d1] at hd
   cases hd
  have TC : T ≠ C := fun z => by
   subst z
   rw [e1] at gT
   cases gT
   rw [d1] at dT
   cases dT
  have same : ∀ b, b ≠ C → h2.get? b = h1.get? b := sb.2
  have fz : oC.isFreed = false := dict_live dC
  have bC : B.get? C = some o0 := nb C o0 e0 notF
  have uB : ∀ b, b ≠ C → (B.update C fun _ => oC).get? b = B.get? b := fun b hb => Heap.get?_update_other _ _ (Ne.symm hb)
  have uBC : (B.update C fun _ => oC).get? C = some oC := Heap.get?_update_self _ bC fz
  have uI : ∀ b, b ≠ C → (sI.heap.update C fun _ => oC).get? b = sI.heap.get? b := fun b hb => Heap.get?_update_other _ _ (Ne.symm hb)
  have uIC : (sI.heap.update C fun _ => oC).get? C = some oC := Heap.get?_update_self _ e0 fz
  have stay : (B.update C fun _ => oC).StaysIn h2 := fun b o hb => by
   by_cases q : b = C
   ·subst q
    rw [uBC] at hb
    cases hb
    exact eC
   ·rw [uB b q] at hb
    rw [same b q]
    exact hB b o hb
  have none2 : ∀ b, B.get? b = none → (B.update C fun _ => oC).get? b = none := fun b hb => by
   by_cases q : b = C
   ·subst q
    rw [bC] at hb
    cases hb
   ·rw [uB b q]
    exact hb
  have held : HeldZ (B.update C fun _ => oC) (X.env :: X.outer) a (Zc cls d) X.env.locals h2 := by
   refine ⟨stay, none2 a hn0, ff_base none2 (ff_heap (fun b hb => same b fun z => ?_) hF), oe, vs, T, oT, ts, (same a aC).trans he, hz, hd, hv1, none2 T nT, neT, (same T TC).trans gT, dT, h3⟩
   subst z
   rw [hs] at notF
   exact notF hb
  have I8 : Inv X pins σ H' { sI with heap := sI.heap.update C fun _ => oC, toks := sI.toks } := I7.turned (t' := sI.toks) (fun b o hb e => (uI b hb).trans e) nC f1 f3 f4 f5
  unfold PySem.passOn
  refine wpAny_bind (wpAny_field ((same a aC).trans he) hd hv1 ?_)
  rw [if_neg (by simp)]
  rw [hcf, hf]
  refine wpAny_bind (setFlight_onZ held fun h5 hh5 up5 => ?_)
  refine wpAny_throw ?_
  show X.xe (.ref a) { s' with heap := h5 }
  refine tk (.ref a) { s' with heap := h5 } ⟨a, B.update C fun _ => oC, _, pins, σ, H', cls, d, rfl, I8, fun b o hb hnf => ?_, fun b o hb no => ?_, by rw [hs]; exact .inr (.inr hh5), na, os, ag, w⟩
  ·by_cases q : b = C
   ·subst q
    rw [uIC] at hb
    cases hb
    exact uBC
   ·rw [uI b q] at hb
    rw [uB b q]
    exact nb b o hb hnf
  ·by_cases q : b = C
   ·subst q
    rw [uIC] at hb
    cases hb
    exact up5 b oC eC no
   ·rw [uI b q] at hb
    obtain ⟨sl, z⟩ := (up.trans up1) b o hb no
    obtain ⟨sl2, z2⟩ := up5 b _ ((same b q).trans z) no
    exact ⟨sl2, z2⟩
 show wpAny _ X.A (noteFrame (.ref a) ce) _ _ s'
 rw [noted_same hcf]
 have sky' : Sky B X.stack a (Zc cls d) ce.locals s'.heap := sky
 rw [hs] at sky'
 rcases sky' with ⟨hB, hn, hl, oe, vs, he, hz, hd, h1⟩ | fl | hh
 ·exact look_newZ Zc.steady frames hl hf he hB hn hd h1 hz fin
 ·exact noted_any Zc.steady frames hf fl.1 fl.2.1 fl.2.2.1 fl.2.2.2 fin
 ·exact noted_any Zc.steady frames hf hh.1 hh.2.1 hh.2.2.1 hh.2.2.2 fin
end
end LcR
set_option maxRecDepth 100000
set_option maxHeartbeats 4000000
namespace LcR
open PySem PySem.Spec PyProof.Rows L2 HandSPX
section
variable {X : Cx} {sB : Shared} {HB : Hp} {scope : Scope} {ce : Env} {fp : List Addr} {pl : List (Addr × Obj)} {σ : L2.St} {H' : Hp} {s' : Shared} {xe' : Value → Shared → Prop}
theorem to_xe (I : Inv (X.blk sB HB scope ce fp) pl σ H' s') : Inv (blkE X sB HB scope ce fp xe') pl σ H' s' :=
 let k := I.ok
 ⟨⟨k.mod, k.kind, k.glob, k.blt, k.above, k.inj, k.has, k.cab, k.hd, k.frames, k.stk, k.exf, k.bs, k.bsz, k.noex, k.exfs, k.funs, k.frf⟩, I.os, I.bare, I.base, I.loc, I.cell, I.free, I.freeC, I.pin, I.hok, I.len⟩
theorem of_xe (I : Inv (blkE X sB HB scope ce fp xe') pl σ H' s') : Inv (X.blk sB HB scope ce fp) pl σ H' s' :=
 let k := I.ok
 ⟨⟨k.mod, k.kind, k.glob, k.blt, k.above, k.inj, k.has, k.cab, k.hd, k.frames, k.stk, k.exf, k.bs, k.bsz, k.noex, k.exfs, k.funs, k.frf⟩, I.os, I.bare, I.base, I.loc, I.cell, I.free, I.freeC, I.pin, I.hok, I.len⟩
end
section
variable {X : Cx} {W : WX}
def tLcR (wi : TI) (g : TG) (tt : TT) (te : L2.St → TE) (vs : List Nat) : TE := fun σ H Q => tLc wi g tt (te σ) vs σ H Q
theorem pe_lcR {elt tg iter : Expr} {ifs : List Expr} {scope : Scope} {own : List (Str × Nat)} {pos : Pos} {wi : TI} {g : TG} {tt : TT} {te : L2.St → TE} (tk : Takes X W) (hst : X.stack = X.env :: X.outer) (hfr : X.env.frame = some X.env.locals)
  (hc : X.calm = true) (hN : X.N.Nodup) (hi : PI X tg iter wi) (ok : BlkOk X.N X.env.scope scope own)
  (hg : ∀ (s : Shared) (H : Hp) (C : Addr) (cl : List (Str × Addr)) (fp : List Addr), PG (X.blk s H scope (compEnvC scope cl C X.env) fp) tg g) (ht : ∀ (s : Shared) (H : Hp) (C : Addr) (cl : List (Str × Addr)) (fp : List Addr), PTs (X.blk s H scope (compEnvC scope cl C X.env) fp) ifs tt)
  (he : ∀ (σ : L2.St) (s : Shared) (H : Hp) (C : Addr) (cl : List (Str × Addr)) (fp : List Addr) (xe' : Value → Shared → Prop), Takes (blkE X s H scope (compEnvC scope cl C X.env) fp xe') (fun c d _ H => W c d σ H) → PE (blkE X s H scope (compEnvC scope cl C X.env) fp xe') elt (te σ)) (hs : ∀ x, foldedSetIterable iter X.env x = pure x := by intro _; rfl) :
  PE X (.ListComp elt [⟨tg, iter, ifs, 0⟩] scope pos) (tLcR wi g tt te (own.map (·.2))) := by
 refine ⟨fun pins s σ H Q I h => ?_⟩
 rw [eval_ListComp]
 have hfree : ∀ y ∈ scope.names, y.2 = .free → ∃ c, X.env.cells.lookup y.1 = some c := fun y hy e => (ok.free y hy e).elim (fun k => I.ok.has _ (.inl k)) fun k => I.ok.has _ (.inr k)
 refine comprehension_at (use := none) rfl hs (closure_ok hfree) ok.kind (fun y hy e => by rw [ok.uniq y hy, e])
  (thn (hi.run pins s σ H _ I h) fun xv s1 hx => thn hx fun itv s2 h2 => ?_)
 obtain ⟨it, fp, tn, J, H2, e, I2, T, st2, f2, q⟩ := h2
 subst e
 refine wpAny_newObj_type (newEnv_comp ?_) (by show 0 ≤ sizeLine; decide)
 generalize hD : s2.heap.objs.size = D
 obtain ⟨Wt, ⟨m0, w0⟩, turn⟩ := q D (I2.hok.fresh (Nat.le_of_eq hD))
 generalize hs3 : ({ s2 with heap := s2.heap.push { cls := .type "list", data := .seq ([] : List Value).toArray } } : Shared) = s3
 have h3 : s3.heap = s2.heap.push { cls := .type "list", data := .seq ([] : List Value).toArray } := by rw [← hs3]
 have I3 : Inv X pins σ (upd H2 D (.lst [])) s3 := by
  rw [← hs3]
  exact I2.laid (t' := s2.toks) (fun b o e => Heap.get?_push_of_some _ e) (Nat.le_of_eq hD) ⟨Nat.zero_le _, [], 0, .nil, by rw [← hD]; exact Heap.get?_push_size _ rfl⟩
 have lt2 : ∀ b ∈ fp, b < s2.heap.objs.size := fun b hb => by
  obtain ⟨o, e, _⟩ := T.obj _ _ st2 b hb
  exact Heap.lt_size e
 have f3 : ∀ b ∈ fp, FpOk X pins (upd H2 D (.lst [])) b ∧ b < s3.heap.objs.size := fun b hb => by
  have l := lt2 b hb
  refine ⟨⟨(upd_ne (by rw [← hD]; exact Nat.ne_of_lt l)).trans (f2 b hb).1, (f2 b hb).2⟩, ?_⟩
  rw [h3, Heap.size_push]
  exact Nat.lt_succ_of_lt l
 have st3 : tn 0 s3.heap := T.keep _ _ _ st2 fun b _ o e => by rw [h3]; exact Heap.get?_push_of_some _ e
 have I4 := block_start I3 ok hN f3
 have pg := hg s3 (upd H2 D (.lst [])) s3.heap.objs.size (cellsFrom (s3.heap.objs.size + 1) scope.names (cloFrom X.env.cells scope.names [])) fp
 have pt := ht s3 (upd H2 D (.lst [])) s3.heap.objs.size (cellsFrom (s3.heap.objs.size + 1) scope.names (cloFrom X.env.cells scope.names [])) fp
 have pe := he σ s3 (upd H2 D (.lst [])) s3.heap.objs.size (cellsFrom (s3.heap.objs.size + 1) scope.names (cloFrom X.env.cells scope.names [])) fp
 show codeAny _ _ (.compStart (.ListComp elt [⟨tg, iter, ifs, 0⟩] scope pos) 0 (.ref it) (.ref D) (compEnvC scope (cellsFrom (s3.heap.objs.size + 1) scope.names (cloFrom X.env.cells scope.names [])) s3.heap.objs.size X.env)) (compEnds (model X.prog X.w) X.A X.xe none (fun v s' => EP X pins σ Q v s') (.ref D) (compEnvC scope (cellsFrom (s3.heap.objs.size + 1) scope.names (cloFrom X.env.cells scope.names [])) s3.heap.objs.size X.env)) { s3 with heap := pushCells (s3.heap.push { cls := .type "dict", data := .dict #[] }) scope.names }
 generalize hce : compEnvC scope (cellsFrom (s3.heap.objs.size + 1) scope.names (cloFrom X.env.cells scope.names [])) s3.heap.objs.size X.env = ce at I4 pg pt pe ⊢
 have cL : ce.locals = s3.heap.objs.size := by subst hce; rfl
 have cF : ce.frame = X.env.frame := by subst hce; rfl
 generalize hH3 : upd H2 D (.lst []) = H3 at I3 I4 pg pt pe w0 f3
 have nfp : ∀ b ∈ fp, H3 b = none := fun b hb => (f3 b hb).1.1
 generalize hs4 : ({ s3 with heap := pushCells (s3.heap.push { cls := .type "dict", data := .dict #[] }) scope.names } : Shared) = s4 at I4 ⊢
 have st4 : tn 0 s4.heap := T.keep _ _ _ st3 fun b _ o e => by rw [← hs4]; exact pushCells_keeps _ _ _ _ (Heap.get?_push_of_some _ e)
 have pe' := pe (notedBy (model X.prog X.w) X.A ce fun e s'' => CompFails (model X.prog X.w) X.A X.xe ce e s'') fun u s' x => fly tk hst hfr cF I3 (fun b hb => (f3 b hb).1) cL x
 have stat : ∀ {σ' : L2.St} {H' : Hp} {s' : Shared}, Inv (X.blk s3 H3 scope ce fp) [] σ' H' s' → (∀ b ∈ fp, H' b = none) → ∀ b ∈ fp, FpOk (X.blk s3 H3 scope ce fp) [] H' b := fun {σ' H' s'} I' hn b hb =>
  ⟨hn b hb, (I'.ok.exf b hb).1, I'.ok.exfs b hb, .inl hb, fun x c e => (I'.ok.exf b hb).2 x c e, fun p hp => absurd (show p ∈ ([] : List (Addr × Obj)) ++ [] from hp) (by simp)⟩
 have loop : codeAny (model X.prog X.w) X.A (.compLoop (.ListComp elt [⟨tg, iter, ifs, 0⟩] scope pos) 0 (.ref it) (.ref D) ce) (compEnds (model X.prog X.w) X.A X.xe none (fun v s' => EP X pins σ Q v s') (.ref D) ce) s4 := by
  refine compLoop_any (fun n s' => ∃ i H', Inv (X.blk s3 H3 scope ce fp) [] (wipe σ (own.map (·.2))) H' s' ∧ tn i s'.heap ∧ (∀ b ∈ fp, H' b = none) ∧ Wt i n H') ?_ m0 ⟨0, H3, I4, st4, nfp, w0⟩
  rintro n s5 ⟨i, H5, I5, st5, n5, w5⟩
  rcases turn i n H5 w5 with ⟨stop, qq⟩ | ⟨go, Nx, hNx, step⟩
  ·have td := T.done (X.blk s3 H3 scope ce fp) rfl rfl rfl hc i [] s5 _ H5 (fun _ _ => False) I5 (stat I5 n5) st5 stop
   refine thnF td fun r s6 ⟨hr, I6⟩ => ?_
   subst hr
   have I7 : Inv X pins σ H5 s6 := I3.call' (ch := fp) I6.os I6.base I6.hok I6.bare fun b hb => ⟨(f3 b hb).1.2.2.2.1, (f3 b hb).1.2.1, (f3 b hb).1.2.2.2.2.1, (f3 b hb).1.2.2.2.2.2⟩
   have nC : H5 s3.heap.objs.size = none := by
    have z : H5 ce.locals = none := I6.free
    rwa [cL] at z
   obtain ⟨m, hn, _⟩ := I6.loc
   obtain ⟨f0, f1, _, f3', f4, f5⟩ := I3.fpOk (Nat.le_refl _) nC
   refine ⟨m, hn, fun h'' sb => ?_⟩
   rw [cL] at sb
   exact ⟨.ref D, H5, I7.turned (t' := s6.toks) (fun b o hb e => (sb.2 b hb).trans e) f0 f1 f3' f4 f5, rfl, qq⟩
  ·have ti := T.item (X.blk s3 H3 scope ce fp) rfl rfl rfl hc i [] s5 _ H5 (fun _ _ => False) I5 (stat I5 n5) st5 go
   refine thnF ti fun r s6 ⟨u, hr, h6⟩ => ?_
   subst hr
   refine thnF h6 fun _ s7 ⟨x, H7, I7, r7, y7, st7, n7⟩ => ?_
   have I7' := I7.pinned (stat I7 n7) (T.obj _ _ st7)
   refine thnF (pg.run _ s7 _ H7 x u _ I7' r7 (step x H7 y7)) fun _ s8 ⟨σ8, H8, I8, hw8, q8⟩ => ?_
   refine thnF (pt.run _ s8 σ8 H8 _ I8 q8) fun b s9 ⟨H9, I9, q9⟩ => ?_
   have fin : ∀ {s' : Shared} {H' : Hp}, Inv (X.blk s3 H3 scope ce fp) ([] ++ pinsAt fp s7.heap) σ8 H' s' → Nx H' → ∃ m, m < n ∧ ∃ i H', Inv (X.blk s3 H3 scope ce fp) [] (wipe σ (own.map (·.2))) H' s' ∧ tn i s'.heap ∧ (∀ b ∈ fp, H' b = none) ∧ Wt i m H' := fun {s' H'} I' nx => by
    obtain ⟨m', hm, w'⟩ := hNx H' nx
    have pin' : ∀ b ∈ fp, ∀ o, s7.heap.get? b = some o → s'.heap.get? b = some o ∧ H' b = none := fun b hb o e =>
     let z := I'.pin (b, o) (List.mem_append_right _ (List.mem_append_right _ (mem_pinsAt hb e)))
     ⟨z.1, z.2.1⟩
    have hl : (wipe σ (own.map (·.2))).length = σ8.length := by rw [← hw8, wipe_length]
    refine ⟨m', hm, i + 1, H', (I'.unpinned (pins := [])).weak hl (fun j v e => ?_), T.keep _ _ _ st7 fun b hb o e => (pin' b hb o e).1, fun b hb => ?_, w'⟩
    ·rw [← hw8] at e
     exact (wipe_some e).1
    ·obtain ⟨o, e, _⟩ := T.obj _ _ st7 b hb
     exact (pin' b hb o e).2
   cases b with
   | false =>
    simp only [Bool.false_eq_true, if_false] at q9 ⊢
    exact fin I9 q9
   | true =>
    simp only [if_true] at q9 ⊢
    refine thn (pe'.run _ s9 σ8 H9 _ (to_xe I9) q9) fun z s10 ⟨yv, H10, I10, r10, acc, hD10, hz10, nx⟩ => ?_
    exact app_ok (X := X.blk s3 H3 scope ce fp) (of_xe I10) hD10 hz10 r10 fun s11 I11 => fin I11 nx
 exact codeAny_compStart_list loop (T.self X.A 0 _ _ _ st4 loop)
end
end LcR
set_option maxRecDepth 100000
set_option maxHeartbeats 4000000
namespace Y
open PySem PySem.Spec L2
section
variable {C : Cn} {W : WX} {AV : List V} {F F1 H H1 : Hp} {σ : L2.St} {S S1 S2 : DS} {fp fp1 fp2 : Rt → List Addr} {T : List Rt} {vs : List Nat}
theorem EvA.block (st : StOk C AV F H σ S fp) (s2 : StOk C AV F1 H1 (wipe σ vs) S2 fp2) (p : EvA F H F1 H1 (killF vs fp) fp2) (k0 : ∀ r a, ownR vs r = true → a ∉ fp2 r) :
  StOk C AV F1 H1 σ (S2.rest S vs) (restF vs fp2 fp) ∧ EvA F H F1 H1 fp (restF vs fp2 fp) := by
 have ll : S2.sl.length = S.sl.length := by rw [s2.ln, wipe_length, st.ln]
 have alS : ∀ a, Al (killF vs fp) a → Al fp a := fun a ⟨r, h⟩ => ⟨r, (killF_sub h).2⟩
 have notK : ∀ r a, ownR vs r = true → a ∈ fp r → ¬ Al (killF vs fp) a := fun r a hr ha ⟨r', h2⟩ => by
  obtain ⟨q1, q2⟩ := killF_sub h2
  have := st.dj r r' a ha q2
  subst this
  rw [hr] at q1; cases q1
 have own1 : ∀ r a, ownR vs r = true → a ∈ fp r → H1 a = H a ∧ F1 a = none := fun r a hr ha => by
  obtain ⟨m1, o, m2⟩ := st.mm r a ha
  have nr := notK r a hr ha
  refine ⟨(p.evo.keep a o m2 nr).trans m2.symm, ?_⟩
  cases q : F1 a with
  | none => rfl
  | some o1 =>
   rcases p.evo.fnew a o1 q m1 with z | z | ⟨xs, z⟩
   ·exact absurd z nr
   ·rw [m2] at z; cases z
   ·exact absurd z (st.mt r a xs ha)
 have cross : ∀ r r' a, ownR vs r = true → a ∈ fp r → a ∈ fp2 r' → False := fun r r' a hr h1 h2 => by
  rcases p.new a ⟨r', h2⟩ with z | z
  ·exact notK r a hr h1 z
  ·obtain ⟨_, o, m⟩ := st.mm r a h1; rw [m] at z; cases z
 refine ⟨⟨s2.fh, fun i x hx => ?_, fun j t hj => ?_, fun r r' a h1 h2 => ?_, fun r => ?_, fun r a ha => ?_, fun r a xs ha z1 => ?_, by rw [rest_len, ll]; exact st.ln, by rw [rest_ar]; exact s2.la⟩, p.evo.mono alS, fun a ⟨r, ha⟩ => ?_⟩
 ·by_cases z : i ∈ vs
  ·rw [rest_in ll z] at hx
   obtain ⟨v, q1, q2⟩ := st.sl i x hx
   have ho : ownR vs (.s i) = true := by simp [ownR, z]
   refine ⟨v, q1, ?_⟩
   rw [restF_in ho]
   cases x with
   | tr t => exact own_keep p.evo.fsub t v _ q2 fun a ha => own1 _ a ho ha
   | ar j => exact q2
   | ex c d => exact slEx_mono p.evo.fsub q2
  ·rw [rest_out z] at hx
   obtain ⟨v, q1, q2⟩ := s2.sl i x hx
   rw [wipe_out z] at q1
   exact ⟨v, q1, by rw [restF_out (by simp [ownR, z])]; exact q2⟩
 ·rw [rest_ar] at hj
  obtain ⟨v, q1, q2⟩ := s2.ar j t hj
  exact ⟨v, q1, by rw [restF_out rfl]; exact q2⟩
 ·cases q : ownR vs r with
  | true =>
   rw [restF_in q] at h1
   cases q' : ownR vs r' with
   | true => rw [restF_in q'] at h2; exact st.dj r r' a h1 h2
   | false => rw [restF_out q'] at h2; exact (cross r r' a q h1 h2).elim
  | false =>
   rw [restF_out q] at h1
   cases q' : ownR vs r' with
   | true => rw [restF_in q'] at h2; exact (cross r' r a q' h2 h1).elim
   | false => rw [restF_out q'] at h2; exact s2.dj r r' a h1 h2
 ·cases q : ownR vs r with
  | true => rw [restF_in q]; exact st.nd r
  | false => rw [restF_out q]; exact s2.nd r
 ·cases q : ownR vs r with
  | true =>
   rw [restF_in q] at ha
   obtain ⟨h1, h2⟩ := own1 r a q ha
   obtain ⟨_, o, m⟩ := st.mm r a ha
   exact ⟨h2, o, h1.trans m⟩
  | false => rw [restF_out q] at ha; exact s2.mm r a ha
 ·cases q : ownR vs r with
  | true =>
   rw [restF_in q] at ha
   exact st.mt r a xs ha ((own1 r a q ha).1 ▸ z1)
  | false => rw [restF_out q] at ha; exact s2.mt r a xs ha z1
 ·cases q : ownR vs r with
  | true => rw [restF_in q] at ha; exact .inl ⟨r, ha⟩
  | false =>
   rw [restF_out q] at ha
   rcases p.new a ⟨r, ha⟩ with z | z
   ·exact .inl (alS a z)
   ·exact .inr z
theorem ExcW.block {c : Str} {d : Option PyData} {S5 : DS} {σ3 : L2.St} {F4 H4 : Hp} {f4 : Rt → List Addr} (st : StOk C AV F H σ S fp) (w3 : wipe σ3 vs = wipe σ vs) (e4 : EvA F H F4 H4 (killF vs fp) f4)
  (h : ExcW C W AV F H σ fp c d ((S5.kills vs).rest S vs)) : ExcW C (fun c d _ H => W c d σ H) AV F4 H4 σ3 f4 c d S5 := by
 intro F' H' fp' cls dd s' ev ok
 have sk := s'.killsW (wipe σ vs) w3.symm
 have e5 : EvA F H F' H' (killF vs fp) (killF vs fp') := ⟨(e4.trans ev).evo, fun a ⟨r, ha⟩ => (e4.trans ev).new a ⟨r, (killF_sub ha).2⟩⟩
 obtain ⟨a, b⟩ := EvA.block st sk e5 fun r a hr ha => by rw [killF_in hr] at ha; cases ha
 exact h F' H' _ cls dd a b ok
end
end Y
set_option maxRecDepth 100000
set_option maxHeartbeats 4000000
namespace Y
open PySem PySem.Spec L2
def eLcX (vs : List Nat) (fi : DS → Out (List PyData)) (h : PyData → DS → Option DS) (fe : DS → Out EV) : DS → Out EV := fun S =>
 (fi S).bindT fun ds S1 _ => match lcGo vs h lYes fe ds (S1.kills vs) [] with
  | .ok ts S2 T => .ok (.sv (.lst ts)) (S2.rest S1 vs) (T.filter fun r => !ownR vs r)
  | .exc c d S2 => .exc c d ((S2.kills vs).rest S1 vs)
  | .fail => .fail
def lcEnd (C : Cn) (W : WX) (AV : List V) (F H : Hp) (σ : L2.St) (fp : Rt → List Addr) (P : EV → DS → List Rt → Prop) (vs : List Nat) (S1 : DS) (T0 : List Rt) : Out (List SV) → Prop
 | .fail => False
 | .exc c d S2 => ExcW C W AV F H σ fp c d ((S2.kills vs).rest S1 vs)
 | .ok ts S2 T3 => P (.sv (.lst ts)) (S2.rest S1 vs) ((T0 ++ T3).filter fun r => !ownR vs r)
section
variable {C : Cn} {W : WX} {AV : List V} {F H : Hp} {σ : L2.St} {fp : Rt → List Addr} {P : EV → DS → List Rt → Prop} {vs : List Nat} {S S1 Sc : DS} {T0 : List Rt} {h : PyData → DS → Option DS} {fe : DS → Out EV} {d : PyData} {ds : List PyData} {acc : List SV}
theorem lcEnd_of {o : Out (List SV)} (q : Wp C W AV F H σ fp (match o with | .ok ts S2 T => .ok (.sv (.lst ts)) (S2.rest S1 vs) (T.filter fun r => !ownR vs r) | .exc c d S2 => .exc c d ((S2.kills vs).rest S1 vs) | .fail => .fail : Out EV) P) : lcEnd C W AV F H σ fp P vs S1 [] o := by
 cases o with
 | fail => exact q
 | exc c d S => exact q
 | ok x S T => exact q
theorem lcEnd_nil (q : lcEnd C W AV F H σ fp P vs S1 T0 (lcGo vs h lYes fe [] Sc acc)) : P (.sv (.lst acc)) (Sc.rest S1 vs) (T0.filter fun r => !ownR vs r) := by
 have q' : P (.sv (.lst acc)) (Sc.rest S1 vs) ((T0 ++ []).filter fun r => !ownR vs r) := q
 rwa [List.append_nil] at q'
theorem lcEnd_cons (q : lcEnd C W AV F H σ fp P vs S1 T0 (lcGo vs h lYes fe (d :: ds) Sc acc)) : ∃ S3, h d Sc = some S3 ∧ match fe S3 with
  | .fail => False
  | .exc c d S5 => ExcW C W AV F H σ fp c d ((S5.kills vs).rest S1 vs)
  | .ok e S5 T6 => ∃ t, e = .sv t ∧ acc.length < sizeLine ∧ lcEnd C W AV F H σ fp P vs S1 (T0 ++ T6) (lcGo vs h lYes fe ds (S5.kills vs) (acc ++ [t])) := by
 unfold lcGo at q
 cases eh : h d Sc with
 | none => rw [eh] at q; exact q.elim
 | some S3 =>
  rw [eh] at q
  refine ⟨S3, rfl, ?_⟩
  dsimp only [lYes, Out.bindT] at q
  rw [if_pos rfl] at q
  cases ee : fe S3 with
  | fail => rw [ee] at q; exact q
  | exc c d S5 => rw [ee] at q; exact q
  | ok e S5 T6 =>
   rw [ee] at q
   dsimp only at q
   cases e with
   | pk r p => exact q.elim
   | sv t =>
    dsimp only at q
    by_cases hz : acc.length < sizeLine
    ·rw [if_pos hz] at q
     refine ⟨t, rfl, hz, ?_⟩
     cases eo : lcGo vs h lYes fe ds (S5.kills vs) (acc ++ [t]) with
     | fail => rw [eo] at q; exact q
     | exc c d S => rw [eo] at q; exact q
     | ok x S T =>
      rw [eo] at q
      have q' : P (.sv (.lst x)) (S.rest S1 vs) ((T0 ++ ([] ++ (T6 ++ T))).filter fun r => !ownR vs r) := q
      show P (.sv (.lst x)) (S.rest S1 vs) ((T0 ++ T6 ++ T).filter fun r => !ownR vs r)
      rwa [List.append_assoc]
    ·rw [if_neg hz] at q; exact q.elim
end
section
variable {fi : DS → Out (List PyData)} {h : PyData → DS → Option DS} {g : TG} {fe : DS → Out EV} {C : Cn} {W : WX}
theorem tLcR_LE {vs : List Nat} (ct : CT C vs h g) : ∀ σ H Q, LE C W (eLcX vs fi h fe) σ H Q → LcR.tLcR (LI C W fi) g (LT C never lYes) (fun σ => LE C (fun c d _ H => W c d σ H) fe) vs σ H Q := by
 intro σ H Q ⟨AV, F, S, fp, st, q⟩
 unfold eLcX at q
 refine ⟨AV, F, S, fp, st, wp_mono (wp_bindT q) fun ds S1 T1 q1 F1 H1 fp1 J p1 it D hD => ?_⟩
 have q1' := q1 F1 H1 fp1 p1.evA
 have q0 := lcEnd_of q1'
 have st1 := p1.st
 have fD : F1 D = none := by
  cases q : F1 D with
  | none => rfl
  | some o => rw [st1.fh D o q] at hD; cases hD
 -- the list that is filled stands beside
 have nv : NewV C.K F1 H1 F1 (upd H1 D (.lst [])) (.ref D) (.lst (fzs [])) [D] := nv_lst st1.fh hD .nil
 have stD := (nv.post st1).st
 have stb : StOk C AV F1 H1 (wipe σ vs) (S1.kills vs) (killF vs fp1) := st1.killsW (wipe σ vs) rfl
 have pb0 := nv.post stb
 have k0 : ∀ r, ownR vs r = true → killF vs fp1 r = [] ∧ (S1.kills vs).get r = none := fun r hr => ⟨killF_in hr, by
  cases r with
  | s i =>
   have z : i ∈ vs := by simpa [ownR] using hr
   cases e : (S1.kills vs).get (.s i) with
   | none => rfl
   | some t => exact absurd (get_inv e) (kills_in z)
  | a j => cases hr⟩
 have nD0 : ∀ r, D ∉ killF vs fp1 r := fun r z => by
  obtain ⟨_, o, m⟩ := st1.mm r D (killF_sub z).2
  rw [m] at hD; cases hD
 refine ⟨fun i m Hc => m = ds.length - i ∧ i ≤ ds.length ∧ ∃ Fc Sc fc T0 acc ws fa, Post C AV F1 H1 (wipe σ vs) (S1.kills vs) (killF vs fp1) T0 Sc Fc Hc fc ∧ (∀ r, ownR vs r = true → fc r = [] ∧ Sc.get r = none) ∧
   Hc D = some (.lst ws) ∧ Fc D = none ∧ (∀ r, D ∉ fc r) ∧ OwnL C.K Fc Hc acc ws fa ∧ fa.Nodup ∧ D ∉ fa ∧ (∀ r a, a ∈ fc r → a ∉ fa) ∧ (∀ a ∈ fa, Rg T0 (killF vs fp1) a ∨ H1 a = none) ∧
   lcEnd C W AV F1 H1 σ fp1 (fun y S2 T2 => ∀ F' H' fp' v fe, Post C AV F H σ S fp (T1 ++ T2) S2 F' H' fp' → VP C AV F H σ fp (T1 ++ T2) S2 F' H' fp' v y fe → Q v H') vs S1 T0 (lcGo vs h lYes fe (ds.drop i) Sc acc), ⟨ds.length, rfl, Nat.zero_le _, F1, S1.kills vs, killF vs fp1, [], [], [], [], pb0, k0, upd_same, fD, nD0, by unfold OwnL; exact ⟨rfl, rfl⟩, .nil, by simp, fun _ _ _ h => (by cases h), fun _ h => (by cases h), q0⟩, ?_⟩
 rintro i m Hc ⟨rfl, hil, Fc, Sc, fc, T0, acc, ws, fa, pc, kc, hDc, fDc, nDc, ol, nda, nDa, dja, newa, eq⟩
 obtain ⟨g1, g2⟩ := it i Fc Hc pc.evo.fsub pc.st.fh
 cases e : ds[i]? with
 | none =>
  left
  refine ⟨g2 e, ?_⟩
  have hdr : ds.drop i = [] := List.drop_eq_nil_of_le (List.getElem?_eq_none_iff.mp e)
  rw [hdr] at eq
  have eq2 := lcEnd_nil eq
  have pb := Post.block (S := S1) st1 (T := T0) pc fun r a hr z => by rw [(kc r hr).1] at z; cases z
  have pp := p1.trans pb
  refine eq2 Fc Hc _ (.ref D) (D :: fa) pp ⟨?_, fun r a ha hm => ?_, List.nodup_cons.mpr ⟨nDa, nda⟩, fun a ha => ?_, rfl⟩
  ·show Own C.K Fc Hc (.lst acc) (.ref D) (D :: fa)
   unfold Own
   exact ⟨D, ws, fa, rfl, rfl, hDc, fDc, ol⟩
  ·cases qo : ownR vs r with
   | true =>
    rw [restF_in qo] at ha
    have hs := st1.mm r a ha
    rcases List.mem_cons.mp hm with z | z
    ·rw [z] at hs; obtain ⟨_, o, m⟩ := hs; rw [m] at hD; cases hD
    ·rcases newa a z with y | y
     ·obtain ⟨r', _, y2⟩ := y
      obtain ⟨y3, y4⟩ := killF_sub y2
      have := st1.dj r r' a ha y4
      subst this
      rw [qo] at y3; cases y3
     ·obtain ⟨_, o, m⟩ := hs; rw [m] at y; cases y
   | false =>
    rw [restF_out qo] at ha
    rcases List.mem_cons.mp hm with z | z
    ·rw [z] at ha; exact nDc r ha
    ·exact dja r a ha z
  ·rcases List.mem_cons.mp ha with z | z
   ·rw [z]
    exact .inr (p1.evo.none_back hD)
   ·rcases newa a z with y | y
    ·obtain ⟨r', y1, y2⟩ := y
     obtain ⟨y3, y4⟩ := killF_sub y2
     have := p1.rg (T2 := T0.filter fun r => !ownR vs r) ⟨r', by simp [y1, y3], y4⟩
     simpa using this
    ·exact .inr (p1.evo.none_back y)
 | some d =>
  right
  obtain ⟨hl, _⟩ := List.getElem?_eq_some_iff.mp e
  obtain ⟨go, yl⟩ := g1 d e
  have hd : ds.drop i = d :: ds.drop (i + 1) := by
   have h2 := List.getElem?_eq_getElem hl
   rw [e] at h2
   rw [List.drop_eq_getElem_cons hl, Option.some.inj h2]
  rw [hd] at eq
  obtain ⟨S3, eh, eq⟩ := lcEnd_cons eq
  refine ⟨go, fun H' => ∃ Fc Sc fc T0 acc ws fa, Post C AV F1 H1 (wipe σ vs) (S1.kills vs) (killF vs fp1) T0 Sc Fc H' fc ∧ (∀ r, ownR vs r = true → fc r = [] ∧ Sc.get r = none) ∧
   H' D = some (.lst ws) ∧ Fc D = none ∧ (∀ r, D ∉ fc r) ∧ OwnL C.K Fc H' acc ws fa ∧ fa.Nodup ∧ D ∉ fa ∧ (∀ r a, a ∈ fc r → a ∉ fa) ∧ (∀ a ∈ fa, Rg T0 (killF vs fp1) a ∨ H1 a = none) ∧
   lcEnd C W AV F1 H1 σ fp1 (fun y S2 T2 => ∀ F' H' fp' v fe, Post C AV F H σ S fp (T1 ++ T2) S2 F' H' fp' → VP C AV F H σ fp (T1 ++ T2) S2 F' H' fp' v y fe → Q v H') vs S1 T0 (lcGo vs h lYes fe (ds.drop (i + 1)) Sc acc), fun H' hN => ⟨ds.length - (i + 1), by omega, rfl, hl, hN⟩, fun x H3 hy => ?_⟩
  obtain ⟨F3, n3⟩ := yl x H3 hy
  have pn := n3.post pc.st
  refine ct.run AV F3 H3 (wipe σ vs) Sc fc x d S3 _ pn.st (own_fz n3.own) eh fun σ3 f3 st3 w3' same3 sub3 => ?_
  have w3 := w3'.trans wipe_idem
  refine ⟨w3.trans rfl, ?_⟩
  have p03 := pc.trans pn
  -- the post from the block's beginning, the own names beside
  have own3 : ∀ r, ownR vs r = true → f3 r = [] := fun r hr => by
   cases z : f3 r with
   | nil => rfl
   | cons a l =>
    have := sub3 r a (by rw [z]; simp)
    rw [(kc r hr).1] at this; cases this
  have keepA : ∀ {F5 H5 : Hp} {S5 : DS} {f5 : Rt → List Addr} {T5 : List Rt}, Post C AV F3 H3 σ3 S3 f3 T5 S5 F5 H5 f5 → H5 D = some (.lst ws) ∧ F5 D = none ∧ (∀ r, D ∉ f5 r) ∧ OwnL C.K F5 H5 acc ws fa ∧ ∀ r a, a ∈ f5 r → a ∉ fa := fun {F5 H5 S5 f5 T5} p5 => by
   have hD3 := free_keep pc.st pn hDc (fun xs e => by rw [hDc] at e; cases e) fDc nDc
   have nD3 : ∀ r, D ∉ f3 r := fun r z => nDc r (sub3 r D z)
   obtain ⟨a1, a2, a3⟩ := free_keep st3 p5 (o := .lst ws) (hD3.1.trans hDc) (fun xs e => by rw [hD3.1, hDc] at e; cases e) hD3.2.1 nD3
   have each : ∀ a ∈ fa, (H5 a = Hc a ∧ F5 a = none) ∧ ∀ r, a ∉ f5 r := fun a ha => by
    obtain ⟨m1, o, m2⟩ := ownL_fp acc ws fa ol a ha
    obtain ⟨b1, b2, b3⟩ := free_keep pc.st pn m2 (ownL_nt acc ws fa ol a ha) m1 fun r z => dja r a z ha
    obtain ⟨c1, c2, c3⟩ := free_keep st3 p5 (o := o) (b1.trans m2) (fun xs e => ownL_nt acc ws fa ol a ha xs (b1 ▸ e)) b2 fun r z => dja r a (sub3 r a z) ha
    exact ⟨⟨c1.trans b1, c2⟩, c3⟩
   exact ⟨a1.trans (hD3.1.trans hDc), a2, a3, ownL_keep (fun a o z => p5.evo.fsub a o (n3.fk a o z)) acc ws fa ol fun a ha => (each a ha).1, fun r a hr ha => (each a ha).2 r hr⟩
  have rg5 : ∀ (T5 : List Rt) (a : Addr), Rg T5 f3 a → Rg (T0 ++ T5) (killF vs fp1) a ∨ H1 a = none := fun T5 a ⟨r, h1, h2⟩ => pc.rg (T2 := T5) ⟨r, h1, sub3 r a h2⟩
  -- carried to the next turn
  have pnext : ∀ {F5 H5 : Hp} {S5 : DS} {f5 : Rt → List Addr} {T5 : List Rt}, Post C AV F3 H3 σ3 S3 f3 T5 S5 F5 H5 f5 → Post C AV F1 H1 (wipe σ vs) (S1.kills vs) (killF vs fp1) (T0 ++ T5) (S5.kills vs) F5 H5 (killF vs f5) := fun {F5 H5 S5 f5 T5} p5 => by
   have st5 : StOk C AV F5 H5 (wipe σ vs) (S5.kills vs) (killF vs f5) := p5.st.killsW (wipe σ vs) w3.symm
   refine ⟨st5, (p03.evo.mono fun a z => ?_).trans p5.evo (rg5 T5), fun r hr => ?_, fun r a ha => ?_⟩
   ·have : Rg (T0 ++ []) (killF vs fp1) a := z
    rw [List.append_nil] at this
    exact Rg.app.mpr (.inl this)
   ·have h0 : r ∉ T0 := fun z => hr (by simp [z])
    have h5 : r ∉ T5 := fun z => hr (by simp [z])
    cases qo : ownR vs r with
    | true =>
     refine ⟨(killF_in qo).trans (k0 r qo).1.symm, ?_⟩
     rw [(k0 r qo).2]
     cases r with
     | s j =>
      have z : j ∈ vs := by simpa [ownR] using qo
      cases e9 : (S5.kills vs).get (.s j) with
      | none => rfl
      | some t => exact absurd (get_inv e9) (kills_in z)
     | a j => cases qo
    | false =>
     obtain ⟨a1, a2⟩ := p5.same r h5
     obtain ⟨b1, b2⟩ := same3 r qo
     obtain ⟨c1, c2⟩ := pc.same r h0
     exact ⟨(killF_out qo).trans (a1.trans (b1.trans c1)), (killed_get qo).trans (a2.trans (b2.trans c2))⟩
   ·obtain ⟨qo, ha'⟩ := killF_sub ha
    rcases p5.new r a ha' with z | z | z
    ·rcases rg5 T5 a z with y | y
     ·exact .inl y
     ·exact .inr (.inl y)
    ·exact .inr (.inl (p03.evo.none_back z))
    ·have h3 : a ∈ f3 r := by rw [← (p5.same r z).1]; exact ha'
     have hc := sub3 r a h3
     rcases pc.new r a hc with y | y | y
     ·exact .inl (Rg.app.mpr (.inl y))
     ·exact .inr (.inl y)
     ·exact .inr (.inr (by simp [y, z]))
  refine ⟨AV, F3, S3, f3, st3, wp_ok (x := true) (S := S3) (T := []) rfl fun F4 H4 f4 p4 => ?_⟩
  simp only [if_true]
  have e4 : EvA F1 H1 F4 H4 (killF vs fp1) f4 := EvA.trans ⟨p03.evA.evo, fun a ⟨r, ha⟩ => p03.evA.new a ⟨r, sub3 r a ha⟩⟩ p4.evA
  cases ee : fe S3 with
  | fail => rw [ee] at eq; exact eq.elim
  | exc c d S5 =>
   rw [ee] at eq
   refine ⟨AV, F4, S3, f4, p4.st, ?_⟩
   rw [ee]
   exact ExcW.block st1 w3 e4 eq
  | ok ev S5 T6 =>
   rw [ee] at eq
   dsimp only at eq
   ·obtain ⟨t, ht, hsz, ek2⟩ := eq
    subst ht
    refine ⟨AV, F4, S3, f4, p4.st, wp_ok ee fun F5 H5 f5 y fy p5 v5 => ?_⟩
    have p35 := p4.trans p5
    obtain ⟨a1, a2, a3, a4, a5⟩ := keepA p35
    obtain ⟨a1', a2', a3', a4', a5'⟩ := keepA p4
    have hlen : ws.length = acc.length := (ownL_len ol).symm
    refine ⟨ws, a1, by rw [hlen]; exact hsz, F5, S5.kills vs, killF vs f5, T0 ++ ([] ++ T6), acc ++ [t], ws ++ [y], fa ++ fy, ?_⟩
    have oy : Own C.K F5 H5 t y fy := v5.val
    -- the new item's place
    have yfree : ∀ a ∈ fy, a ∉ fa ∧ a ≠ D := fun a ha => by
     rcases v5.new a ha with z | z
     ·obtain ⟨r, _, z2⟩ := z
      refine ⟨a5' r a z2, fun q => ?_⟩
      rw [q] at z2
      exact a3' r z2
     ·refine ⟨fun q => ?_, fun q => ?_⟩
      ·obtain ⟨_, o, m⟩ := ownL_fp acc ws fa a4' a q
       rw [m] at z; cases z
      ·rw [q, a1'] at z; cases z
    have upk : ∀ a, a ≠ D → upd H5 D (.lst (ws ++ [y])) a = H5 a := fun a ha => upd_ne ha
    have pn5 := pnext p35
    -- behind the append: D alone is changed, which is no root's
    have st6 : StOk C AV F5 (upd H5 D (.lst (ws ++ [y]))) (wipe σ vs) (S5.kills vs) (killF vs f5) := by
     have s5 := pn5.st
     have kp : ∀ r a, a ∈ killF vs f5 r → upd H5 D (.lst (ws ++ [y])) a = H5 a ∧ F5 a = none := fun r a ha => ⟨upk a fun q => by rw [q] at ha; exact a3 r (killF_sub ha).2, (s5.mm r a ha).1⟩
     refine ⟨fun a o z => ?_, fun i x hx => ?_, fun j t1 hj => ?_, s5.dj, s5.nd, fun r a ha => ?_, fun r a xs ha z => s5.mt r a xs ha ((kp r a ha).1 ▸ z), s5.ln, s5.la⟩
     ·have : a ≠ D := fun q => by rw [q, a2] at z; cases z
      rw [upk a this]
      exact s5.fh a o z
     ·obtain ⟨v, q1, q2⟩ := s5.sl i x hx
      refine ⟨v, q1, ?_⟩
      cases x with
      | tr t1 => exact own_keep (fun _ _ z => z) t1 v _ q2 (kp _)
      | ar j => exact q2
      | ex c d => exact q2
     ·obtain ⟨v, q1, q2⟩ := s5.ar j t1 hj
      exact ⟨v, q1, own_keep (fun _ _ z => z) t1 v _ q2 (kp _)⟩
     ·obtain ⟨m1, o, m2⟩ := s5.mm r a ha
      exact ⟨m1, o, (kp r a ha).1.trans m2⟩
    refine ⟨⟨st6, ⟨pn5.evo.fsub, fun a o z nr => ?_, pn5.evo.fnew, fun a o z => ?_⟩, pn5.same, pn5.new⟩, fun r hr => ⟨killF_in hr, ?_⟩, upd_same, a2, fun r z => a3 r (killF_sub z).2, ?_, ?_, ?_, fun r a ha hm => ?_, fun a ha => ?_, ek2⟩
    ·have hz := pn5.evo.keep a o z nr
     rw [upk a fun q => by rw [q, hD] at z; cases z]
     exact hz
    ·obtain ⟨o', z'⟩ := pn5.evo.dom a o z
     by_cases q : a = D
     ·exact ⟨_, by rw [q]; exact upd_same⟩
     ·exact ⟨o', by rw [upk a q]; exact z'⟩
    ·cases r with
     | s j =>
      have z : j ∈ vs := by simpa [ownR] using hr
      cases e9 : (S5.kills vs).get (.s j) with
      | none => rfl
      | some t => exact absurd (get_inv e9) (kills_in z)
     | a j => cases hr
    ·refine ownL_app (ownL_keep (fun _ _ z => z) acc ws fa a4 fun a ha => ⟨upk a fun q => nDa (by rw [← q]; exact ha), (ownL_fp acc ws fa a4 a ha).1⟩) (own_keep (fun _ _ z => z) t y fy oy fun a ha => ⟨upk a (yfree a ha).2, (own_fp t y fy oy a ha).1⟩)
    ·exact List.nodup_append.mpr ⟨nda, v5.nd, fun a ha b hb q => (yfree b hb).1 (by rw [← q]; exact ha)⟩
    ·intro z
     rcases List.mem_append.mp z with z | z
     ·exact nDa z
     ·exact (yfree D z).2 rfl
    ·have ha' := (killF_sub ha).2
     rcases List.mem_append.mp hm with z | z
     ·exact a5 r a ha' z
     ·exact v5.dj r a ha' z
    ·rcases List.mem_append.mp ha with z | z
     ·exact (newa a z).imp (fun q => Rg.app.mpr (.inl q)) id
     ·rcases v5.new a z with q | q
      ·rcases p4.rg q with w | w
       ·exact rg5 _ a w
       ·exact .inr (p03.evo.none_back w)
      ·exact .inr (p03.evo.none_back (p4.evo.none_back q))
end
end Y
set_option maxRecDepth 100000
set_option maxHeartbeats 4000000
namespace Y
open PySem PySem.Spec L2
section
variable {X : Cx} {EX : Hp → V → Str → Option PyData → Prop} {W : WX} {elt tg iter : Expr} {scope : Scope} {own : List (Str × Nat)} {pos : Pos} {fi : DS → Out (List PyData)} {h : PyData → DS → Option DS} {g : TG} {fe : DS → Out EV}
theorem de_lcX (ct : CT (cnOf X EX) (own.map (·.2)) h g) (tk : Takes X W) (hst : X.stack = X.env :: X.outer) (hfr : X.env.frame = some X.env.locals) (hc : X.calm = true) (hN : X.N.Nodup) (hi : DI X EX W tg iter fi) (ok : BlkOk X.N X.env.scope scope own)
  (hg : ∀ (s : Shared) (H : Hp) (C : Addr) (cl : List (Str × Addr)) (fp : List Addr), PG (X.blk s H scope (compEnvC scope cl C X.env) fp) tg g)
  (he : ∀ (W : WX) (s : Shared) (H : Hp) (C : Addr) (cl : List (Str × Addr)) (fp : List Addr) (xe' : Value → Shared → Prop), Takes (LcR.blkE X s H scope (compEnvC scope cl C X.env) fp xe') W → DE (LcR.blkE X s H scope (compEnvC scope cl C X.env) fp xe') EX W elt fe)
  (hs : ∀ x, foldedSetIterable iter X.env x = pure x := by intro _; rfl) : DE X EX W (.ListComp elt [⟨tg, iter, [], 0⟩] scope pos) (eLcX (own.map (·.2)) fi h fe) :=
 pe_of (LcR.pe_lcR (te := fun σ => LE (cnOf X EX) (fun c d _ H => W c d σ H) fe) tk hst hfr hc hN hi ok hg (fun s H C cl fp => dts_nil (X := X.blk s H scope (compEnvC scope cl C X.env) fp)) (fun σ s H C cl fp xe' t => he _ s H C cl fp xe' t) hs) (tLcR_LE (C := cnOf X EX) ct)
end
end Y
set_option maxRecDepth 100000
set_option maxHeartbeats 4000000
namespace U
open PySem PySem.Spec Y
open L2 (atI ixN)
inductive R (α : Type) where
 | ok (a : α)
 | exc (c : Str) (d : Option PyData)
 | fail
def R.bind {α β : Type} (r : R α) (f : α → R β) : R β := match r with
 | .ok a => f a
 | .exc c d => .exc c d
 | .fail => .fail
theorem R.bind_ok {α β : Type} {r : R α} {f : α → R β} {b : β} (h : r.bind f = .ok b) : ∃ a, r = .ok a ∧ f a = .ok b := by
 cases r with
 | ok a => exact ⟨a, rfl, h⟩
 | exc c d => cases h
 | fail => cases h
theorem R.ok_bind {α β : Type} {a : α} {f : α → R β} : (R.ok a).bind f = f a := rfl
theorem R.inj {α : Type} {a b : α} (h : R.ok a = R.ok b) : a = b := by cases h; rfl
theorem ite_t {α : Type} {b : Bool} {x y : α} {z : α} (hb : b = true) (h : (if b = true then x else y) = z) : x = z := by rw [if_pos hb] at h; exact h
theorem ite_f {α : Type} {b : Bool} {x y : α} {z : α} (hb : b = false) (h : (if b = true then x else y) = z) : y = z := by rw [if_neg (by simp [hb])] at h; exact h
inductive Ctl (ρ σ : Type) where
 | nx (s : σ)
 | rt (r : ρ)
 | bk (s : σ)
def Ctl.elim {ρ σ β : Type} (c : Ctl ρ σ) (f : σ → β) (g : ρ → β) : β := match c with
 | .nx s => f s
 | .rt r => g r
 | .bk s => f s
def forR {α σ : Type} (body : σ → α → R σ) : List α → σ → R σ
 | [], s => .ok s
 | x :: xs, s => (body s x).bind fun s' => forR body xs s'
def forC {α ρ σ : Type} (body : σ → α → R (Ctl ρ σ)) : List α → σ → R (Ctl ρ σ)
 | [], s => .ok (.nx s)
 | x :: xs, s => (body s x).bind fun c => match c with
  | .nx s' => forC body xs s'
  | .rt r => .ok (.rt r)
  | .bk s' => .ok (.nx s')
def whileR {σ : Type} (cond : σ → R Bool) (body : σ → R σ) : Nat → σ → R σ
 | 0, _ => .fail
 | n + 1, s => (cond s).bind fun b => if b = true then (body s).bind fun s' => whileR cond body n s' else .ok s
def mapR {α β : Type} (body : α → R β) : List α → R (List β)
 | [] => .ok []
 | x :: xs => (body x).bind fun y => (mapR body xs).bind fun ys => .ok (y :: ys)
def fmapR {α β : Type} (body : α → R (Option β)) : List α → R (List β)
 | [] => .ok []
 | x :: xs => (body x).bind fun o => (fmapR body xs).bind fun ys => .ok (match o with
  | some y => y :: ys
  | none => ys)
def smapR {α β σ : Type} (body : σ → α → R (σ × β)) : List α → σ → R (σ × List β)
 | [], s => .ok (s, [])
 | x :: xs, s => (body s x).bind fun r => (smapR body xs r.1).bind fun q => .ok (q.1, r.2 :: q.2)
def lcR {α β : Type} (xs : List α) (body : α → R β) : R (List β) := if xs.length ≤ sizeLine then mapR body xs else .fail
def lcF {α β : Type} (xs : List α) (body : α → R (Option β)) : R (List β) := if xs.length ≤ sizeLine then fmapR body xs else .fail
def lcS {α β σ : Type} (xs : List α) (s : σ) (body : σ → α → R (σ × β)) : R (σ × List β) := if xs.length ≤ sizeLine then smapR body xs s else .fail
section
variable {α β γ : Type}
def dL (c : α → PyData) (xs : List α) : PyData := .list (xs.map c)
def dT (c : α → PyData) (xs : List α) : PyData := .tuple (xs.map c)
def dP (c : α → PyData) (e : β → PyData) (x : α × β) : PyData := .tuple [c x.1, e x.2]
def dQ (c : α → PyData) (e : β → PyData) (f : γ → PyData) (x : α × β × γ) : PyData := .tuple [c x.1, e x.2.1, f x.2.2]
def dN (_ : Unit) : PyData := .none
def dA (d : PyData) : PyData := d
def sF (c : α → PyData) (x : α) : SV := .fz (c x)
def sL (e : α → SV) (xs : List α) : SV := .lst (xs.map e)
def sR (c : α → PyData) (x : α) : SV := .ro (c x)
end
abbrev tr (v : SV) : Option Sl := some (.tr v)
abbrev ar (j : Nat) : Option Sl := some (.ar j)
def EJ (f : DS → Out EV) (S : DS) (v : EV) (S' : DS) (L : List Rt) : Prop := ∃ T, f S = .ok v S' T ∧ ∀ r ∈ T, r ∈ L
def AJ (f : DS → Out (List EV)) (S : DS) (v : List EV) (S' : DS) (L : List Rt) : Prop := ∃ T, f S = .ok v S' T ∧ ∀ r ∈ T, r ∈ L
def IJ (f : DS → Out (List PyData)) (S : DS) (v : List PyData) (S' : DS) (L : List Rt) : Prop := ∃ T, f S = .ok v S' T ∧ ∀ r ∈ T, r ∈ L
def OJ (f : DS → Out (Option Int)) (S : DS) (v : Option Int) (S' : DS) (L : List Rt) : Prop := ∃ T, f S = .ok v S' T ∧ ∀ r ∈ T, r ∈ L
def TJ (f : DS → Out Bool) (S : DS) (b : Bool) (S' : DS) (L : List Rt) : Prop := ∃ T, f S = .ok b S' T ∧ ∀ r ∈ T, r ∈ L
def TR (v : EV) (S : DS) (t : SV) : Prop := v.tree S = some t
def TRs (es : List EV) (S : DS) (ts : List SV) : Prop := trees S es = some ts
def STB (v : EV) (L : List Rt) : Prop := ∀ T, (∀ r ∈ T, r ∈ L) → v.stable T = true
def PB (S : DS) (es : List EV) (A : List SV) (S' : DS) : Prop := putBack S es A = S'
structure Sim (o : SOut) (P : SOut → Prop) : Prop where
 out : P o
section
variable {S S1 S2 S3 S' : DS} {L L1 L2 L3 : List Rt} {e ea eb ec : EV} {es : List EV} {t u z w y : SV} {ts : List SV} {d : PyData} {fa fb fc fo fi fe : DS → Out EV} {fr : DS → Out (List EV)} {i j k : Nat} {r : Rt} {α β σ ρ : Type}
theorem sub_nil (t : SV) : t.sub [] = some t := by unfold SV.sub; cases t <;> rfl
theorem set_nil (t v : SV) : t.setAt [] v = v := by unfold SV.setAt; cases t <;> rfl
theorem nil_in : ∀ r ∈ ([] : List Rt), r ∈ L := fun _ h => by cases h
theorem app_in {T1 T2 : List Rt} (h1 : ∀ r ∈ T1, r ∈ L1) (h2 : ∀ r ∈ T2, r ∈ L2) : ∀ r ∈ T1 ++ T2, r ∈ L1 ++ L2 := fun r h => by
 rcases List.mem_append.mp h with h | h
 ·exact List.mem_append.mpr (.inl (h1 r h))
 ·exact List.mem_append.mpr (.inr (h2 r h))
theorem app_nil {T1 : List Rt} (h1 : ∀ r ∈ T1, r ∈ L1) : ∀ r ∈ T1 ++ [], r ∈ L1 := fun r h => by rw [List.append_nil] at h; exact h1 r h
theorem tr_sv : TR (.sv t) S t := rfl
theorem tr_pk (h : S.get r = some t) : TR (.pk r []) S t := by
 unfold TR EV.tree
 dsimp only
 rw [h]
 exact sub_nil t
theorem map_at {f : α → β} {xs : List α} {x : α} (h : xs[k]? = some x) : (xs.map f)[k]? = some (f x) := by rw [List.getElem?_map, h]; rfl
theorem trs_nil : TRs [] S [] := rfl
theorem trs_cons (a : TR e S t) (b : TRs es S ts) : TRs (e :: es) S (t :: ts) := by
 unfold TR TRs at *
 unfold trees
 rw [a, b]
theorem st_sv : STB (.sv t) L := fun _ _ => rfl
theorem st_pk : STB (.pk r []) L := fun _ _ => rfl
theorem q_c : EJ (eC d) S (.sv (.fz d)) S [] := ⟨[], rfl, nil_in⟩
theorem q_ro : EJ (eRo d) S (.sv (.ro d)) S [] := ⟨[], rfl, nil_in⟩
theorem q_vf (h : S.sl[i]? = some (some (.tr (.fz d)))) : EJ (eVar i) S (.sv (.fz d)) S [] := ⟨[], by unfold eVar; rw [h], nil_in⟩
theorem q_vr (h : S.sl[i]? = some (some (.tr (.ro d)))) : EJ (eVar i) S (.sv (.ro d)) S [] := ⟨[], by unfold eVar; rw [h], nil_in⟩
theorem q_vl {xs : List SV} (h : S.sl[i]? = some (some (.tr (.lst xs)))) : EJ (eVar i) S (.pk (.s i) []) S [] := ⟨[], by unfold eVar; rw [h], nil_in⟩
theorem q_va {xs : List SV} (h : S.sl[i]? = some (some (.ar j))) (h2 : S.ar[j]? = some (.lst xs)) : EJ (eVar i) S (.pk (.a j) []) S [] := ⟨[], by unfold eVar; rw [h]; dsimp only; rw [h2], nil_in⟩
theorem q_vaf (h : S.sl[i]? = some (some (.ar j))) (h2 : S.ar[j]? = some (.fz d)) : EJ (eVar i) S (.sv (.fz d)) S [] := ⟨[], by unfold eVar; rw [h]; dsimp only; rw [h2], nil_in⟩
theorem q_op2 {g : SV → SV → Option SV} (a : EJ fa S ea S1 L1) (b : EJ fb S1 eb S2 L2) (s : STB ea L2) (ta : TR ea S2 t) (tb : TR eb S2 u) (h : g t u = some z) : EJ (eOp2 g fa fb) S (.sv z) S2 (L1 ++ L2) := by
 obtain ⟨T1, e1, n1⟩ := a
 obtain ⟨T2, e2, n2⟩ := b
 unfold TR at ta tb
 refine ⟨T1 ++ (T2 ++ []), ?_, app_in n1 (app_nil n2)⟩
 simp [eOp2, Out.bindT, e1, e2, s T2 n2, ta, tb, h]
theorem q_and {b b2 : Bool} (a : EJ fa S ea S1 L1) (ta : TR ea S1 (.fz (.bool b))) (h1 : b = true → EJ fb S1 (.sv (.fz (.bool b2))) S1 L2) (h0 : b = false → b2 = false) : EJ (eAnd fa fb) S (.sv (.fz (.bool b2))) S1 (L1 ++ L2) := by
 obtain ⟨T1, e1, n1⟩ := a
 unfold TR at ta
 cases b with
 | true =>
  obtain ⟨T2, e2, n2⟩ := h1 rfl
  exact ⟨T1 ++ T2, by simp [eAnd, bnd, Out.bindT, e1, ta, tOf, e2], app_in n1 n2⟩
 | false =>
  rw [h0 rfl]
  exact ⟨T1 ++ [], by simp [eAnd, bnd, Out.bindT, e1, ta, tOf], app_in n1 nil_in⟩
theorem q_or {b b2 : Bool} (a : EJ fa S ea S1 L1) (ta : TR ea S1 (.fz (.bool b))) (h1 : b = false → EJ fb S1 (.sv (.fz (.bool b2))) S1 L2) (h0 : b = true → b2 = true) : EJ (eOr fa fb) S (.sv (.fz (.bool b2))) S1 (L1 ++ L2) := by
 obtain ⟨T1, e1, n1⟩ := a
 unfold TR at ta
 cases b with
 | false =>
  obtain ⟨T2, e2, n2⟩ := h1 rfl
  exact ⟨T1 ++ T2, by simp [eOr, bnd, Out.bindT, e1, ta, tOf, e2], app_in n1 n2⟩
 | true =>
  rw [h0 rfl]
  exact ⟨T1 ++ [], by simp [eOr, bnd, Out.bindT, e1, ta, tOf], app_in n1 nil_in⟩
theorem q_tv {b : Bool} (a : EJ fa S ea S1 L1) (ta : TR ea S1 (.fz (.bool b))) : TJ (tv fa) S b S1 L1 := by
 obtain ⟨T1, e1, n1⟩ := a
 unfold TR at ta
 exact ⟨T1 ++ [], by simp [tv, bnd, Out.bindT, e1, ta, tOf], app_nil n1⟩
section
variable {t1 t2 : DS → Out Bool} {b b2 : Bool}
theorem q_lnot (h : TJ t1 S b S1 L) : TJ (lNot t1) S (!b) S1 L := by
 obtain ⟨T, e, n⟩ := h
 exact ⟨T ++ [], by simp [lNot, Out.bindT, e], app_nil n⟩
theorem q_land (h : TJ t1 S b S1 L1) (h1 : b = true → TJ t2 S1 b2 S1 L2) (h0 : b = false → b2 = false) : TJ (lAnd t1 t2) S b2 S1 (L1 ++ L2) := by
 obtain ⟨T, e, n⟩ := h
 cases b with
 | true => obtain ⟨T2, e2, n2⟩ := h1 rfl; exact ⟨T ++ T2, by simp [lAnd, Out.bindT, e, e2], app_in n n2⟩
 | false => rw [h0 rfl]; exact ⟨T ++ [], by simp [lAnd, Out.bindT, e], app_in n nil_in⟩
theorem q_lor (h : TJ t1 S b S1 L1) (h1 : b = false → TJ t2 S1 b2 S1 L2) (h0 : b = true → b2 = true) : TJ (lOr t1 t2) S b2 S1 (L1 ++ L2) := by
 obtain ⟨T, e, n⟩ := h
 cases b with
 | false => obtain ⟨T2, e2, n2⟩ := h1 rfl; exact ⟨T ++ T2, by simp [lOr, Out.bindT, e, e2], app_in n n2⟩
 | true => rw [h0 rfl]; exact ⟨T ++ [], by simp [lOr, Out.bindT, e], app_in n nil_in⟩
theorem q_landp (h : TJ t1 S b S1 L1) (h1 : TJ t2 S1 b2 S1 L2) : TJ (lAnd t1 t2) S (b && b2) S1 (L1 ++ L2) := q_land h (fun hb => by rw [hb, Bool.true_and]; exact h1) fun hb => by rw [hb]; rfl
theorem q_if (h : TJ t1 S b S1 L1) (h1 : b = true → EJ fa S1 (.sv z) S2 L2) (h0 : b = false → EJ fb S1 (.sv z) S2 L2) : EJ (eIf t1 fa fb) S (.sv z) S2 (L1 ++ L2) := by
 obtain ⟨T, e, n⟩ := h
 cases b with
 | true => obtain ⟨T2, e2, n2⟩ := h1 rfl; exact ⟨T ++ T2, by simp [eIf, Out.bindT, e, e2], app_in n n2⟩
 | false => obtain ⟨T2, e2, n2⟩ := h0 rfl; exact ⟨T ++ T2, by simp [eIf, Out.bindT, e, e2], app_in n n2⟩
theorem EJ.up (h : EJ fa S ea S1 L1) (k : ∀ r ∈ L1, r ∈ L2) : EJ fa S ea S1 L2 := by
 obtain ⟨T, e, n⟩ := h
 exact ⟨T, e, fun r hr => k r (n r hr)⟩
end
theorem q_nil : AJ aNil S [] S [] := ⟨[], rfl, nil_in⟩
theorem q_cons (a : EJ fa S ea S1 L1) (b : AJ fr S1 es S2 L2) (s : STB ea L2) (ta : TR ea S2 t) : AJ (aCons fa fr) S (ea :: es) S2 (L1 ++ L2) := by
 obtain ⟨T1, e1, n1⟩ := a
 obtain ⟨T2, e2, n2⟩ := b
 unfold TR at ta
 exact ⟨T1 ++ (T2 ++ []), by simp [aCons, Out.bindT, e1, e2, s T2 n2, EV.alive, ta], app_in n1 (app_nil n2)⟩
theorem q_callB {g : List SV → Option SV} (a : AJ fr S es S1 L) (ht : TRs es S1 ts) (h : g ts = some z) : EJ (eCallB g fr) S (.sv z) S1 L := by
 obtain ⟨T1, e1, n1⟩ := a
 unfold TRs at ht
 exact ⟨T1 ++ [], by simp [eCallB, Out.bindT, e1, ht, h], app_nil n1⟩
theorem q_ix (a : EJ fa S ea S1 L1) (b : EJ fb S1 eb S2 L2) (s : STB ea L2) (ta : TR ea S2 t) (tb : TR eb S2 u) (h : gIx t u = some (.inl z)) : EJ (eIx fa fb) S (.sv z) S2 (L1 ++ L2) := by
 obtain ⟨T1, e1, n1⟩ := a
 obtain ⟨T2, e2, n2⟩ := b
 unfold TR at ta tb
 exact ⟨T1 ++ (T2 ++ []), by simp [eIx, Out.bindT, e1, e2, s T2 n2, ta, tb, h], app_in n1 (app_nil n2)⟩
theorem q_fzs (a : EJ fa S (.sv t) S1 L) (h : t.frz = some d) : EJ (eFz fa) S (.sv (.fz d)) S1 L := by
 obtain ⟨T1, e1, n1⟩ := a
 exact ⟨T1 ++ [], by simp [eFz, Out.bindT, e1, h], app_nil n1⟩
theorem q_fzp (a : EJ fa S (.pk r []) S1 L) (hg : S1.get r = some t) (h : t.frz = some d) : EJ (eFz fa) S (.sv (.fz d)) (S1.put r (.fz d)) (L ++ [r]) := by
 obtain ⟨T1, e1, n1⟩ := a
 exact ⟨T1 ++ [r], by simp [eFz, Out.bindT, e1, hg, sub_nil, set_nil, h], app_in n1 fun _ h => h⟩
theorem q_mvs (a : EJ fa S (.sv t) S1 L) : EJ (eMv fa) S (.sv t) S1 L := by
 obtain ⟨T1, e1, n1⟩ := a
 exact ⟨T1 ++ [], by simp [eMv, Out.bindT, e1], app_nil n1⟩
theorem frz_fz : (SV.fz d).frz = some d := by unfold SV.frz; rfl
theorem frz_F {c : α → PyData} (x : α) : (sF c x).frz = some (c x) := frz_fz
theorem frz_L {en : α → SV} {c : α → PyData} (h : ∀ x, (en x).frz = some (c x)) (xs : List α) : (sL en xs).frz = some (dL c xs) := by
 have : ∀ xs : List α, frzL (xs.map en) = some (xs.map c) := fun xs => by
  induction xs with
  | nil => unfold frzL; rfl
  | cons x xs ih =>
   rw [List.map_cons, List.map_cons]
   unfold frzL
   rw [h x, ih]
 unfold sL SV.frz
 rw [this]
 rfl
theorem pb_nil {A : List SV} : PB S [] A S := by unfold PB putBack; cases A <;> rfl
theorem pb_sv {A : List SV} (h : PB S es A S') : PB S (.sv t :: es) (y :: A) S' := by
 unfold PB at *
 unfold putBack
 exact h
theorem pb_pk {A : List SV} (hg : S.get r = some t) (h : PB (S.put r y) es A S') : PB S (.pk r [] :: es) (y :: A) S' := by
 unfold PB at *
 unfold putBack
 rw [hg]
 dsimp only
 rw [set_nil]
 exact h
theorem q_fn {m : List SV → FOut} {A : List SV} (a : AJ fr S es S1 L) (ht : TRs es S1 ts) (nd : (rootsOf es).Nodup) (h : m ts = .ret t A) (pb : PB S1 es A S2) : EJ (eFn m fr) S (.sv t) S2 (L ++ rootsOf es) := by
 obtain ⟨T1, e1, n1⟩ := a
 unfold TRs at ht
 unfold PB at pb
 exact ⟨T1 ++ rootsOf es, by simp [eFn, Out.bindT, e1, ht, nd, h, pb], app_in n1 fun _ h => h⟩
theorem q_tup {ds : List PyData} (a : AJ fr S es S1 L) (h : fzEs es = some ds) (hl : ds.length ≤ 1000) : EJ (eTup fr) S (.sv (.fz (.tuple ds))) S1 L := by
 obtain ⟨T1, e1, n1⟩ := a
 have hl' : ds.length ≤ sizeLine := by rw [sizeLine_eq]; omega
 exact ⟨T1 ++ [], by simp [eTup, Out.bindT, e1, h, hl'], app_nil n1⟩
theorem q_lst (a : AJ fr S es S1 L) (h : svEs es = some ts) (hl : ts.length ≤ 1000) : EJ (eLst fr) S (.sv (.lst ts)) S1 L := by
 obtain ⟨T1, e1, n1⟩ := a
 have hl' : ts.length ≤ sizeLine := by rw [sizeLine_eq]; omega
 exact ⟨T1 ++ [], by simp [eLst, Out.bindT, e1, h, hl'], app_nil n1⟩
theorem q_isi {T n : Y.Ty} {b : Bool} (a : EJ fa S ea S1 L) (ta : TR ea S1 t) (h : t.ty = some n) (hb : n.isa T = b) : EJ (eIsi T fa) S (.sv (.fz (.bool b))) S1 L := by
 obtain ⟨T1, e1, n1⟩ := a
 unfold TR at ta
 subst hb
 exact ⟨T1 ++ [], by simp [eIsi, Out.bindT, e1, ta, h], app_nil n1⟩
theorem q_viewf (h : EJ (eVar i) S (.sv t) S L) (a : EJ fa S ea S1 L1) : EJ (eView i fa) S ea S1 L1 := by
 obtain ⟨T, e, _⟩ := h
 unfold EJ eView
 rw [e]
 exact a
theorem q_viewp {c : PyData} (h : EJ (eVar i) S (.pk r []) S L) (hg : S.get r = some t) (hf : t.frz = some d) (a : EJ fa (S.put r (.fz d)) (.sv (.fz c)) S1 []) (sc : isScal c = true) : EJ (eView i fa) S (.sv (.fz c)) S [] := by
 obtain ⟨T, e, _⟩ := h
 obtain ⟨T1, e1, n1⟩ := a
 have : T1 = [] := List.eq_nil_iff_forall_not_mem.mpr fun r hr => by cases n1 r hr
 subst this
 refine ⟨[], ?_, nil_in⟩
 unfold eView
 rw [e]
 dsimp only
 rw [hg]
 dsimp only
 rw [hf]
 dsimp only
 rw [e1]
 dsimp only
 rw [if_pos sc]
def rangeI (lo : Int) (n : Nat) : List Int := (List.range n).map fun (i : Nat) => lo + (i : Int)
theorem rangeL_eq {lo : Int} {n : Nat} : rangeL lo n = (rangeI lo n).map .int := by unfold rangeL rangeI; rw [List.map_map]; rfl
def rngR (lo hi : Int) : R (List Int) := if rgOk lo hi = true then .ok (rangeI lo (hi - lo).toNat) else .fail
def chars (x : Str) : List Str := x.cps.toList.map fun c => ⟨#[c]⟩
theorem charsL_eq {x : Str} : charsL x = (chars x).map .str := by unfold charsL chars; rw [List.map_map]; rfl
theorem rngR_ok {i j : Int} {xs : List Int} (h : rngR i j = .ok xs) : rgOk i j = true ∧ rangeL i (j - i).toNat = xs.map .int := by
 unfold rngR at h
 by_cases q : rgOk i j = true
 ·rw [if_pos q] at h; cases h; exact ⟨q, rangeL_eq⟩
 ·rw [if_neg q] at h; cases h
theorem q_ir1 {j : Int} {xs : List Int} (a : AJ fr S [.sv (.fz (.int j))] S1 L) (h : rngR 0 j = .ok xs) : IJ (iRng1 fr) S (xs.map .int) S1 L := by
 obtain ⟨T1, e1, n1⟩ := a
 obtain ⟨h1, h2⟩ := rngR_ok h
 refine ⟨T1 ++ [], ?_, app_nil n1⟩
 unfold iRng1 Out.bindT
 rw [e1]
 dsimp only
 rw [if_pos h1, ← h2, Int.sub_zero]
theorem q_isL {c : α → PyData} {xs : List α} (a : EJ (eFz fa) S (.sv (.fz (dL c xs))) S1 L) : IJ (iSeq fa) S (xs.map c) S1 L := by
 obtain ⟨T1, e1, n1⟩ := a
 refine ⟨T1 ++ [], ?_, app_nil n1⟩
 unfold iSeq
 rw [e1]
 rfl
theorem q_isS {x : Str} (a : EJ (eFz fa) S (.sv (.fz (.str x))) S1 L) : IJ (iSeq fa) S ((chars x).map .str) S1 L := by
 obtain ⟨T1, e1, n1⟩ := a
 refine ⟨T1 ++ [], ?_, app_nil n1⟩
 unfold iSeq
 rw [e1]
 dsimp only
 rw [charsL_eq]
theorem q_pno : OJ pNo S none S [] := ⟨[], rfl, nil_in⟩
theorem q_pat {j : Int} (a : EJ fa S (.sv (.fz (.int j))) S1 L) : OJ (pAt fa) S (some j) S1 L := by
 obtain ⟨T1, e1, n1⟩ := a
 exact ⟨T1 ++ [], by simp [pAt, Out.bindT, e1], app_nil n1⟩
theorem q_sl {fl fh : DS → Out (Option Int)} {lo hi : Option Int} (a : EJ fa S ea S1 L1) (b : OJ fl S1 lo S2 L2) (c : OJ fh S2 hi S3 L3) (s : STB ea (L2 ++ L3)) (ta : TR ea S3 t) (h : gSl t lo hi = some z) : EJ (eSl fa fl fh) S (.sv z) S3 (L1 ++ (L2 ++ L3)) := by
 obtain ⟨T1, e1, n1⟩ := a
 obtain ⟨T2, e2, n2⟩ := b
 obtain ⟨T3, e3, n3⟩ := c
 unfold TR at ta
 exact ⟨T1 ++ (T2 ++ (T3 ++ [])), by simp [eSl, Out.bindT, e1, e2, e3, s _ (app_in n2 n3), ta, h], app_in n1 (app_in n2 (app_nil n3))⟩
theorem q_met {T : Y.Ty} {g : List SV → Option SV} (a : EJ fo S ea S1 L1) (hi : ea.isT S1 T = true) (b : AJ fr S1 es S2 L2) (s : STB ea L2) (ta : TR ea S2 t) (ht : TRs es S2 ts) (h : g (t :: ts) = some z) : EJ (eMet T g fo fr) S (.sv z) S2 (L1 ++ L2) := by
 obtain ⟨T1, e1, n1⟩ := a
 obtain ⟨T2, e2, n2⟩ := b
 unfold TR at ta
 unfold TRs at ht
 exact ⟨T1 ++ (T2 ++ []), by simp [eMet, Out.bindT, e1, hi, e2, s T2 n2, ta, ht, h], app_in n1 (app_nil n2)⟩
theorem isL_pk {xs : List SV} (h : S.get r = some (.lst xs)) : EV.isL S (.pk r []) = true := by
 have := tr_pk h
 unfold TR at this
 unfold EV.isL
 rw [this]
theorem q_app {en : α → SV} {xs : List α} {x : α} {ys : List SV} (o : EJ fo S (.pk r []) S1 L1) (h1 : S1.get r = some (.lst ys)) (a : EJ fa S1 (.sv (en x)) S2 L2) (h2 : S2.get r = some (sL en xs)) (hl : xs.length < sizeLine) : EJ (eApp fo fa) S (.sv (.fz .none)) (S2.put r (sL en (xs ++ [x]))) (L1 ++ (L2 ++ [r])) := by
 obtain ⟨T1, e1, n1⟩ := o
 obtain ⟨T2, e2, n2⟩ := a
 have q1 := isL_pk h1
 refine ⟨T1 ++ (T2 ++ [r]), ?_, app_in n1 (app_in n2 fun _ h => h)⟩
 unfold sL at h2
 have s : EV.stable T2 (.pk r []) = true := rfl
 unfold eApp Out.bindT
 rw [e1]
 dsimp only
 rw [if_pos q1, e2]
 dsimp only
 rw [if_pos s, h2]
 dsimp only
 rw [sub_nil]
 dsimp only
 rw [if_pos (by rw [List.length_map]; exact hl), set_nil]
 unfold sL
 rw [List.map_append]
 rfl
theorem q_st {u' : SV} (o : EJ fo S (.pk r []) S1 L1) (b : EJ fi S1 eb S2 L2) (tb : TR eb S2 w) (h2 : S2.get r = some u) (h : gSetIx u w t = some u') : gSt fo fi t S = .nx (S2.put r u') := by
 obtain ⟨T1, e1, n1⟩ := o
 obtain ⟨T2, e2, n2⟩ := b
 unfold TR at tb
 have s : EV.stable T2 (.pk r []) = true := rfl
 unfold gSt oSt Out.bindT sBind
 rw [e1]
 dsimp only
 rw [e2]
 dsimp only
 rw [if_pos s, h2, tb]
 dsimp only
 rw [sub_nil]
 dsimp only
 rw [h]
 dsimp only
 rw [set_nil]
theorem q_asg {hs : SV → DS → SOut} (a : EJ fa S (.sv t) S1 L) (h : hs t S1 = .nx S2) : sAsg fa hs S = .nx S2 := by
 obtain ⟨T1, e1, n1⟩ := a
 unfold sAsg sBind
 rw [e1]
 dsimp only
 rw [h]
theorem q_expr (a : EJ fa S e S1 L) : sExpr fa S = .nx S1 := by
 obtain ⟨T1, e1, n1⟩ := a
 unfold sExpr sBind
 rw [e1]
theorem q_ret (a : EJ fa S (.sv t) S1 L) : sRet fa S = .rt t S1.ar := by
 obtain ⟨T1, e1, n1⟩ := a
 unfold sRet sBind
 rw [e1]
section
variable {P : SOut → Prop} {f g : DS → SOut}
theorem sim_seq (e : f S = .nx S1) (k : Sim (g S1) P) : Sim (sSeq f g S) P := by
 refine ⟨?_⟩
 unfold sSeq
 rw [e]
 exact k.out
theorem sim_rt {A : List SV} (e : f S = .rt t A) (k : P (.rt t A)) : Sim (sSeq f g S) P := by
 refine ⟨?_⟩
 unfold sSeq
 rw [e]
 exact k
theorem sim_if {tt : DS → Out Bool} {b : Bool} (h : TJ tt S b S1 L) (h1 : b = true → Sim (f S1) P) (h0 : b = false → Sim (g S1) P) : Sim (sIf tt f g S) P := by
 obtain ⟨T, e, _⟩ := h
 refine ⟨?_⟩
 unfold sIf sBind
 rw [e]
 cases b with
 | true => exact (h1 rfl).out
 | false => exact (h0 rfl).out
theorem sim_last (e : f S = .nx S1) (k : P (.nx S1)) : Sim (f S) P := by
 refine ⟨?_⟩
 rw [e]
 exact k
theorem sim_ret {A : List SV} (e : f S = .rt t A) (k : P (.rt t A)) : Sim (f S) P := by
 refine ⟨?_⟩
 rw [e]
 exact k
def MidP (g : DS → SOut) (P : SOut → Prop) (o : SOut) : Prop := match o with
 | .nx S1 => Sim (g S1) P
 | o => P o
theorem sim_mid (h : Sim (f S) (MidP g P)) : Sim (sSeq f g S) P := by
 have h := h.out
 refine ⟨?_⟩
 unfold MidP at h
 unfold sSeq
 cases e : f S <;> rw [e] at h <;> first | exact h.out | exact h
theorem mid_nx (k : Sim (g S1) P) : MidP g P (.nx S1) := k
theorem mid_rt {A : List SV} (k : P (.rt t A)) : MidP g P (.rt t A) := k
def JnP (St : σ → DS → Prop) (s : σ) (o : SOut) : Prop := ∃ S', o = .nx S' ∧ St s S'
theorem sim_join {St : σ → DS → Prop} {s : σ} (k : Sim (f S) (JnP St s)) (k2 : ∀ S', St s S' → Sim (g S') P) : Sim (sSeq f g S) P := by
 obtain ⟨S', e, q⟩ := k.out
 exact sim_seq e (k2 S' q)
end
def FinP (t : SV) (A : List SV) (o : SOut) : Prop := o = .rt t A ∨ (t = .fz .none ∧ ∃ S', o = .nx S' ∧ S'.ar = A)
theorem runFn_fin {n np : Nat} {fb : DS → SOut} {ts : List SV} {t : SV} {A : List SV} (h : ts.length = np ∧ np ≤ n) (e : Sim (fb (initDS n ts)) (FinP t A)) : runFn n np fb ts = .ret t A := by
 unfold runFn
 rw [if_pos h]
 rcases e.out with e | ⟨e1, S', e2, e3⟩
 ·rw [e]
 ·rw [e2, e1, ← e3]
def CtlP (St : σ → DS → Prop) (Rt : ρ → SV → List SV → Prop) (c : Ctl ρ σ) (o : SOut) : Prop := match c with
 | .nx s => ∃ S', (o = .nx S' ∨ o = .ct S') ∧ St s S'
 | .rt r => ∃ t A, o = .rt t A ∧ Rt r t A
 | .bk s => ∃ S', o = .bk S' ∧ St s S'
def LoopP (St : σ → DS → Prop) (Rt : ρ → SV → List SV → Prop) (c : Ctl ρ σ) (o : SOut) : Prop := match c with
 | .nx s => ∃ S', o = .nx S' ∧ St s S'
 | .rt r => ∃ t A, o = .rt t A ∧ Rt r t A
 | .bk s => ∃ S', o = .nx S' ∧ St s S'
def NxP (St : σ → DS → Prop) (s : σ) (o : SOut) : Prop := ∃ S', (o = .nx S' ∨ o = .ct S') ∧ St s S'
theorem for_c {St : σ → DS → Prop} {Rt : ρ → SV → List SV → Prop} {h : SV → DS → SOut} {f : DS → SOut} {en : α → PyData} {body : σ → α → R (Ctl ρ σ)}
  (step : ∀ s x c S, St s S → body s x = .ok c → ∃ S1, h (.fz (en x)) S = .nx S1 ∧ Sim (f S1) (CtlP St Rt c)) : ∀ (xs : List α) (s : σ) (c : Ctl ρ σ) (S : DS), St s S → forC body xs s = .ok c → LoopP St Rt c (sFor h f (xs.map en) S)
 | [], s, c, S, hS, e => by
  cases e
  exact ⟨S, rfl, hS⟩
 | x :: xs, s, c, S, hS, e => by
  obtain ⟨c1, e1, e2⟩ := R.bind_ok e
  obtain ⟨S1, q1, ⟨q2⟩⟩ := step s x c1 S hS e1
  rw [List.map_cons]
  unfold sFor
  rw [q1]
  dsimp only
  cases c1 with
  | nx s' =>
   obtain ⟨S', q | q, q3⟩ := q2 <;> rw [q] <;> exact for_c step xs s' c S' q3 e2
  | rt r =>
   cases e2
   obtain ⟨t, A, q, q3⟩ := q2
   rw [q]
   exact ⟨t, A, rfl, q3⟩
  | bk s' =>
   cases e2
   obtain ⟨S', q, q3⟩ := q2
   rw [q]
   exact ⟨S', rfl, q3⟩
theorem for_r {St : σ → DS → Prop} {h : SV → DS → SOut} {f : DS → SOut} {en : α → PyData} {body : σ → α → R σ}
  (step : ∀ s x s' S, St s S → body s x = .ok s' → ∃ S1, h (.fz (en x)) S = .nx S1 ∧ Sim (f S1) (NxP St s')) : ∀ (xs : List α) (s s' : σ) (S : DS), St s S → forR body xs s = .ok s' → ∃ S', sFor h f (xs.map en) S = .nx S' ∧ St s' S'
 | [], s, c, S, hS, e => by
  cases e
  exact ⟨S, rfl, hS⟩
 | x :: xs, s, c, S, hS, e => by
  obtain ⟨c1, e1, e2⟩ := R.bind_ok e
  obtain ⟨S1, q1, ⟨q2⟩⟩ := step s x c1 S hS e1
  rw [List.map_cons]
  unfold sFor
  rw [q1]
  dsimp only
  obtain ⟨S', q | q, q3⟩ := q2 <;> rw [q] <;> exact for_r step xs c1 c S' q3 e2
theorem loop_cases {St : σ → DS → Prop} {Rt : ρ → SV → List SV → Prop} {c : Ctl ρ σ} {o : SOut} (h : LoopP St Rt c o) : (∃ s S', (∀ {β : Type} (f : σ → β) (g : ρ → β), c.elim f g = f s) ∧ o = .nx S' ∧ St s S') ∨ (∃ r t A, (∀ {β : Type} (f : σ → β) (g : ρ → β), c.elim f g = g r) ∧ o = .rt t A ∧ Rt r t A) := by
 cases c with
 | nx s => obtain ⟨S', e, q⟩ := h; exact .inl ⟨s, S', fun _ _ => rfl, e, q⟩
 | rt r => obtain ⟨t, A, e, q⟩ := h; exact .inr ⟨r, t, A, fun _ _ => rfl, e, q⟩
 | bk s => obtain ⟨S', e, q⟩ := h; exact .inl ⟨s, S', fun _ _ => rfl, e, q⟩
theorem forI {fi : DS → Out (List PyData)} {h : SV → DS → SOut} {f : DS → SOut} {ds : List PyData} (i : IJ fi S ds S1 L) : sForI fi h f S = sFor h f ds S1 := by
 obtain ⟨T, e, _⟩ := i
 unfold sForI sBind
 rw [e]
theorem while_r {St : σ → DS → Prop} {t : DS → Out Bool} {f : DS → SOut} {cond : σ → R Bool} {body : σ → R σ}
  (test : ∀ s b S, St s S → cond s = .ok b → ∃ S1 L, TJ t S b S1 L ∧ St s S1) (step : ∀ s s' S, St s S → body s = .ok s' → Sim (f S) (NxP St s')) : ∀ (n : Nat) (s s' : σ) (S : DS), St s S → whileR cond body n s = .ok s' → ∃ S', sWhile t f n S = .nx S' ∧ St s' S'
 | 0, s, s', S, hS, e => by cases e
 | n + 1, s, s', S, hS, e => by
  obtain ⟨b, e1, e2⟩ := R.bind_ok e
  obtain ⟨S1, _, ⟨T, q1, _⟩, q2⟩ := test s b S hS e1
  unfold sWhile sBind
  rw [q1]
  dsimp only
  cases b with
  | true =>
   rw [if_pos rfl] at e2 ⊢
   obtain ⟨s1, e3, e4⟩ := R.bind_ok e2
   obtain ⟨S', q | q, q3⟩ := (step s s1 S1 q2 e3).out <;> rw [q] <;> exact while_r test step n s1 s' S' q3 e4
  | false =>
   rw [if_neg (by simp)] at e2 ⊢
   cases e2
   exact ⟨S1, rfl, q2⟩
theorem lc_go {vs : List Nat} {h : PyData → DS → Option DS} {en : α → PyData} {eo : β → SV} {body : α → R β} {Sk : DS}
  (step : ∀ x y, body x = .ok y → ∃ Sx Sy, h (en x) Sk = some Sx ∧ EJ fe Sx (.sv (eo y)) Sy L2 ∧ Sy.kills vs = Sk) : ∀ (xs : List α) (ys : List β) (acc : List SV), mapR body xs = .ok ys → acc.length + xs.length ≤ sizeLine → ∃ T, lcGo vs h lYes fe (xs.map en) Sk acc = .ok (acc ++ ys.map eo) Sk T ∧ ∀ r ∈ T, r ∈ L2
 | [], ys, acc, e, hl => by cases e; exact ⟨[], by simp [lcGo], nil_in⟩
 | x :: xs, ys, acc, e, hl => by
  obtain ⟨y, e1, e2⟩ := R.bind_ok e
  obtain ⟨ys', e3, e4⟩ := R.bind_ok e2
  cases e4
  obtain ⟨Sx, Sy, q1, ⟨T, q2, q3⟩, q4⟩ := step x y e1
  rw [List.length_cons] at hl
  obtain ⟨T', q5, q6⟩ := lc_go step xs ys' (acc ++ [eo y]) e3 (by rw [List.length_append, List.length_singleton]; omega)
  refine ⟨[] ++ (T ++ T'), ?_, fun r hr => ?_⟩
  ·rw [List.map_cons]
   unfold lcGo
   rw [q1]
   simp only [lYes, Out.bindT, if_true, q2]
   rw [if_pos (by omega), q4, q5]
   simp
  ·rcases List.mem_append.mp (by simpa using hr) with z | z
   ·exact q3 r z
   ·exact q6 r z
theorem lcF_go {vs : List Nat} {h : PyData → DS → Option DS} {tt : DS → Out Bool} {en : α → PyData} {eo : β → SV} {body : α → R (Option β)} {Sk : DS}
  (step : ∀ x y, body x = .ok y → ∃ Sx Sz b, h (en x) Sk = some Sx ∧ TJ tt Sx b Sz L1 ∧ match y with
   | some y => b = true ∧ ∃ Sy, EJ fe Sz (.sv (eo y)) Sy L2 ∧ Sy.kills vs = Sk
   | none => b = false ∧ Sz.kills vs = Sk) : ∀ (xs : List α) (ys : List β) (acc : List SV), fmapR body xs = .ok ys → acc.length + xs.length ≤ sizeLine → ∃ T, lcGo vs h tt fe (xs.map en) Sk acc = .ok (acc ++ ys.map eo) Sk T ∧ ∀ r ∈ T, r ∈ L1 ++ L2
 | [], ys, acc, e, hl => by cases e; exact ⟨[], by simp [lcGo], nil_in⟩
 | x :: xs, ys, acc, e, hl => by
  obtain ⟨y, e1, e2⟩ := R.bind_ok e
  obtain ⟨ys', e3, e4⟩ := R.bind_ok e2
  obtain ⟨Sx, Sz, b, q1, ⟨T1, q5, q7⟩, q6⟩ := step x y e1
  rw [List.length_cons] at hl
  cases y with
  | some y =>
   cases e4
   obtain ⟨rfl, Sy, ⟨T, q2, q3⟩, q4⟩ := q6
   obtain ⟨T', q8, q9⟩ := lcF_go step xs ys' (acc ++ [eo y]) e3 (by rw [List.length_append, List.length_singleton]; omega)
   refine ⟨T1 ++ (T ++ T'), ?_, fun r hr => ?_⟩
   ·rw [List.map_cons]
    unfold lcGo
    rw [q1]
    simp only [Out.bindT, q5, if_true, q2]
    rw [if_pos (by omega), q4, q8]
    simp
   ·rcases List.mem_append.mp hr with z | z
    ·exact List.mem_append.mpr (.inl (q7 r z))
    ·rcases List.mem_append.mp z with z | z
     ·exact List.mem_append.mpr (.inr (q3 r z))
     ·exact q9 r z
  | none =>
   cases e4
   obtain ⟨rfl, q4⟩ := q6
   obtain ⟨T', q8, q9⟩ := lcF_go step xs ys' acc e3 (by omega)
   refine ⟨T1 ++ T', ?_, fun r hr => ?_⟩
   ·rw [List.map_cons]
    unfold lcGo
    rw [q1]
    simp only [Out.bindT, q5]
    rw [if_neg (by simp), q4, q8]
   ·rcases List.mem_append.mp hr with z | z
    ·exact List.mem_append.mpr (.inl (q7 r z))
    ·exact q9 r z
theorem TJ.nil {tt : DS → Out Bool} {b : Bool} (h : TJ tt S b S1 L) (k : ∀ r ∈ L, r ∈ ([] : List Rt)) : tt S = .ok b S1 [] := by
 obtain ⟨T, e, n⟩ := h
 have : T = [] := List.eq_nil_iff_forall_not_mem.mpr fun r hr => by cases k r (n r hr)
 rw [e, this]
theorem lcS_go {vs : List Nat} {h : PyData → DS → Option DS} {en : α → PyData} {eo : β → SV} {body : σ → α → R (σ × β)} {St : σ → DS → Prop}
  (step : ∀ s x r S, St s S → body s x = .ok r → ∃ Sx Sy, h (en x) S = some Sx ∧ EJ fe Sx (.sv (eo r.2)) Sy L ∧ St r.1 (Sy.kills vs)) : ∀ (xs : List α) (s : σ) (q : σ × List β) (acc : List SV) (S : DS), St s S → smapR body xs s = .ok q → acc.length + xs.length ≤ sizeLine → ∃ S' T, lcGo vs h lYes fe (xs.map en) S acc = .ok (acc ++ q.2.map eo) S' T ∧ St q.1 S' ∧ ∀ r ∈ T, r ∈ L
 | [], s, q, acc, S, hS, e, hl => by cases e; exact ⟨S, [], by simp [lcGo], hS, nil_in⟩
 | x :: xs, s, q, acc, S, hS, e, hl => by
  obtain ⟨y, e1, e2⟩ := R.bind_ok e
  obtain ⟨ys', e3, e4⟩ := R.bind_ok e2
  cases e4
  obtain ⟨Sx, Sy, q1, ⟨T, q2, q3⟩, q4⟩ := step s x y S hS e1
  rw [List.length_cons] at hl
  obtain ⟨S', T', q5, q6, q7⟩ := lcS_go step xs y.1 ys' (acc ++ [eo y.2]) _ q4 e3 (by rw [List.length_append, List.length_singleton]; omega)
  refine ⟨S', [] ++ (T ++ T'), ?_, q6, fun r hr => ?_⟩
  ·rw [List.map_cons]
   unfold lcGo
   rw [q1]
   simp only [lYes, Out.bindT, if_true, q2]
   rw [if_pos (by omega), q5]
   simp
  ·rcases List.mem_append.mp (by simpa using hr) with z | z
   ·exact q3 r z
   ·exact q7 r z
theorem lcR_ok {xs : List α} {body : α → R β} {ys : List β} (h : lcR xs body = .ok ys) : xs.length ≤ sizeLine ∧ mapR body xs = .ok ys := by
 unfold lcR at h
 by_cases q : xs.length ≤ sizeLine
 ·rw [if_pos q] at h; exact ⟨q, h⟩
 ·rw [if_neg q] at h; cases h
theorem lcF_ok {xs : List α} {body : α → R (Option β)} {ys : List β} (h : lcF xs body = .ok ys) : xs.length ≤ sizeLine ∧ fmapR body xs = .ok ys := by
 unfold lcF at h
 by_cases q : xs.length ≤ sizeLine
 ·rw [if_pos q] at h; exact ⟨q, h⟩
 ·rw [if_neg q] at h; cases h
theorem lcS_ok {xs : List α} {s : σ} {body : σ → α → R (σ × β)} {q : σ × List β} (h : lcS xs s body = .ok q) : xs.length ≤ sizeLine ∧ smapR body xs s = .ok q := by
 unfold lcS at h
 by_cases z : xs.length ≤ sizeLine
 ·rw [if_pos z] at h; exact ⟨z, h⟩
 ·rw [if_neg z] at h; cases h
theorem q_lc {vs : List Nat} {fi : DS → Out (List PyData)} {h : PyData → DS → Option DS} {en : α → PyData} {eo : β → SV} {body : α → R β} {xs : List α} {ys : List β} {Sk : DS} (i : IJ fi S (xs.map en) S1 L) (hr : lcR xs body = .ok ys) (hk : S1.kills vs = Sk)
  (step : ∀ x y, body x = .ok y → ∃ Sx Sy, h (en x) Sk = some Sx ∧ EJ fe Sx (.sv (eo y)) Sy L2 ∧ Sy.kills vs = Sk) (hq : Sk.rest S1 vs = S2) : EJ (eLc vs fi h lYes fe) S (.sv (sL eo ys)) S2 (L ++ L2) := by
 obtain ⟨T, e, n⟩ := i
 obtain ⟨h1, h2⟩ := lcR_ok hr
 obtain ⟨T', q1, q2⟩ := lc_go step xs ys [] h2 (by simpa using h1)
 refine ⟨T ++ T'.filter fun r => !ownR vs r, ?_, app_in n fun r hr => q2 r (List.mem_filter.mp hr).1⟩
 unfold eLc Out.bindT
 rw [e]
 dsimp only
 rw [hk, q1]
 dsimp only
 rw [hq]
 rfl
theorem q_lcF {vs : List Nat} {fi : DS → Out (List PyData)} {h : PyData → DS → Option DS} {tt : DS → Out Bool} {en : α → PyData} {eo : β → SV} {body : α → R (Option β)} {xs : List α} {ys : List β} {Sk : DS} (i : IJ fi S (xs.map en) S1 L) (hr : lcF xs body = .ok ys) (hk : S1.kills vs = Sk)
  (step : ∀ x y, body x = .ok y → ∃ Sx Sz b, h (en x) Sk = some Sx ∧ TJ tt Sx b Sz L1 ∧ match y with
   | some y => b = true ∧ ∃ Sy, EJ fe Sz (.sv (eo y)) Sy L2 ∧ Sy.kills vs = Sk
   | none => b = false ∧ Sz.kills vs = Sk) (hq : Sk.rest S1 vs = S2) : EJ (eLc vs fi h tt fe) S (.sv (sL eo ys)) S2 (L ++ (L1 ++ L2)) := by
 obtain ⟨T, e, n⟩ := i
 obtain ⟨h1, h2⟩ := lcF_ok hr
 obtain ⟨T', q1, q2⟩ := lcF_go step xs ys [] h2 (by simpa using h1)
 refine ⟨T ++ T'.filter fun r => !ownR vs r, ?_, app_in n fun r hr => q2 r (List.mem_filter.mp hr).1⟩
 unfold eLc Out.bindT
 rw [e]
 dsimp only
 rw [hk, q1]
 dsimp only
 rw [hq]
 rfl
theorem q_lcS {vs : List Nat} {fi : DS → Out (List PyData)} {h : PyData → DS → Option DS} {en : α → PyData} {eo : β → SV} {body : σ → α → R (σ × β)} {xs : List α} {q : σ × List β} {s : σ} {St : σ → DS → Prop} (i : IJ fi S (xs.map en) S1 L) (hr : lcS xs s body = .ok q) (hk : St s (S1.kills vs))
  (step : ∀ s x r S, St s S → body s x = .ok r → ∃ Sx Sy, h (en x) S = some Sx ∧ EJ fe Sx (.sv (eo r.2)) Sy L2 ∧ St r.1 (Sy.kills vs)) (hq : ∀ S', St q.1 S' → S'.rest S1 vs = S2) : EJ (eLc vs fi h lYes fe) S (.sv (sL eo q.2)) S2 (L ++ L2) := by
 obtain ⟨T, e, n⟩ := i
 obtain ⟨h1, h2⟩ := lcS_ok hr
 obtain ⟨S', T', q1, q2, q3⟩ := lcS_go step xs s q [] _ hk h2 (by simpa using h1)
 refine ⟨T ++ T'.filter fun r => !ownR vs r, ?_, app_in n fun r hr => q3 r (List.mem_filter.mp hr).1⟩
 unfold eLc Out.bindT
 rw [e]
 dsimp only
 rw [q1]
 dsimp only
 rw [hq S' q2]
 rfl
end
end U
set_option maxRecDepth 100000
set_option maxHeartbeats 4000000
namespace U
open PySem PySem.Spec Y
open L2 (atI ixN)
open PySem.W (dataLe)
section
variable {α β γ : Type} {c : α → PyData} {en : α → SV} {xs ys : List α} {x y : α} {i j : Int} {t u z : SV}
def ixk (n : Nat) (i : Int) : Nat := (ixN n i).getD 0
def ixR (xs : List α) (i : Int) : R α := match ixN xs.length i with
 | some k => (match xs[k]? with
  | some x => .ok x
  | none => .fail)
 | none => .fail
theorem ixR_ok (h : ixR xs i = .ok x) : ixN xs.length i = some (ixk xs.length i) ∧ xs[ixk xs.length i]? = some x := by
 unfold ixR at h
 unfold ixk
 cases e : ixN xs.length i with
 | none => rw [e] at h; cases h
 | some k =>
  rw [e] at h
  refine ⟨rfl, ?_⟩
  dsimp only at h
  show xs[k]? = some x
  cases e2 : xs[k]? with
  | none => rw [e2] at h; cases h
  | some w => rw [e2] at h; cases h; rfl
theorem atI_map (h : ixR xs i = .ok x) : atI (xs.map c) i = some (c x) := by
 obtain ⟨h1, h2⟩ := ixR_ok h
 unfold atI
 rw [List.length_map, h1]
 exact map_at h2
theorem gIx_T (h : ixR xs i = .ok x) : gIx (.fz (dT c xs)) (.fz (.int i)) = some (.inl (.fz (c x))) := by
 show (match atI (xs.map c) i with | some d => some (Sum.inl (SV.fz d)) | none => none) = _
 rw [atI_map h]
theorem gIx_L (h : ixR xs i = .ok x) : gIx (.fz (dL c xs)) (.fz (.int i)) = some (.inl (.fz (c x))) := by
 show (match atI (xs.map c) i with | some d => some (Sum.inl (SV.fz d)) | none => none) = _
 rw [atI_map h]
theorem gIx_RL (hs : ∀ x, isScal (c x) = true) (h : ixR xs i = .ok x) : gIx (.ro (dL c xs)) (.fz (.int i)) = some (.inl (.fz (c x))) := by
 show (match atI (xs.map c) i with | some d => if isScal d = true then some (Sum.inl (SV.fz d)) else none | none => none) = _
 rw [atI_map h]
 dsimp only
 rw [if_pos (hs x)]
theorem gIx_F (h : ixR xs i = .ok x) : gIx (sL (sF c) xs) (.fz (.int i)) = some (.inl (.fz (c x))) := by
 obtain ⟨h1, h2⟩ := ixR_ok h
 unfold sL gIx
 dsimp only
 rw [List.length_map, h1]
 dsimp only
 rw [map_at h2]
 rfl
def sixR (x : Str) (i : Int) : R Str := if x.length ≤ sizeLine then ixR (chars x) i else .fail
theorem gIx_S {x y : Str} (h : sixR x i = .ok y) : gIx (.fz (.str x)) (.fz (.int i)) = some (.inl (.fz (.str y))) := by
 unfold sixR at h
 by_cases q : x.length ≤ sizeLine
 ·rw [if_pos q] at h
  obtain ⟨h1, h2⟩ := ixR_ok h
  show (if x.length ≤ sizeLine then (match atI x.cps.toList i with | some c => some (Sum.inl (SV.fz (.str ⟨#[c]⟩))) | none => none) else none) = _
  rw [if_pos q]
  unfold chars at h1 h2
  rw [List.length_map] at h1 h2
  unfold atI
  rw [h1]
  rw [List.getElem?_map] at h2
  show (match x.cps.toList[ixk x.cps.toList.length i]? with | some c => some (Sum.inl (SV.fz (PyData.str ⟨#[c]⟩))) | none => none) = _
  cases e : x.cps.toList[ixk x.cps.toList.length i]? with
  | none => rw [e] at h2; cases h2
  | some w => rw [e] at h2; cases h2; rfl
 ·rw [if_neg q] at h; cases h
def mulR (i j : Int) : R Int := if cMul i j = true then .ok (i * j) else .fail
def fdivR (i j : Int) : R Int := if cDiv i j = true then .ok (i / j) else .fail
def modR (i j : Int) : R Int := if cMod i j = true then .ok (i % j) else .fail
def powR (i j : Int) : R Int := if cPow i j = true then .ok (i ^ j.toNat) else .fail
theorem gInt_ok {C : Int → Int → Bool} {f : Int → Int → Int} {v : Int} (h : (if C i j = true then R.ok (f i j) else .fail) = .ok v) : gInt C f (.fz (.int i)) (.fz (.int j)) = some (.fz (.int v)) := by
 show (if C i j = true then some (SV.fz (.int (f i j))) else none) = _
 by_cases q : C i j = true
 ·rw [if_pos q] at h ⊢; cases h; rfl
 ·rw [if_neg q] at h; cases h
theorem gMul_i {v : Int} (h : mulR i j = .ok v) : gMul (.fz (.int i)) (.fz (.int j)) = some (.fz (.int v)) := by
 unfold mulR at h
 show (if cMul i j = true then some (SV.fz (.int (i * j))) else none) = _
 by_cases q : cMul i j = true
 ·rw [if_pos q] at h ⊢; cases h; rfl
 ·rw [if_neg q] at h; cases h
theorem gFDiv_i {v : Int} (h : fdivR i j = .ok v) : gFDiv (.fz (.int i)) (.fz (.int j)) = some (.fz (.int v)) := gInt_ok h
theorem gMod_i {v : Int} (h : modR i j = .ok v) : gMod (.fz (.int i)) (.fz (.int j)) = some (.fz (.int v)) := gInt_ok h
theorem gPow_i {v : Int} (h : powR i j = .ok v) : gPow (.fz (.int i)) (.fz (.int j)) = some (.fz (.int v)) := gInt_ok h
theorem gAdd_i : gAdd (.fz (.int i)) (.fz (.int j)) = some (.fz (.int (i + j))) := rfl
theorem gSub_i : gSub (.fz (.int i)) (.fz (.int j)) = some (.fz (.int (i - j))) := rfl
theorem gAbs_i : gAbs [.fz (.int i)] = some (.fz (.int (if i < 0 then -i else i))) := rfl
theorem gLt_i : gLt (.fz (.int i)) (.fz (.int j)) = some (.fz (.bool (decide (i < j)))) := rfl
theorem gGt_i : gGt (.fz (.int i)) (.fz (.int j)) = some (.fz (.bool (decide (j < i)))) := rfl
theorem gLe_i : gLe (.fz (.int i)) (.fz (.int j)) = some (.fz (.bool (decide (i ≤ j)))) := rfl
theorem gMin_2 : gMin [.fz (.int i), .fz (.int j)] = some (.fz (.int (iMin i j))) := rfl
theorem gMax_2 : gMax [.fz (.int i), .fz (.int j)] = some (.fz (.int (iMax i j))) := rfl
theorem allFz_map : ∀ xs : List α, allFz (xs.map (sF c)) = some (xs.map c)
 | [] => rfl
 | x :: xs => by
  show (match allFz (xs.map (sF c)) with | some ds => some (c x :: ds) | none => none) = _
  rw [allFz_map xs]
  rfl
def SQL (t : SV) (c : α → PyData) (xs : List α) : Prop := t.seqL = some (xs.map c)
theorem sql_F : SQL (sL (sF c) xs) c xs := allFz_map xs
theorem len_sL : (sL en xs).len = some xs.length := by show some (xs.map en).length = _; rw [List.length_map]
theorem len_L : (SV.fz (dL c xs)).len = some xs.length := by show some (xs.map c).length = _; rw [List.length_map]
theorem len_RL : (SV.ro (dL c xs)).len = some xs.length := by show some (xs.map c).length = _; rw [List.length_map]
def slenR (x : Str) : R Int := if x.length ≤ sizeLine then .ok x.length else .fail
theorem gLen_l {n : Nat} (h : t.len = some n) : gLen [t] = some (.fz (.int n)) := by unfold gLen; dsimp only; rw [h]
theorem gLen_s {x : Str} {v : Int} (h : slenR x = .ok v) : gLen [.fz (.str x)] = some (.fz (.int v)) := by
 unfold slenR at h
 by_cases q : x.length ≤ sizeLine
 ·rw [if_pos q] at h
  cases h
  refine gLen_l ?_
  show (if x.length ≤ sizeLine then some x.length else none) = _
  rw [if_pos q]
 ·rw [if_neg q] at h; cases h
theorem boolsOf_map : ∀ xs : List Bool, boolsOf (xs.map .bool) = some xs
 | [] => rfl
 | x :: xs => by
  show (match boolsOf (xs.map .bool) with | some ns => some (x :: ns) | none => none) = _
  rw [boolsOf_map xs]
theorem gAll_l {xs : List Bool} (h : SQL t .bool xs) : gAll [t] = some (.fz (.bool (xs.all id))) := by
 unfold SQL at h
 unfold gAll gBs
 dsimp only
 rw [h]
 dsimp only
 rw [boolsOf_map]
theorem gTup_l (hs : SQL t c xs) : gTupF [t] = some (.fz (dT c xs)) := by
 unfold SQL at hs
 unfold gTupF
 dsimp only
 rw [hs]
 rfl
def scatR (x y : Str) : R Str := if x.length + y.length ≤ sizeLine then .ok (x ++ y) else .fail
theorem gAdd_s {x y z : Str} (h : scatR x y = .ok z) : gAdd (.fz (.str x)) (.fz (.str y)) = some (.fz (.str z)) := by
 unfold scatR at h
 show (if x.length + y.length ≤ sizeLine then some (SV.fz (.str (x ++ y))) else none) = _
 by_cases q : x.length + y.length ≤ sizeLine
 ·rw [if_pos q] at h ⊢; cases h; rfl
 ·rw [if_neg q] at h; cases h
def srepR (x : Str) (k : Int) : R Str := if 0 ≤ k ∧ k < 2 ^ 63 ∧ x.length * k.toNat ≤ sizeLine then .ok (Txt.mul x k) else .fail
theorem gMul_s {x y : Str} {k : Int} (h : srepR x k = .ok y) : gMul (.fz (.str x)) (.fz (.int k)) = some (.fz (.str y)) := by
 unfold srepR at h
 show (if 0 ≤ k ∧ k < 2 ^ 63 ∧ x.length * k.toNat ≤ sizeLine then some (SV.fz (.str (Txt.mul x k))) else none) = _
 by_cases q : 0 ≤ k ∧ k < 2 ^ 63 ∧ x.length * k.toNat ≤ sizeLine
 ·rw [if_pos q] at h ⊢; cases h; rfl
 ·rw [if_neg q] at h; cases h
def scutR (x : Str) (lo hi : Option Int) : R Str := if x.length ≤ sizeLine then .ok (L2.cutS x lo hi) else .fail
theorem gSl_s {x y : Str} {lo hi : Option Int} (h : scutR x lo hi = .ok y) : gSl (.fz (.str x)) lo hi = some (.fz (.str y)) := by
 unfold scutR at h
 show (if x.length ≤ sizeLine then some (SV.fz (.str (L2.cutS x lo hi))) else none) = _
 by_cases q : x.length ≤ sizeLine
 ·rw [if_pos q] at h ⊢; cases h; rfl
 ·rw [if_neg q] at h; cases h
def appR (xs : List α) (x : α) : R (List α) := if xs.length < sizeLine then .ok (xs ++ [x]) else .fail
theorem appR_ok (h : appR xs x = .ok ys) : xs.length < sizeLine ∧ ys = xs ++ [x] := by
 unfold appR at h
 by_cases q : xs.length < sizeLine
 ·rw [if_pos q] at h; cases h; exact ⟨q, rfl⟩
 ·rw [if_neg q] at h; cases h
def setR (xs : List α) (i : Int) (x : α) : R (List α) := match ixN xs.length i with
 | some k => .ok (xs.set k x)
 | none => .fail
theorem gSetIx_ok (h : setR xs i x = .ok ys) : gSetIx (sL en xs) (.fz (.int i)) (en x) = some (sL en ys) := by
 unfold setR at h
 show (match ixN (xs.map en).length i with | some k => some (SV.lst ((xs.map en).set k (en x))) | none => none) = _
 rw [List.length_map]
 cases e : ixN xs.length i with
 | none => rw [e] at h; cases h
 | some k =>
  rw [e] at h
  cases h
  dsimp only
  rw [← List.map_set]
  rfl
def VW (t : SV) (d : PyData) : Prop := t.view = some d
theorem vw_fz {d : PyData} : VW (.fz d) d := by unfold VW SV.view; exact frz_fz
theorem vw_ro {d : PyData} : VW (.ro d) d := rfl
theorem vw_L {e : β → SV} {cc : β → PyData} {xs : List β} (h : ∀ x, (e x).frz = some (cc x)) : VW (sL e xs) (dL cc xs) := by
 unfold VW
 show (sL e xs).frz = _
 exact frz_L h xs
structure Fai (c : α → PyData) [DecidableEq α] : Prop where
 eqv : ∀ x y, PyData.eqv (c x) (c y) = decide (x = y)
structure Sha (c : α → PyData) (n : Nat) : Prop where
 lay : ∀ x, (c x).canLay0 = true
 dep : ∀ x, (c x).depth ≤ n
theorem sha_ok {n : Nat} (h : Sha c n) (hn : n ≤ 64) (x : α) : SeqAt.shaped (c x) = true := by
 unfold SeqAt.shaped
 have := h.dep x
 rw [h.lay x, decide_eq_true (by omega)]
 rfl
theorem fai_i : Fai PyData.int := ⟨fun x y => by simp [PyData.eqv]; rfl⟩
theorem fai_s : Fai PyData.str := ⟨fun x y => by simp [PyData.eqv]; by_cases h : x = y <;> simp [h]⟩
theorem eqvAll_map [DecidableEq α] (h : Fai c) : ∀ xs ys : List α, PyData.eqvAll (xs.map c) (ys.map c) = decide (xs = ys)
 | [], [] => by simp [PyData.eqvAll]
 | [], y :: ys => by simp [PyData.eqvAll]
 | x :: xs, [] => by simp [PyData.eqvAll]
 | x :: xs, y :: ys => by
  rw [List.map_cons, List.map_cons]
  simp only [PyData.eqvAll]
  rw [h.eqv, eqvAll_map h xs ys]
  by_cases h1 : x = y <;> by_cases h2 : xs = ys <;> simp [h1, h2]
theorem fai_L [DecidableEq α] (h : Fai c) : Fai (dL c) := ⟨fun x y => by simp only [dL, PyData.eqv]; exact eqvAll_map h x y⟩
theorem sha_i : Sha PyData.int 0 := ⟨fun x => by simp [PyData.canLay0], fun x => by simp [PyData.depth]⟩
theorem sha_all {n : Nat} (h : Sha c n) : ∀ xs : List α, PyData.canLayAll0 (xs.map c) = true ∧ PyData.depthAll (xs.map c) ≤ n
 | [] => by simp [PyData.canLayAll0, PyData.depthAll]
 | x :: xs => by
  obtain ⟨h1, h2⟩ := sha_all h xs
  have h3 := h.dep x
  rw [List.map_cons]
  simp only [PyData.canLayAll0, PyData.depthAll, h.lay, h1, Bool.and_self, true_and]
  omega
theorem sha_L {n : Nat} (h : Sha c n) : Sha (dL c) (n + 1) := ⟨fun x => by simp only [dL, PyData.canLay0]; exact (sha_all h x).1, fun x => by simp only [dL, PyData.depth]; have := (sha_all h x).2; omega⟩
def shaR (d : PyData) : R Unit := if SeqAt.shaped d = true then .ok () else .fail
theorem shaR_ok {d : PyData} {q : Unit} (h : shaR d = .ok q) : SeqAt.shaped d = true := by
 unfold shaR at h
 by_cases z : SeqAt.shaped d = true
 ·exact z
 ·rw [if_neg z] at h; cases h
theorem gEq_v [DecidableEq α] (f : Fai c) (ht : VW t (c x)) (hu : VW u (c y)) (h1 : SeqAt.shaped (c x) = true) (h2 : SeqAt.shaped (c y) = true) : gEq t u = some (.fz (.bool (decide (x = y)))) := by
 unfold VW at ht hu
 unfold gEq
 rw [ht, hu]
 dsimp only
 rw [if_pos ⟨h1, h2⟩, f.eqv]
theorem gNe_v [DecidableEq α] (f : Fai c) (ht : VW t (c x)) (hu : VW u (c y)) (h1 : SeqAt.shaped (c x) = true) (h2 : SeqAt.shaped (c y) = true) : gNe t u = some (.fz (.bool (!decide (x = y)))) := by
 unfold VW at ht hu
 unfold gNe
 rw [ht, hu]
 dsimp only
 rw [if_pos ⟨h1, h2⟩, f.eqv]
def memB [DecidableEq α] (x : α) (xs : List α) : Bool := decide (x ∈ xs)
theorem inSeq_map [DecidableEq α] (f : Fai c) : inSeq (c x) (xs.map c) = decide (x ∈ xs) := by
 unfold inSeq
 induction xs with
 | nil => simp
 | cons y ys ih =>
  rw [List.map_cons, List.any_cons, ih, f.eqv]
  by_cases h : y = x
  ·simp [h]
  ·have : x ≠ y := fun z => h z.symm
   simp [h, this]
theorem gInB_view {d e : PyData} {es : List PyData} (ht : t.view = some d) (hu : u.view = some e) (he : e = .list es ∨ e = .tuple es) (h1 : SeqAt.shaped d = true) (h2 : SeqAt.shaped e = true) : gInB t u = some (inSeq d es) := by
 have key : (match t.view, u.view with
  | some d, some (.list es) => if SeqAt.shaped d = true ∧ SeqAt.shaped (.list es) = true then some (inSeq d es) else none
  | some d, some (.tuple es) => if SeqAt.shaped d = true ∧ SeqAt.shaped (.tuple es) = true then some (inSeq d es) else none
  | _, _ => none) = some (inSeq d es) := by
  rw [ht, hu]
  rcases he with rfl | rfl
  ·dsimp only; rw [if_pos ⟨h1, h2⟩]
  ·dsimp only; rw [if_pos ⟨h1, h2⟩]
 unfold gInB
 split
 ·rename_i x y
  exfalso
  have : e = .str y := by
   exact Option.some.inj (hu.symm.trans frz_fz)
  subst this
  rcases he with h | h <;> cases h
 ·exfalso
  unfold SV.view SV.frz at hu
  cases hu
 ·exfalso
  unfold SV.view SV.frz at hu
  cases hu
 ·exact key
theorem gNotIn_v [DecidableEq α] (f : Fai c) (ht : VW t (c x)) (hu : VW u (dL c xs) ∨ VW u (dT c xs)) (h1 : SeqAt.shaped (c x) = true) (h2 : SeqAt.shaped (dL c xs) = true) : gNotIn t u = some (.fz (.bool (!memB x xs))) := by
 unfold gNotIn
 have h3 : SeqAt.shaped (dT c xs) = true := h2
 rcases hu with hu | hu
 ·rw [gInB_view ht hu (.inl rfl) h1 h2, inSeq_map f]; rfl
 ·rw [gInB_view ht hu (.inr rfl) h1 h3, inSeq_map f]; rfl
theorem gIn_s {x y : Str} : gIn (.fz (.str x)) (.fz (.str y)) = some (.fz (.bool (inStr x y))) := rfl
theorem gNotIn_s {x y : Str} : gNotIn (.fz (.str x)) (.fz (.str y)) = some (.fz (.bool (!inStr x y))) := rfl
end
end U
set_option maxRecDepth 100000
set_option maxHeartbeats 4000000
namespace U
open PySem PySem.Spec Y
open L2 (atI ixN)
section
variable {S S1 S2 S3 S' : DS} {L L1 L2 L3 : List Rt} {e ea eb ec : EV} {es : List EV} {t u z w y : SV} {ts : List SV} {d : PyData} {fa fb fc fo fi fe : DS → Out EV} {fr : DS → Out (List EV)} {i j k : Nat} {r : Rt} {α β σ ρ : Type}
theorem q_chainp {g g' : SV → SV → Option SV} {b b2 : Bool} (a : EJ fa S ea S1 L1) (q : EJ fb S1 eb S2 L2) (s : STB ea L2) (ta : TR ea S2 t) (tb : TR eb S2 u) (h : g t u = some (.fz (.bool b)))
  (c : EJ fc S2 ec S2 L3) (s3 : STB eb L3) (tc : TR ec S2 w) (h3 : g' u w = some (.fz (.bool b2))) : EJ (eChain g g' fa fb fc) S (.sv (.fz (.bool (b && b2)))) S2 (L1 ++ (L2 ++ L3)) := by
 obtain ⟨T1, e1, n1⟩ := a
 obtain ⟨T2, e2, n2⟩ := q
 obtain ⟨T3, e3, n3⟩ := c
 unfold TR at ta tb tc
 cases b with
 | true =>
  refine ⟨T1 ++ (T2 ++ (T3 ++ [])), ?_, app_in n1 (app_in n2 (app_nil n3))⟩
  simp [eChain, Out.bindT, e1, e2, s T2 n2, ta, tb, h, e3, s3 T3 n3, tc, h3]
 | false =>
  refine ⟨T1 ++ (T2 ++ []), ?_, app_in n1 (app_in n2 nil_in)⟩
  simp [eChain, Out.bindT, e1, e2, s T2 n2, ta, tb, h]
theorem q_if0 {t1 : DS → Out Bool} {b : Bool} (h : TJ t1 S b S1 L1) (h1 : b = true → EJ fa S1 (.sv z) S2 []) (h0 : b = false → EJ fb S1 (.sv z) S2 []) : EJ (eIf t1 fa fb) S (.sv z) S2 (L1 ++ []) := q_if h h1 h0
theorem tj_cast {tt : DS → Out Bool} {b b2 : Bool} (hb : b = b2) (h : TJ tt S b S1 L) : TJ tt S b2 S1 L := hb ▸ h
theorem q_fnr {m : List SV → FOut} {A : List SV} {R : List Rt} (a : AJ fr S es S1 L) (ht : TRs es S1 ts) (hr : rootsOf es = R) (nd : R.Nodup) (h : m ts = .ret t A) (pb : PB S1 es A S2) : EJ (eFn m fr) S (.sv t) S2 (L ++ R) := by
 subst hr
 exact q_fn a ht nd h pb
theorem q_lstE {en : α → SV} {xs : List α} (a : AJ fr S es S1 L) (h : svEs es = some (xs.map en)) (hl : (xs.map en).length ≤ 1000) : EJ (eLst fr) S (.sv (sL en xs)) S1 L := q_lst a h hl
theorem q_tupE {ds : List PyData} (a : AJ fr S es S1 L) (h : fzEs es = some ds) (hl : ds.length ≤ 1000) (hd : PyData.tuple ds = d) : EJ (eTup fr) S (.sv (.fz d)) S1 L := by
 subst hd
 exact q_tup a h hl
theorem q_appR {en : α → SV} {xs zs : List α} {x : α} {ys : List SV} (o : EJ fo S (.pk r []) S1 L1) (h1 : S1.get r = some (.lst ys)) (a : EJ fa S1 (.sv (en x)) S2 L2) (h2 : S2.get r = some (sL en xs)) (h : appR xs x = .ok zs) : EJ (eApp fo fa) S (.sv (.fz .none)) (S2.put r (sL en zs)) (L1 ++ (L2 ++ [r])) := by
 obtain ⟨hl, rfl⟩ := appR_ok h
 exact q_app o h1 a h2 hl
end
end U
set_option maxRecDepth 100000
set_option maxHeartbeats 4000000
namespace U
open PySem PySem.Spec Y
open L2 (atI ixN)
section
variable {S S1 S2 S3 S' : DS} {L L1 L2 L3 : List Rt} {e ea eb ec : EV} {es : List EV} {t u z w y : SV} {ts : List SV} {d : PyData} {fa fb fc fo fi fe : DS → Out EV} {fr : DS → Out (List EV)} {i j k : Nat} {r : Rt} {κ ν : Type}
def lookM [DecidableEq κ] (x : κ) : List (κ × ν) → Option ν
 | [] => none
 | (k, v) :: r => if k = x then some v else lookM x r
def putM [DecidableEq κ] (x : κ) (v : ν) : List (κ × ν) → List (κ × ν)
 | [] => [(x, v)]
 | (k, w) :: r => if k = x then (k, v) :: r else (k, w) :: putM x v r
def getM [DecidableEq κ] (kvs : List (κ × ν)) (x : κ) : R ν := match lookM x kvs with
 | some v => .ok v
 | none => .fail
def setM [DecidableEq κ] (kvs : List (κ × ν)) (x : κ) (v : ν) : R (List (κ × ν)) := if kvs.length < sizeLine ∧ (kvs.map (·.1)).Nodup then .ok (putM x v kvs) else .fail
section
variable [DecidableEq κ] {b : Bool} {kk : κ → DKey} {c : κ → PyData} {en : ν → SV} {cv : ν → PyData} {kvs kvs' : List (κ × ν)} {x : κ} {v : ν}
end
end
end U
namespace U
open PySem PySem.Spec Y
end U
namespace U
open PySem PySem.Spec Y
end U
set_option maxRecDepth 100000
set_option maxHeartbeats 4000000
namespace U
open PySem PySem.Spec Y
def orX {β : Type} (a b : R β) : R β := match a with
 | .ok c => .ok c
 | _ => b
def tryX {β : Type} (tab : List (Str × Bool)) (r : R Str) (hd : Str → R β) (o : R β) : R β := match r with
 | .ok c => match tab.lookup c with
  | some true => hd c
  | _ => .fail
 | _ => o
def isX (tab : List (Str × Bool)) (c : Str) : R Bool := match tab.lookup c with
 | some b => .ok b
 | none => .fail
section
variable {β : Type} {a b : R β} {c : β} {tab : List (Str × Bool)} {r : R Str} {hd : Str → R β}
theorem orX_ok (h : orX a b = .ok c) : a = .ok c ∨ b = .ok c := by
 unfold orX at h
 split at h
 ·exact .inl h
 ·exact .inr h
theorem tryX_ok (h : tryX tab r hd b = .ok c) : (∃ x, r = .ok x ∧ tab.lookup x = some true ∧ hd x = .ok c) ∨ b = .ok c := by
 unfold tryX at h
 split at h
 ·rename_i x
  split at h
  ·rename_i e; exact .inl ⟨x, rfl, e, h⟩
  ·cases h
 ·exact .inr h
end
section
variable {S S1 S2 S3 : DS} {L : List Rt} {e : EV} {es : List EV} {ts : List SV} {fa : DS → Out EV} {fr : DS → Out (List EV)} {i n np : Nat} {c : Str} {d : Option PyData} {f g fb fh : DS → SOut} {P : SOut → Prop} {A : List SV} {tab : List (Str × Bool)} {t : SV}
theorem q_isE {b : Bool} (h1 : S.sl[i]? = some (some (.ex c none))) (h : isX tab c = .ok b) : EJ (eIsE i tab) S (.sv (.fz (.bool b))) S [] := by
 unfold isX at h
 split at h
 ·rename_i b' e
  cases h
  exact ⟨[], by simp [eIsE, h1, e], nil_in⟩
 ·cases h
def XtP (c : Str) (S : DS) (o : SOut) : Prop := o = .exc c none S
def XfP (c : Str) (A : List SV) (o : SOut) : Prop := ∃ S', o = .exc c none S' ∧ S'.ar = A
theorem runFn_exc (h : ts.length = np ∧ np ≤ n) (e : Sim (fb (initDS n ts)) (XfP c A)) : runFn n np fb ts = .exc c none A := by
 unfold runFn
 rw [if_pos h]
 obtain ⟨S', e1, e2⟩ := e.out
 rw [e1, ← e2]
theorem sim_exL (e : f S = .exc c d S1) (k : P (.exc c d S1)) : Sim (f S) P := by
 refine ⟨?_⟩
 rw [e]
 exact k
theorem mid_ex (k : P (.exc c d S1)) : MidP g P (.exc c d S1) := k
theorem exs_ret (a : fa S = .exc c d S1) : sRet fa S = .exc c d S1 := by
 unfold sRet sBind
 rw [a]
theorem ex_fn {m : List SV → FOut} {R : List Rt} (a : AJ fr S es S1 L) (ht : TRs es S1 ts) (hr : rootsOf es = R) (nd : R.Nodup) (h : m ts = .exc c d A) (pb : PB S1 es A S2) : eFn m fr S = .exc c d S2 := by
 subst hr
 obtain ⟨T1, e1, n1⟩ := a
 unfold TRs at ht
 unfold PB at pb
 simp [eFn, Out.bindT, e1, ht, nd, h, pb]
theorem exA_hd (a : fa S = .exc c d S1) : aCons fa fr S = .exc c d S1 := by simp [aCons, Out.bindT, a]
theorem exA_tl (a : EJ fa S e S1 L) (b : fr S1 = .exc c d S2) : aCons fa fr S = .exc c d S2 := by
 obtain ⟨T1, e1, n1⟩ := a
 simp [aCons, Out.bindT, e1, b]
theorem ex_fz (a : fa S = .exc c d S1) : eFz fa S = .exc c d S1 := by simp [eFz, Out.bindT, a]
def NE (P : SOut → Prop) : Prop := ∀ c d S, ¬ P (.exc c d S)
theorem ne_fin : NE (FinP t A) := fun c d S h => by
 rcases h with h | ⟨_, _, h, _⟩ <;> cases h
theorem ne_mid (h : NE P) : NE (MidP g P) := fun c d S k => h c d S k
theorem ne_jn {σ : Type} {St : σ → DS → Prop} {s : σ} : NE (JnP St s) := fun c d S h => by
 obtain ⟨_, h, _⟩ := h
 cases h
theorem ne_nx {σ : Type} {St : σ → DS → Prop} {s : σ} : NE (NxP St s) := fun c d S h => by
 obtain ⟨_, h, _⟩ := h
 rcases h with h | h <;> cases h
theorem ne_ctl {σ ρ : Type} {St : σ → DS → Prop} {Rt : ρ → SV → List SV → Prop} {x : Ctl ρ σ} : NE (CtlP St Rt x) := fun c d S h => by
 cases x with
 | nx s => obtain ⟨_, h, _⟩ := h; rcases h with h | h <;> cases h
 | rt r => obtain ⟨_, _, h, _⟩ := h; cases h
 | bk s => obtain ⟨_, h, _⟩ := h; cases h
def HdP (i : Nat) (P : SOut → Prop) (o : SOut) : Prop := match o with
 | .nx S => noEx (S.killE i) = true ∧ P (.nx (S.killE i))
 | .bk S => noEx (S.killE i) = true ∧ P (.bk (S.killE i))
 | .ct S => noEx (S.killE i) = true ∧ P (.ct (S.killE i))
 | .rt t A => P (.rt t A)
 | _ => False
theorem ne_hd : NE (HdP i P) := fun c d S h => h.elim
theorem hd_rt (k : P (.rt t A)) : HdP i P (.rt t A) := k
theorem sim_tryX (k : Sim (fb S) (XtP c S1)) (n : noEx S1 = true) (hi : i < S1.sl.length) (ht : tab.lookup c = some true) (e : (⟨S1.sl.set i (some (.ex c none)), S1.ar⟩ : DS) = S2) (h : Sim (fh S2) (HdP i P)) : Sim (sTry i tab fb fh S) P := by
 have k1 := k.out
 unfold XtP at k1
 have h1 := h.out
 refine ⟨?_⟩
 subst e
 unfold sTry
 rw [k1]
 dsimp only
 rw [if_pos ⟨n, hi⟩, ht]
 dsimp only
 unfold HdP at h1
 generalize fh _ = o at h1 ⊢
 cases o with
 | fail => exact h1.elim
 | exc c d S => exact h1.elim
 | nx S => dsimp only at h1 ⊢; rw [if_pos h1.1]; exact h1.2
 | bk S => dsimp only at h1 ⊢; rw [if_pos h1.1]; exact h1.2
 | ct S => dsimp only at h1 ⊢; rw [if_pos h1.1]; exact h1.2
 | rt t A => exact h1
theorem sim_tryO (ne : NE P) (k : Sim (fb S) P) : Sim (sTry i tab fb fh S) P := by
 have k1 := k.out
 refine ⟨?_⟩
 unfold sTry
 generalize fb S = o at k1 ⊢
 cases o with
 | exc c d S => exact (ne c d S k1).elim
 | fail => exact k1
 | nx S => exact k1
 | bk S => exact k1
 | ct S => exact k1
 | rt t A => exact k1
end
end U
set_option maxRecDepth 100000
set_option maxHeartbeats 4000000
namespace U
open PySem PySem.Spec Y
section
variable {S S1 S2 : DS} {L L1 L2 : List Rt} {fa fb : DS → Out EV} {κ ν : Type}
end
def bI (b : Bool) : Int := if b = true then 1 else 0
theorem gIntF_b {b : Bool} : gIntF [.fz (.bool b)] = some (.fz (.int (bI b))) := rfl
end U
set_option maxRecDepth 100000
set_option maxHeartbeats 4000000
namespace U
open PySem PySem.Spec Y
def op2B (g : SV → SV → Option SV) (t u : SV) : R Bool := match g t u with
 | some (.fz (.bool b)) => .ok b
 | _ => .fail
theorem op2B_ok {g : SV → SV → Option SV} {t u : SV} {b : Bool} (h : op2B g t u = .ok b) : g t u = some (.fz (.bool b)) := by
 unfold op2B at h
 split at h
 ·rename_i e; cases h; exact e
 ·cases h
def strA : PyData → R Str
 | .str x => .ok x
 | _ => .fail
def isiA (T : Ty) (t : SV) : R Bool := match t.ty with
 | some n => .ok (n.isa T)
 | none => .fail
section
variable {S S1 S2 : DS} {L : List Rt} {fa : DS → Out EV} {e : EV} {t : SV}
theorem q_asS {d : PyData} {i : Str} (a : EJ fa S (.sv (.fz d)) S1 L) (h : strA d = .ok i) : EJ fa S (.sv (.fz (.str i))) S1 L := by
 cases d <;> first | (cases h; done) | (cases h; exact a)
theorem q_isiA {T : Ty} {b : Bool} (a : EJ fa S e S1 L) (h1 : TR e S1 t) (h : isiA T t = .ok b) : EJ (eIsi T fa) S (.sv (.fz (.bool b))) S1 L := by
 obtain ⟨T1, e1, n1⟩ := a
 unfold TR at h1
 unfold isiA at h
 split at h
 ·rename_i n e2
  cases h
  exact ⟨T1 ++ [], by simp [eIsi, Out.bindT, e1, h1, e2], app_nil n1⟩
 ·cases h
end
section
variable {α : Type} {c : α → PyData} {xs ys zs : List α} {u : SV} {ts : List SV} {r : SV × SV}
end
end U
set_option maxRecDepth 100000
set_option maxHeartbeats 4000000
namespace U
open PySem PySem.Spec Y
open L2 (atI ixN)
section
variable {S S1 S2 : DS} {L L1 : List Rt} {fa : DS → Out EV} {fr : DS → Out (List EV)} {r : Rt} {κ ν : Type} {b : Bool} {kk : κ → DKey} {c : κ → PyData} {cv : ν → PyData} {en : ν → SV} {kvs : List (κ × ν)} {x : κ} {v : ν}
section
variable [DecidableEq κ]
end
end
section
variable {α : Type} {c : α → PyData} {xs ys : List α} {x : α} {t u : SV}
end
end U
namespace U
open PySem PySem.Spec Y
end U
namespace U
open PySem PySem.Spec Y
def strIR (i : Int) : R Str := if i.natAbs.log2 < 1920 then .ok (toString i) else .fail
theorem gStrF_i {i : Int} {x : Str} (h : strIR i = .ok x) : gStrF [.fz (.int i)] = some (.fz (.str x)) := by
 unfold strIR at h
 by_cases q : i.natAbs.log2 < 1920
 ·rw [if_pos q] at h
  cases h
  unfold gStrF
  dsimp only
  rw [if_pos q]
 ·rw [if_neg q] at h; cases h
end U
namespace U
open PySem PySem.Spec Y
section
variable {S S1 : DS} {L : List Rt} {fa : DS → Out EV} {d : PyData}
end
end U
namespace U
open PySem PySem.Spec Y
section
variable {S S1 S2 : DS} {L L1 L2 : List Rt} {f g : DS → SOut} {P : SOut → Prop} {t1 t2 : DS → Out Bool} {b : Bool}
end
end U
set_option maxRecDepth 100000
namespace U
open PySem PySem.Spec Y
def splitR (a b : Str) : R (List Str) := if (b.length == 0) = false ∧ a.length + 2 ≤ sizeLine then .ok (PySem.Txt.split a b) else .fail
theorem gSplit_ok {a b : Str} {ys : List Str} (h : splitR a b = .ok ys) : gSplit [.fz (.str a), .fz (.str b)] = some (sL (sF PyData.str) ys) := by
 unfold splitR at h
 split at h
 ·rename_i hh
  cases h
  show (if _ then some (SV.lst (fzs ((PySem.Txt.split a b).map .str))) else none) = _
  rw [if_pos hh]
  unfold sL fzs
  rw [List.map_map]
  rfl
 ·cases h
theorem strsJ_map : ∀ ys : List Str, strsJ (ys.map PyData.str) = some ys
 | [] => rfl
 | y :: ys => by
  rw [List.map_cons]
  unfold strsJ
  rw [strsJ_map ys]
def joinR (a : Str) (ys : List Str) : R Str := if (ys.map (·.length)).sum + ys.length * a.length ≤ 16777216 then .ok (PySem.Txt.join a ys) else .fail
theorem gJoin_ok {a x : Str} {ys : List Str} {u : SV} (q : SQL u PyData.str ys) (h : joinR a ys = .ok x) : gJoin [.fz (.str a), u] = some (.fz (.str x)) := by
 unfold joinR at h
 split at h
 ·rename_i hh
  cases h
  unfold gJoin
  dsimp only
  rw [show u.seqL = some (ys.map PyData.str) from q]
  dsimp only
  rw [strsJ_map]
  dsimp only
  rw [if_pos hh]
 ·cases h
def intTR (x : Str) : R Int := match PySem.intText? x with
 | some n => if x.length ≤ 640 then .ok n else .fail
 | none => .fail
theorem gIntF_s {x : Str} {n : Int} (h : intTR x = .ok n) : gIntF [.fz (.str x)] = some (.fz (.int n)) := by
 unfold intTR at h
 unfold gIntF
 dsimp only
 cases e : PySem.intText? x with
 | none => rw [e] at h; cases h
 | some m =>
  rw [e] at h
  dsimp only at h ⊢
  split at h
  ·rename_i hl
   cases h
   rw [if_pos hl]
  ·cases h
end U
set_option maxRecDepth 100000
set_option maxHeartbeats 4000000
namespace U
open PySem PySem.Spec Y
section
variable {fb fh g : DS → SOut} {S S1 S2 : DS} {P : SOut → Prop} {tab : List (Str × Bool)} {c : Str} {t : SV} {A : List SV}
def HdN (P : SOut → Prop) (o : SOut) : Prop := match o with
 | .nx S => noEx S = true ∧ P (.nx S)
 | .bk S => noEx S = true ∧ P (.bk S)
 | .ct S => noEx S = true ∧ P (.ct S)
 | .rt t A => P (.rt t A)
 | _ => False
theorem ne_hn : NE (HdN P) := fun c d S h => h.elim
end
end U
set_option maxRecDepth 100000
set_option maxHeartbeats 4000000
namespace U
open PySem PySem.Spec Y
section
variable {α : Type} {c : α → PyData} {rows : List (List α)} {S S1 : DS} {i : Nat} {f g : DS → SOut} {P : SOut → Prop}
theorem ex_callB {gg : List SV → Option SV} {fr : DS → Out (List EV)} {cl : Str} {d : Option PyData} {S1 : DS} (a : fr S = .exc cl d S1) : eCallB gg fr S = .exc cl d S1 := by simp [eCallB, Out.bindT, a]
end
end U
set_option maxRecDepth 100000
set_option maxHeartbeats 4000000
namespace U
open PySem PySem.Spec Y
open L2 (atI ixN)
section
variable {α β : Type} {S S1 S2 S' : DS} {L L1 L2 : List Rt} {e ea eb : EV} {es : List EV} {ts : List SV} {fa fb fo : DS → Out EV} {fr : DS → Out (List EV)} {i j : Nat} {r : Rt} {c f : Str} {d : α → PyData} {xs : List α} {t : SV}
def sB (c f : Str) (d : α → PyData) (xs : List α) : SV := .ob c f (xs.map d)
variable {kvs : List (Str × Str)} {k z : Str} {ng : Bool}
end
section
variable {S S1 S2 : DS} {i : Nat} {c x : Str} {y : PyData} {dd : Option PyData} {tab : List (Str × Bool)} {fb fh : DS → SOut} {P : SOut → Prop} {b : Bool}
end
end U
set_option maxRecDepth 100000
namespace U
open PySem PySem.Spec Y
section
variable {α : Type} {c f : Str} {d : α → PyData} {xs : List α} {fo : DS → Out EV} {S S1 : DS} {L1 : List Rt}
theorem ex_tup {fr : DS → Out (List EV)} {x : Str} {y : Option PyData} {S2 : DS} (a : fr S = .exc x y S2) : eTup fr S = .exc x y S2 := by simp [eTup, Out.bindT, a]
end
end U
set_option maxRecDepth 100000
namespace U
open PySem PySem.Spec Y
section
variable {α β : Type}
def xgoR (bx : α → R Str) (b : α → R β) : List α → R Str
 | [] => .fail
 | x :: xs => match bx x with
  | .ok c => .ok c
  | _ => match b x with
   | .ok _ => xgoR bx b xs
   | _ => .fail
def lcX (xs : List α) (bx : α → R Str) (b : α → R β) : R Str := if xs.length ≤ sizeLine then xgoR bx b xs else .fail
variable {vs : List Nat} {fi : DS → Out (List PyData)} {h : PyData → DS → Option DS} {fe : DS → Out EV} {en : α → PyData} {eo : β → SV} {body : α → R β} {bx : α → R Str} {xs : List α} {ys : List β} {S S1 S2 Sk : DS} {L L2 : List Rt} {d : Option PyData} {c : Str}
theorem lcx_ok {v : EV} {T : List Rt} (e : eLc vs fi h lYes fe S = .ok v S2 T) : eLcX vs fi h fe S = .ok v S2 T := by
 unfold eLc Out.bindT at e
 unfold eLcX Out.bindT
 cases q : fi S with
 | fail => rw [q] at e; cases e
 | exc c d S => rw [q] at e; cases e
 | ok ds S1 T1 =>
  rw [q] at e
  dsimp only at e ⊢
  cases g : lcGo vs h lYes fe ds (S1.kills vs) [] with
  | fail => rw [g] at e; cases e
  | exc c d S => rw [g] at e; cases e
  | ok ts S3 T3 => rw [g] at e; exact e
theorem q_lcX {v : EV} (a : EJ (eLc vs fi h lYes fe) S v S2 L) : EJ (eLcX vs fi h fe) S v S2 L := by
 obtain ⟨T, e, n⟩ := a
 exact ⟨T, lcx_ok e, n⟩
theorem lcx_go (step : ∀ x y, body x = .ok y → ∃ Sx Sy, h (en x) Sk = some Sx ∧ EJ fe Sx (.sv (eo y)) Sy L2 ∧ Sy.kills vs = Sk)
  (stepX : ∀ x c, bx x = .ok c → ∃ Sx Sy, h (en x) Sk = some Sx ∧ fe Sx = .exc c d Sy ∧ Sy.kills vs = Sk) :
  ∀ (xs : List α) (acc : List SV), xgoR bx body xs = .ok c → acc.length + xs.length ≤ sizeLine → ∃ Sy, lcGo vs h lYes fe (xs.map en) Sk acc = .exc c d Sy ∧ Sy.kills vs = Sk
 | [], acc, e, hl => by cases e
 | x :: xs, acc, e, hl => by
  unfold xgoR at e
  rw [List.length_cons] at hl
  rw [List.map_cons]
  unfold lcGo
  have go : (match body x with | .ok _ => xgoR bx body xs | _ => .fail) = .ok c → ∃ Sy, (match h (en x) Sk with
    | none => .fail
    | some S1 => (lYes S1).bindT fun b S2 _ => if b = true then (fe S2).bindT fun e S3 _ => match e with
      | .sv t => if acc.length < sizeLine then lcGo vs h lYes fe (xs.map en) (S3.kills vs) (acc ++ [t]) else .fail
      | .pk _ _ => .fail
     else lcGo vs h lYes fe (xs.map en) (S2.kills vs) acc : Out (List SV)) = .exc c d Sy ∧ Sy.kills vs = Sk := fun e => by
   cases q2 : body x with
   | fail => rw [q2] at e; cases e
   | exc c1 d1 => rw [q2] at e; cases e
   | ok y =>
    rw [q2] at e
    obtain ⟨Sx, Sy, a1, ⟨T, a2, _⟩, a3⟩ := step x y q2
    obtain ⟨Sz, b1, b2⟩ := lcx_go step stepX xs (acc ++ [eo y]) e (by simp; omega)
    refine ⟨Sz, ?_, b2⟩
    rw [a1]
    dsimp only [lYes, Out.bindT]
    rw [if_pos rfl, a2]
    dsimp only
    rw [if_pos (by omega), a3, b1]
  cases q : bx x with
  | ok c1 =>
   rw [q] at e
   cases e
   obtain ⟨Sx, Sy, a1, a2, a3⟩ := stepX x c q
   refine ⟨Sy, ?_, a3⟩
   rw [a1]
   dsimp only [lYes, Out.bindT]
   rw [if_pos rfl, a2]
  | exc c1 d1 => exact go (by rw [q] at e; exact e)
  | fail => exact go (by rw [q] at e; exact e)
theorem ex_lcX (i : IJ fi S (xs.map en) S1 L) (hr : lcX xs bx body = .ok c) (hk : S1.kills vs = Sk)
  (step : ∀ x y, body x = .ok y → ∃ Sx Sy, h (en x) Sk = some Sx ∧ EJ fe Sx (.sv (eo y)) Sy L2 ∧ Sy.kills vs = Sk)
  (stepX : ∀ x c, bx x = .ok c → ∃ Sx Sy, h (en x) Sk = some Sx ∧ fe Sx = .exc c d Sy ∧ Sy.kills vs = Sk) (hq : Sk.rest S1 vs = S2) : eLcX vs fi h fe S = .exc c d S2 := by
 obtain ⟨T, e, n⟩ := i
 unfold lcX at hr
 by_cases z : xs.length ≤ sizeLine
 ·rw [if_pos z] at hr
  obtain ⟨Sy, q1, q2⟩ := lcx_go step stepX xs [] hr (by simpa using z)
  unfold eLcX Out.bindT
  rw [e]
  dsimp only
  rw [hk, q1]
  dsimp only
  rw [q2, hq]
 ·rw [if_neg z] at hr; cases hr
end
end U
set_option maxRecDepth 100000
set_option maxHeartbeats 4000000
namespace D
open PySem PySem.Spec L2 Y
def f1__law_bag : DS → SOut := (sAsg (eOp2 gMod (eOp2 gAdd (eOp2 gAdd (eOp2 gMul (eVar 3) (eC (.int 48271))) (eOp2 gMod (eIx (eVar 0) (eVar 4)) (eC (.int 2147483647)))) (eVar 4)) (eC (.int 2147483629))) (gSet 3))
def b__law_bag : DS → SOut := (sSeq (sAsg (eC (.int 0)) (gSet 2)) (sSeq (sIf (tv (eOp2 gLt (eVar 1) (eCallB gLen (aCons (eVar 0) aNil)))) (sAsg (eCallB gAbs (aCons (eIx (eVar 0) (eVar 1)) aNil)) (gSet 2)) sNil) (sSeq (sAsg (eOp2 gAdd (eOp2 gMul (eC (.int 7919)) (eVar 1)) (eC (.int 17))) (gSet 3)) (sSeq (sForI (iRng1 (aCons (eCallB gMin (aCons (eCallB gLen (aCons (eVar 0) aNil)) (aCons (eC (.int 60)) aNil))) aNil)) (gSet 4) f1__law_bag) (sSeq (sIf (tv (eOp2 gLt (eVar 2) (eOp2 gPow (eC (.int 10)) (eC (.int 18))))) (sAsg (eC (.int 0)) (gSet 2)) sNil) (sRet (eLst (aCons (eFz (eVar 2)) (aCons (eFz (eVar 3)) aNil)))))))))
def m__law_bag : List SV → FOut := runFn 5 2 b__law_bag
def t1__law_take : DS → Out Bool := (tv (eOp2 gLt (eVar 4) (eVar 1)))
def f2__law_take : DS → SOut := (sSeq (sAsg (eOp2 gMod (eOp2 gAdd (eOp2 gMul (eIx (eVar 0) (eC (.int 1))) (eC (.int 48271))) (eC (.int 7919))) (eC (.int 2147483647))) (gSt (eVar 0) (eC (.int 1)))) (sSeq (sAsg (eOp2 gAdd (eOp2 gMul (eVar 3) (eC (.int 1073741789))) (eOp2 gMod (eOp2 gMul (eOp2 gFDiv (eIx (eVar 0) (eC (.int 1))) (eC (.int 8))) (eC (.int 69621))) (eC (.int 1073741789)))) (gSet 3)) (sAsg (eOp2 gMul (eVar 4) (eC (.int 1073741789))) (gSet 4))))
def b__law_take : DS → SOut := (sSeq (sIf (tv (eOp2 gGt (eIx (eVar 0) (eC (.int 0))) (eC (.int 0)))) (sSeq (sAsg (eOp2 gMod (eIx (eVar 0) (eC (.int 0))) (eVar 1)) (gSet 2)) (sSeq (sAsg (eOp2 gFDiv (eIx (eVar 0) (eC (.int 0))) (eVar 1)) (gSt (eVar 0) (eC (.int 0)))) (sRet (eMv (eVar 2))))) sNil) (sSeq (sAsg (eC (.int 0)) (gSet 3)) (sSeq (sAsg (eC (.int 1)) (gSet 4)) (sSeq (sWhile t1__law_take f2__law_take 1000000) (sRet (eOp2 gMod (eVar 3) (eVar 1)))))))
def m__law_take : List SV → FOut := runFn 5 2 b__law_take
def e1_is_written : DS → Out EV := (eOp2 gIn (eVar 4) (eVar 1))
def b_is_written : DS → SOut := (sRet (eAnd (eChain gLe gLe (eVar 2) (eCallB gLen (aCons (eVar 0) aNil)) (eVar 3)) (eView 0 (eCallB gAll (aCons (eLc [4] (iSeq (eVar 0)) (cName 4) lYes e1_is_written) aNil)))))
def m_is_written : List SV → FOut := runFn 5 4 b_is_written
def b_is_written_word : DS → SOut := (sRet (eOr (eOp2 gEq (eVar 0) (eC (.str "-"))) (eFn m_is_written (aCons (eVar 0) (aCons (eC (.str "abc")) (aCons (eC (.int 1)) (aCons (eC (.int 2000)) aNil)))))))
def m_is_written_word : List SV → FOut := runFn 1 1 b_is_written_word
def b_word_in : DS → SOut := (sSeq (sIf (lNot (tv (eFn m_is_written_word (aCons (eVar 0) aNil)))) (fun S => .exc "NoText" none S) sNil) (sRet (eFz (eIf (tv (eOp2 gEq (eVar 0) (eC (.str "-")))) (eC (.str "")) (eFz (eVar 0))))))
def m_word_in : List SV → FOut := runFn 1 1 b_word_in
def e1_places_in : DS → Out EV := (eCallB gIntF (aCons (eVar 1) aNil))
def b_places_in : DS → SOut := (sRet (eCallB gTupF (aCons (eLc [1] (iSeq (eVar 0)) (cName 1) lYes e1_places_in) aNil)))
def m_places_in : List SV → FOut := runFn 2 1 b_places_in
def e1_are_written_rows : DS → Out EV := (eFn m_is_written (aCons (eVar 1) (aCons (eC (.str "012345678")) (aCons (eCallB gLen (aCons (eIx (eVar 0) (eC (.int 0))) aNil)) (aCons (eCallB gLen (aCons (eIx (eVar 0) (eC (.int 0))) aNil)) aNil)))))
def b_are_written_rows : DS → SOut := (sSeq (sIf (lOr (lNot (tv (eChain gLe gLe (eC (.int 1)) (eCallB gLen (aCons (eVar 0) aNil)) (eC (.int 9))))) (tv (eOp2 gNotIn (eCallB gLen (aCons (eIx (eVar 0) (eC (.int 0))) aNil)) (eRo (.tuple [(.int 2), (.int 3)]))))) (sRet (eC (.bool false))) sNil) (sRet (eView 0 (eCallB gAll (aCons (eLc [1] (iSeq (eVar 0)) (cName 1) lYes e1_are_written_rows) aNil)))))
def m_are_written_rows : List SV → FOut := runFn 2 1 b_are_written_rows
def e1_rows_in : DS → Out EV := (eFn m_places_in (aCons (eVar 3) aNil))
def b_rows_in : DS → SOut := (sSeq (sAsg (eMet .str gSplit (eVar 0) (aCons (eVar 1) aNil)) (gSet 2)) (sSeq (sIf (lNot (tv (eFn m_are_written_rows (aCons (eVar 2) aNil)))) (fun S => .exc "NoText" none S) sNil) (sRet (eCallB gTupF (aCons (eLc [3] (iSeq (eVar 2)) (cName 3) lYes e1_rows_in) aNil)))))
def m_rows_in : List SV → FOut := runFn 4 2 b_rows_in
def b_is_written_number : DS → SOut := (sSeq (sIf (lNot (tv (eFn m_is_written (aCons (eVar 0) (aCons (eC (.str "0123456789")) (aCons (eC (.int 1)) (aCons (eC (.int 60)) aNil))))))) (sRet (eC (.bool false))) sNil) (sRet (eOr (eOp2 gNe (eIx (eVar 0) (eC (.int 0))) (eC (.str "0"))) (eOp2 gEq (eCallB gLen (aCons (eVar 0) aNil)) (eC (.int 1))))))
def m_is_written_number : List SV → FOut := runFn 1 1 b_is_written_number
def b_number_in : DS → SOut := (sSeq (sIf (lNot (tv (eFn m_is_written_number (aCons (eVar 0) aNil)))) (fun S => .exc "NoText" none S) sNil) (sRet (eCallB gIntF (aCons (eVar 0) aNil))))
def m_number_in : List SV → FOut := runFn 1 1 b_number_in
def b_numbers_in : DS → SOut := (sSeq (sIf (lNot (tv (eFn m_is_written (aCons (eVar 0) (aCons (eC (.str "012345678")) (aCons (eC (.int 1)) (aCons (eC (.int 5000)) aNil))))))) (fun S => .exc "NoText" none S) sNil) (sRet (eFn m_places_in (aCons (eVar 0) aNil))))
def m_numbers_in : List SV → FOut := runFn 1 1 b_numbers_in
def e1_pairs_in : DS → Out EV := (eFn m_places_in (aCons (eVar 2) aNil))
def e2_pairs_in : DS → Out EV := (eFn m_is_written (aCons (eVar 2) (aCons (eC (.str "012345678")) (aCons (eC (.int 2)) (aCons (eC (.int 2)) aNil)))))
def b_pairs_in : DS → SOut := (sSeq (sAsg (eMet .str gSplit (eVar 0) (aCons (eC (.str ",")) aNil)) (gSet 1)) (sSeq (sIf (lNot (tv (eView 1 (eCallB gAll (aCons (eLc [2] (iSeq (eVar 1)) (cName 2) lYes e2_pairs_in) aNil))))) (fun S => .exc "NoText" none S) sNil) (sRet (eCallB gTupF (aCons (eLc [2] (iSeq (eVar 1)) (cName 2) lYes e1_pairs_in) aNil)))))
def m_pairs_in : List SV → FOut := runFn 3 1 b_pairs_in
def e1_words_in : DS → Out EV := (eFn m_word_in (aCons (eVar 1) aNil))
def b_words_in : DS → SOut := (sRet (eCallB gTupF (aCons (eLcX [1] (iSeq (eMet .str gSplit (eVar 0) (aCons (eC (.str ",")) aNil))) (cName 1) e1_words_in) aNil)))
def m_words_in : List SV → FOut := runFn 2 1 b_words_in
def b_paper_by : DS → SOut := (sSeq (sIf (lAnd (tv (eOp2 gEq (eIx (eVar 0) (eC (.int 0))) (eC (.str "call")))) (tv (eOp2 gEq (eCallB gLen (aCons (eVar 0) aNil)) (eC (.int 4))))) (sRet (eTup (aCons (eC (.str "call")) (aCons (eFz (eFn m_rows_in (aCons (eIx (eVar 0) (eC (.int 1))) (aCons (eC (.str ",")) aNil)))) (aCons (eFz (eFn m_word_in (aCons (eIx (eVar 0) (eC (.int 2))) aNil))) (aCons (eFz (eFn m_number_in (aCons (eIx (eVar 0) (eC (.int 3))) aNil))) aNil)))))) sNil) (sSeq (sIf (lAnd (tv (eOp2 gEq (eIx (eVar 0) (eC (.int 0))) (eC (.str "beat")))) (tv (eOp2 gEq (eCallB gLen (aCons (eVar 0) aNil)) (eC (.int 3))))) (sRet (eTup (aCons (eC (.str "beat")) (aCons (eFz (eFn m_number_in (aCons (eIx (eVar 0) (eC (.int 1))) aNil))) (aCons (eFz (eFn m_numbers_in (aCons (eIx (eVar 0) (eC (.int 2))) aNil))) aNil))))) sNil) (sSeq (sIf (lAnd (tv (eOp2 gEq (eIx (eVar 0) (eC (.int 0))) (eC (.str "never")))) (tv (eOp2 gEq (eCallB gLen (aCons (eVar 0) aNil)) (eC (.int 2))))) (sRet (eTup (aCons (eC (.str "never")) (aCons (eFz (eFn m_pairs_in (aCons (eIx (eVar 0) (eC (.int 1))) aNil))) aNil)))) sNil) (sSeq (sIf (lAnd (tv (eOp2 gEq (eIx (eVar 0) (eC (.int 0))) (eC (.str "stable")))) (tv (eOp2 gEq (eCallB gLen (aCons (eVar 0) aNil)) (eC (.int 3))))) (sRet (eTup (aCons (eC (.str "stable")) (aCons (eFz (eFn m_pairs_in (aCons (eIx (eVar 0) (eC (.int 1))) aNil))) (aCons (eFz (eFn m_words_in (aCons (eIx (eVar 0) (eC (.int 2))) aNil))) aNil))))) sNil) (fun S => .exc "NoText" none S)))))
def m_paper_by : List SV → FOut := runFn 1 1 b_paper_by
def b_read_paper : DS → SOut := (sSeq (sIf (lNot (tv (eIsi .str (eVar 0)))) (fun S => .exc "NoText" none S) sNil) (sRet (eFn m_paper_by (aCons (eMet .str gSplit (eVar 0) (aCons (eC (.str " ")) aNil)) aNil))))
def m_read_paper : List SV → FOut := runFn 1 1 b_read_paper
def f1__law_figures : DS → SOut := (sAsg (eOp2 gAdd (eVar 3) (eIx (eC (.str "0123456789")) (eFn m__law_take (aCons (eVar 0) (aCons (eVar 2) aNil))))) (gSet 3))
def b__law_figures : DS → SOut := (sSeq (sAsg (eC (.str "")) (gSet 3)) (sSeq (sForI (iRng1 (aCons (eVar 1) aNil)) (gSet 4) f1__law_figures) (sRet (eMv (eVar 3)))))
def m__law_figures : List SV → FOut := runFn 5 3 b__law_figures
def f1__law_said : DS → SOut := (sAsg (eOp2 gAdd (eVar 1) (eIx (eC (.str "abc")) (eFn m__law_take (aCons (eVar 0) (aCons (eC (.int 3)) aNil))))) (gSet 1))
def b__law_said : DS → SOut := (sSeq (sAsg (eC (.str "")) (gSet 1)) (sSeq (sForI (iRng1 (aCons (eFn m__law_take (aCons (eVar 0) (aCons (eC (.int 6)) aNil))) aNil)) (gSet 2) f1__law_said) (sSeq (sIf (tv (eOp2 gEq (eFn m__law_take (aCons (eVar 0) (aCons (eC (.int 32)) aNil))) (eC (.int 3)))) (sAsg (eOp2 gMul (eC (.str "b")) (eOp2 gAdd (eC (.int 1999)) (eFn m__law_take (aCons (eVar 0) (aCons (eC (.int 3)) aNil))))) (gSet 1)) sNil) (sRet (eFz (eIf (tv (eOp2 gNe (eVar 1) (eC (.str "")))) (eFz (eVar 1)) (eC (.str "-"))))))))
def m__law_said : List SV → FOut := runFn 3 1 b__law_said
def b__law_number_2 : DS → SOut := (sRet (eCallB gStrF (aCons (eIx (eLst (aCons (eFn m__law_take (aCons (eVar 0) (aCons (eC (.int 10)) aNil))) (aCons (eFn m__law_take (aCons (eVar 0) (aCons (eOp2 gPow (eC (.int 10)) (eC (.int 60))) aNil))) (aCons (eC (.int 0)) (aCons (eFn m__law_take (aCons (eVar 0) (aCons (eC (.int 9)) aNil))) aNil))))) (eFn m__law_take (aCons (eVar 0) (aCons (eC (.int 4)) aNil)))) aNil)))
def m__law_number_2 : List SV → FOut := runFn 1 1 b__law_number_2
def e1__law_text_2 : DS → Out EV := (eFn m__law_said (aCons (eVar 0) aNil))
def e2__law_text_2 : DS → Out EV := (eFn m__law_figures (aCons (eVar 0) (aCons (eC (.int 2)) (aCons (eC (.int 9)) aNil))))
def e3__law_text_2 : DS → Out EV := (eFn m__law_figures (aCons (eVar 0) (aCons (eVar 3) (aCons (eC (.int 9)) aNil))))
def b__law_text_2 : DS → SOut := (sSeq (sAsg (eFn m__law_take (aCons (eVar 0) (aCons (eC (.int 4)) aNil))) (gSet 1)) (sSeq (sAsg (eOp2 gAdd (eOp2 gAdd (eC (.int 1)) (eFn m__law_take (aCons (eVar 0) (aCons (eC (.int 9)) aNil)))) (eCallB gIntF (aCons (eOp2 gEq (eFn m__law_take (aCons (eVar 0) (aCons (eC (.int 8)) aNil))) (eC (.int 1))) aNil))) (gSet 2)) (sSeq (sIf (tv (eOp2 gEq (eVar 1) (eC (.int 0)))) (sSeq (sAsg (eOp2 gAdd (eC (.int 2)) (eFn m__law_take (aCons (eVar 0) (aCons (eC (.int 2)) aNil)))) (gSet 3)) (sSeq (sAsg (eLc [5] (iRng1 (aCons (eVar 2) aNil)) (cName 5) lYes e3__law_text_2) (gSet 4)) (sSeq (sIf (tv (eOp2 gEq (eFn m__law_take (aCons (eVar 0) (aCons (eC (.int 8)) aNil))) (eC (.int 1)))) (sExpr (eApp (eVar 4) (eFn m__law_figures (aCons (eVar 0) (aCons (eOp2 gSub (eC (.int 5)) (eVar 3)) (aCons (eC (.int 9)) aNil)))))) sNil) (sRet (eOp2 gAdd (eOp2 gAdd (eOp2 gAdd (eOp2 gAdd (eOp2 gAdd (eC (.str "call ")) (eMet .str gJoin (eC (.str ",")) (aCons (eVar 4) aNil))) (eC (.str " "))) (eFn m__law_said (aCons (eVar 0) aNil))) (eC (.str " "))) (eFn m__law_number_2 (aCons (eVar 0) aNil))))))) sNil) (sSeq (sIf (tv (eOp2 gEq (eVar 1) (eC (.int 1)))) (sRet (eOp2 gAdd (eOp2 gAdd (eOp2 gAdd (eC (.str "beat ")) (eFn m__law_number_2 (aCons (eVar 0) aNil))) (eC (.str " "))) (eFn m__law_figures (aCons (eVar 0) (aCons (eVar 2) (aCons (eC (.int 9)) aNil)))))) sNil) (sSeq (sAsg (eMet .str gJoin (eC (.str ",")) (aCons (eLc [5] (iRng1 (aCons (eVar 2) aNil)) (cName 5) lYes e2__law_text_2) aNil)) (gSet 6)) (sSeq (sIf (tv (eOp2 gEq (eVar 1) (eC (.int 2)))) (sRet (eOp2 gAdd (eC (.str "never ")) (eVar 6))) sNil) (sSeq (sAsg (eOp2 gAdd (eVar 2) (eFn m__law_take (aCons (eVar 0) (aCons (eC (.int 2)) aNil)))) (gSet 7)) (sRet (eOp2 gAdd (eOp2 gAdd (eOp2 gAdd (eC (.str "stable ")) (eVar 6)) (eC (.str " "))) (eMet .str gJoin (eC (.str ",")) (aCons (eLc [5] (iRng1 (aCons (eVar 7) aNil)) (cName 5) lYes e1__law_text_2) aNil)))))))))))
def m__law_text_2 : List SV → FOut := runFn 8 1 b__law_text_2
def b__law_changed_4 : DS → SOut := (sSeq (sAsg (eFn m__law_take (aCons (eVar 0) (aCons (eCallB gLen (aCons (eVar 1) aNil)) aNil))) (gSet 2)) (sSeq (sAsg (eFz (eIx (eC (.str " ,-0189abcdx\n; +_")) (eFn m__law_take (aCons (eVar 0) (aCons (eC (.int 17)) aNil))))) (gSet 3)) (sSeq (sAsg (eFn m__law_take (aCons (eVar 0) (aCons (eC (.int 4)) aNil))) (gSet 4)) (sSeq (sIf (tv (eOp2 gEq (eVar 4) (eC (.int 0)))) (sRet (eFz (eOp2 gAdd (eSl (eVar 1) pNo (pAt (eVar 2))) (eSl (eVar 1) (pAt (eOp2 gAdd (eVar 2) (eC (.int 1)))) pNo)))) sNil) (sSeq (sIf (tv (eOp2 gEq (eVar 4) (eC (.int 1)))) (sRet (eFz (eOp2 gAdd (eOp2 gAdd (eSl (eVar 1) pNo (pAt (eVar 2))) (eVar 3)) (eSl (eVar 1) (pAt (eOp2 gAdd (eVar 2) (eC (.int 1)))) pNo)))) sNil) (sRet (eFz (eOp2 gAdd (eOp2 gAdd (eSl (eVar 1) pNo (pAt (eVar 2))) (eVar 3)) (eSl (eVar 1) (pAt (eVar 2)) pNo)))))))))
def m__law_changed_4 : List SV → FOut := runFn 5 2 b__law_changed_4
def e1__law_is_of : DS → Out EV := (eFz (eVar 4))
def p2__law_is_of : DS → Out Bool := (tv (eOp2 gNotIn (eVar 4) (eVar 1)))
def b__law_is_of : DS → SOut := (sRet (eAnd (eChain gLe gLe (eVar 2) (eCallB gLen (aCons (eVar 0) aNil)) (eVar 3)) (eOp2 gEq (eLc [4] (iSeq (eVar 0)) (cName 4) p2__law_is_of e1__law_is_of) (eLst aNil))))
def m__law_is_of : List SV → FOut := runFn 5 4 b__law_is_of
def b__law_is_number : DS → SOut := (sRet (eAnd (eFn m__law_is_of (aCons (eVar 0) (aCons (eC (.str "0123456789")) (aCons (eC (.int 1)) (aCons (eC (.int 60)) aNil))))) (eOr (eOp2 gNe (eIx (eVar 0) (eC (.int 0))) (eC (.str "0"))) (eOp2 gEq (eVar 0) (eC (.str "0"))))))
def m__law_is_number : List SV → FOut := runFn 1 1 b__law_is_number
def b__law_is_word_2 : DS → SOut := (sRet (eOr (eOp2 gEq (eVar 0) (eC (.str "-"))) (eFn m__law_is_of (aCons (eVar 0) (aCons (eC (.str "abc")) (aCons (eC (.int 1)) (aCons (eC (.int 2000)) aNil)))))))
def m__law_is_word_2 : List SV → FOut := runFn 1 1 b__law_is_word_2
def e1__law_tuples : DS → Out EV := (eCallB gIntF (aCons (eVar 1) aNil))
def e2__law_tuples : DS → Out EV := (eCallB gTupF (aCons (eLc [1] (iSeq (eVar 2)) (cName 1) lYes e1__law_tuples) aNil))
def b__law_tuples : DS → SOut := (sRet (eCallB gTupF (aCons (eLc [2] (iSeq (eVar 0)) (cName 2) lYes e2__law_tuples) aNil)))
def m__law_tuples : List SV → FOut := runFn 3 1 b__law_tuples
def e1__law_words : DS → Out EV := (eFz (eIx (eLst (aCons (eC (.str "")) (aCons (eFz (eVar 1)) aNil))) (eCallB gIntF (aCons (eOp2 gNe (eVar 1) (eC (.str "-"))) aNil))))
def b__law_words : DS → SOut := (sRet (eCallB gTupF (aCons (eLc [1] (iSeq (eVar 0)) (cName 1) lYes e1__law_words) aNil)))
def m__law_words : List SV → FOut := runFn 2 1 b__law_words
def e1__law_due_11 : DS → Out EV := (eFz (eVar 3))
def p2__law_due_11 : DS → Out Bool := (lNot (tv (eFn m__law_is_word_2 (aCons (eVar 3) aNil))))
def e3__law_due_11 : DS → Out EV := (eFz (eVar 6))
def p4__law_due_11 : DS → Out Bool := (lNot (tv (eFn m__law_is_of (aCons (eVar 6) (aCons (eC (.str "012345678")) (aCons (eC (.int 2)) (aCons (eC (.int 2)) aNil)))))))
def e5__law_due_11 : DS → Out EV := (eFz (eVar 5))
def p6__law_due_11 : DS → Out Bool := (lNot (tv (eFn m__law_is_of (aCons (eVar 5) (aCons (eC (.str "012345678")) (aCons (eVar 4) (aCons (eVar 4) aNil)))))))
def e7__law_due_11 : DS → Out EV := (eMet .str gSplit (eVar 3) (aCons (eC (.str ",")) aNil))
def b__law_due_11 : DS → SOut := (sSeq (sAsg (eMet .str gSplit (eVar 0) (aCons (eC (.str " ")) aNil)) (gSet 1)) (sSeq (sAsg (eFz (eLc [3] (iSeq (eVar 1)) (cName 3) lYes e7__law_due_11)) (gSet 2)) (sSeq (sIf (lAnd (tv (eOp2 gEq (eIx (eVar 1) (eC (.int 0))) (eC (.str "call")))) (tv (eOp2 gEq (eCallB gLen (aCons (eVar 1) aNil)) (eC (.int 4))))) (sSeq (sAsg (eCallB gLen (aCons (eIx (eIx (eVar 2) (eC (.int 1))) (eC (.int 0))) aNil)) (gSet 4)) (sSeq (sIf (lOr (tv (eOp2 gNotIn (eVar 4) (eTup (aCons (eC (.int 2)) (aCons (eC (.int 3)) aNil))))) (lOr (tv (eOp2 gGt (eCallB gLen (aCons (eIx (eVar 2) (eC (.int 1))) aNil)) (eC (.int 9)))) (lOr (lNot (tv (eFn m__law_is_word_2 (aCons (eIx (eVar 1) (eC (.int 2))) aNil)))) (lNot (tv (eFn m__law_is_number (aCons (eIx (eVar 1) (eC (.int 3))) aNil))))))) (sRet (eC .none)) sNil) (sSeq (sIf (tv (eOp2 gNe (eLc [5] (iSeq (eIx (eVar 2) (eC (.int 1)))) (cName 5) p6__law_due_11 e5__law_due_11) (eLst aNil))) (sRet (eC .none)) sNil) (sRet (eTup (aCons (eC (.str "call")) (aCons (eFz (eFn m__law_tuples (aCons (eIx (eVar 2) (eC (.int 1))) aNil))) (aCons (eFz (eIx (eFn m__law_words (aCons (eLst (aCons (eFz (eIx (eVar 1) (eC (.int 2)))) aNil)) aNil)) (eC (.int 0)))) (aCons (eFz (eCallB gIntF (aCons (eIx (eVar 1) (eC (.int 3))) aNil))) aNil))))))))) sNil) (sSeq (sIf (lAnd (tv (eOp2 gEq (eIx (eVar 1) (eC (.int 0))) (eC (.str "beat")))) (tv (eOp2 gEq (eCallB gLen (aCons (eVar 1) aNil)) (eC (.int 3))))) (sSeq (sIf (lOr (lNot (tv (eFn m__law_is_number (aCons (eIx (eVar 1) (eC (.int 1))) aNil)))) (lNot (tv (eFn m__law_is_of (aCons (eIx (eVar 1) (eC (.int 2))) (aCons (eC (.str "012345678")) (aCons (eC (.int 1)) (aCons (eC (.int 5000)) aNil)))))))) (sRet (eC .none)) sNil) (sRet (eTup (aCons (eC (.str "beat")) (aCons (eFz (eCallB gIntF (aCons (eIx (eVar 1) (eC (.int 1))) aNil))) (aCons (eFz (eIx (eFn m__law_tuples (aCons (eLst (aCons (eFz (eIx (eVar 1) (eC (.int 2)))) aNil)) aNil)) (eC (.int 0)))) aNil)))))) sNil) (sSeq (sIf (lOr (tv (eOp2 gNotIn (eIx (eVar 1) (eC (.int 0))) (eTup (aCons (eC (.str "never")) (aCons (eC (.str "stable")) aNil))))) (tv (eOp2 gNe (eCallB gLen (aCons (eVar 1) aNil)) (eIx (eLst (aCons (eC (.int 2)) (aCons (eC (.int 3)) aNil))) (eCallB gIntF (aCons (eOp2 gEq (eIx (eVar 1) (eC (.int 0))) (eC (.str "stable"))) aNil)))))) (sRet (eC .none)) sNil) (sSeq (sIf (tv (eOp2 gNe (eLc [6] (iSeq (eIx (eVar 2) (eC (.int 1)))) (cName 6) p4__law_due_11 e3__law_due_11) (eLst aNil))) (sRet (eC .none)) sNil) (sSeq (sIf (tv (eOp2 gEq (eIx (eVar 1) (eC (.int 0))) (eC (.str "never")))) (sRet (eTup (aCons (eC (.str "never")) (aCons (eFz (eFn m__law_tuples (aCons (eIx (eVar 2) (eC (.int 1))) aNil))) aNil)))) sNil) (sSeq (sIf (tv (eOp2 gNe (eLc [3] (iSeq (eIx (eVar 2) (eC (.int 2)))) (cName 3) p2__law_due_11 e1__law_due_11) (eLst aNil))) (sRet (eC .none)) sNil) (sRet (eTup (aCons (eC (.str "stable")) (aCons (eFz (eFn m__law_tuples (aCons (eIx (eVar 2) (eC (.int 1))) aNil))) (aCons (eFz (eFn m__law_words (aCons (eIx (eVar 2) (eC (.int 2))) aNil))) aNil)))))))))))))
def m__law_due_11 : List SV → FOut := runFn 7 1 b__law_due_11
def f1__law_told_9 : DS → SOut := (sRet (eFz (eFn m_read_paper (aCons (eVar 0) aNil))))
def f2__law_told_9 : DS → SOut := (sSeq (sIf (lAnd (tv (eIsE 1 [("NoText", true)])) (lNot (tv (eIsE 1 [("NoText", false)])))) (sRet (eC (.str "refused"))) sNil) (sRet (eC (.str "else"))))
def b__law_told_9 : DS → SOut := (sTry 1 [("NoText", true)] f1__law_told_9 f2__law_told_9)
def m__law_told_9 : List SV → FOut := runFn 2 1 b__law_told_9
def f1_law_59 : DS → SOut := (sSeq (sAsg (eFn m__law_due_11 (aCons (eVar 4) aNil)) (gSet 5)) (sIf (lAnd (tv (eOp2 gLe (eCallB gLen (aCons (eVar 4) aNil)) (eC (.int 5000)))) (tv (eOp2 gNe (eFn m__law_told_9 (aCons (eVar 4) aNil)) (eIf (tv (eOp2 gNotN (eVar 5) (eC .none))) (eFz (eVar 5)) (eC (.str "refused")))))) (sRet (eC (.bool false))) sNil))
def f2_law_59 : DS → SOut := (sSeq (sAsg (eFn m__law_bag (aCons (eVar 0) (aCons (eVar 1) aNil))) (gSet 2)) (sSeq (sAsg (eFn m__law_text_2 (aCons (eVar 2) aNil)) (gSet 3)) (sSeq (sForI (iSeq (eLst (aCons (eFz (eVar 3)) (aCons (eFn m__law_changed_4 (aCons (eVar 2) (aCons (eVar 3) aNil))) (aCons (eFn m__law_changed_4 (aCons (eVar 2) (aCons (eFn m__law_changed_4 (aCons (eVar 2) (aCons (eVar 3) aNil))) aNil))) aNil))))) (gSet 4) f1_law_59) (sSeq (sAsg (eFz (eIx (eLst (aCons (eC .none) (aCons (eC (.int 0)) (aCons (eC (.bool true)) (aCons (eFz (eLst (aCons (eFz (eVar 3)) aNil))) (aCons (eFz (eTup (aCons (eFz (eVar 3)) aNil))) (aCons (eFz (eTup (aCons (eC (.str "call")) (aCons (eFz (eTup (aCons (eFz (eTup (aCons (eC (.int 0)) (aCons (eC (.int 0)) aNil)))) aNil))) (aCons (eC (.str "")) (aCons (eC (.int 1)) aNil)))))) aNil))))))) (eFn m__law_take (aCons (eVar 2) (aCons (eC (.int 6)) aNil))))) (gSet 6)) (sIf (lOr (tv (eOp2 gNe (eFn m__law_told_9 (aCons (eVar 6) aNil)) (eC (.str "refused")))) (tv (eOp2 gNe (eFn m__law_told_9 (aCons (eC (.str "")) aNil)) (eC (.str "refused"))))) (sRet (eC (.bool false))) sNil)))))
def b_law_59 : DS → SOut := (sSeq (sForI (iRng1 (aCons (eCallB gMax (aCons (eC (.int 1)) (aCons (eCallB gMin (aCons (eC (.int 4)) (aCons (eCallB gLen (aCons (eVar 0) aNil)) aNil))) aNil))) aNil)) (gSet 1) f2_law_59) (sRet (eC (.bool true))))
def m_law_59 : List SV → FOut := runFn 7 1 b_law_59
end D
namespace U
open PySem PySem.Spec Y D
abbrev zQ := sL (sF (dP PyData.int PyData.int))
abbrev zP := sF (dP PyData.int PyData.int)
abbrev zC := dP PyData.int PyData.int
abbrev zN := sF (dT (dT PyData.int))
abbrev zT := sF (dT PyData.int)
abbrev zL := sL (sF PyData.int)
abbrev zD := dT (dT PyData.int)
abbrev zR := List (List Int)
abbrev zB := sF PyData.bool
abbrev zI := sF PyData.int
abbrev zS := sF PyData.str
abbrev zE := dT PyData.int
abbrev zH := Int × Int
abbrev zG := List Int
abbrev zA := sF dA
end U
set_option maxRecDepth 100000
set_option maxHeartbeats 4000000
namespace U
open PySem PySem.Spec Y D
open L2 (atI ixN)
def t__law_bag_L2 (script_ : (List Int)) (at_ : Int) (cell_2 : Int) (s : (Int)) (x : Int) : R (Int) := (mulR s (48271 : Int)).bind fun v4 => (ixR script_ x).bind fun v5 => (modR v5 (2147483647 : Int)).bind fun v6 => (modR ((v4 + v6) + x) (2147483629 : Int)).bind fun v7 => R.ok (v7)
def st__law_bag_L2 (script_ : zG) (at_ : Int) (cell_2 : Int) (s : (Int)) (S : DS) : Prop := ∃ w1 : Option Sl, S = ⟨[tr ((sR (dL PyData.int)) script_), tr (zI at_), tr (zI cell_2), tr (zI s), w1], [(sR (dL PyData.int)) script_, zI at_]⟩
theorem q_t__law_bag_L2 {script_ : zG} {at_ : Int} {cell_2 : Int} : ∀ (s : (Int)) (x : Int) (c : (Int)) (S : DS), st__law_bag_L2 script_ at_ cell_2 s S → t__law_bag_L2 script_ at_ cell_2 s x = .ok c → ∃ S1, (gSet 4) (.fz (PyData.int x)) S = .nx S1 ∧ Sim (f1__law_bag S1) (NxP (st__law_bag_L2 script_ at_ cell_2) c) := by
 rintro s x c _ ⟨w1, rfl⟩ h
 unfold t__law_bag_L2 at h
 refine ⟨⟨[tr ((sR (dL PyData.int)) script_), tr (zI at_), tr (zI cell_2), tr (zI s), tr (zI x)], [(sR (dL PyData.int)) script_, zI at_]⟩, rfl, ?_⟩
 unfold f1__law_bag
 obtain ⟨v4, h4, h⟩ := R.bind_ok h
 obtain ⟨v5, h5, h⟩ := R.bind_ok h
 obtain ⟨v6, h6, h⟩ := R.bind_ok h
 obtain ⟨v7, h7, h⟩ := R.bind_ok h
 refine sim_last (q_asg (q_op2 (q_op2 (q_op2 (q_op2 (q_vf rfl) q_c st_sv tr_sv tr_sv (gMul_i h4)) (q_op2 (q_ix (q_vr (d := (dL PyData.int) script_) rfl) (q_vf rfl) st_sv tr_sv tr_sv (gIx_RL (fun _ => rfl) h5)) q_c st_sv tr_sv tr_sv (gMod_i h6)) st_sv tr_sv tr_sv gAdd_i) (q_vf rfl) st_sv tr_sv tr_sv gAdd_i) q_c st_sv tr_sv tr_sv (gMod_i h7)) rfl) ?_
 obtain rfl := R.inj h
 exact ⟨_, .inl rfl, ⟨_, rfl⟩⟩
def t__law_bag (script_ : (List Int)) (at_ : Int) : R ((List Int)) := (if (decide (at_ < (script_.length : Int))) = true then ((ixR script_ at_).bind fun v1 => R.ok ((if v1 < 0 then -v1 else v1))) else (R.ok ((0 : Int)))).bind fun (s1 : (Int)) => (mulR (7919 : Int) at_).bind fun v2 => (rngR 0 (iMin (script_.length : Int) (60 : Int))).bind fun v3 => (forR (t__law_bag_L2 script_ at_ s1) v3 (v2 + (17 : Int))).bind fun r8 => (powR (10 : Int) (18 : Int)).bind fun v9 => (if (decide (s1 < v9)) = true then (R.ok ((0 : Int))) else (R.ok (s1))).bind fun (s3 : (Int)) => R.ok ([s3, r8] : (List Int))
theorem q_t__law_bag {script_ : zG} {at_ : Int} {out : (zG)} (h : t__law_bag script_ at_ = .ok out) : m__law_bag [(sR (dL PyData.int)) script_, zI at_] = .ret (zL out) [(sR (dL PyData.int)) script_, zI at_] := by
 unfold t__law_bag at h
 refine runFn_fin ⟨rfl, by decide⟩ ?_
 unfold b__law_bag
 refine sim_seq (q_asg q_c rfl) ?_
 obtain ⟨s1, hj, h⟩ := R.bind_ok h
 refine sim_join (St := (fun (sj : (Int)) S => S = ⟨[tr ((sR (dL PyData.int)) script_), tr (zI at_), tr (zI sj), none, none], [(sR (dL PyData.int)) script_, zI at_]⟩)) (s := s1) ?_ ?_
 ·refine sim_if (q_tv (q_op2 (q_vf rfl) (q_callB (q_cons (q_vr (d := (dL PyData.int) script_) rfl) q_nil st_sv tr_sv) (trs_cons tr_sv trs_nil) (gLen_l len_RL)) st_sv tr_sv tr_sv gLt_i) tr_sv) (fun hb => ?_) (fun hb => ?_)
  ·replace hj := ite_t hb hj
   obtain ⟨v1, h1, hj⟩ := R.bind_ok hj
   refine sim_last (q_asg (q_callB (q_cons (q_ix (q_vr (d := (dL PyData.int) script_) rfl) (q_vf rfl) st_sv tr_sv tr_sv (gIx_RL (fun _ => rfl) h1)) q_nil st_sv tr_sv) (trs_cons tr_sv trs_nil) gAbs_i) rfl) ?_
   obtain rfl := R.inj hj
   exact ⟨_, rfl, rfl⟩
  ·replace hj := ite_f hb hj
   refine sim_last rfl ?_
   obtain rfl := R.inj hj
   exact ⟨_, rfl, rfl⟩
 rintro _ rfl
 obtain ⟨v2, h2, h⟩ := R.bind_ok h
 refine sim_seq (q_asg (q_op2 (q_op2 q_c (q_vf rfl) st_sv tr_sv tr_sv (gMul_i h2)) q_c st_sv tr_sv tr_sv gAdd_i) rfl) ?_
 obtain ⟨v3, h3, h⟩ := R.bind_ok h
 obtain ⟨r8, h8, h⟩ := R.bind_ok h
 obtain ⟨_, e2, o1, rfl⟩ := for_r (en := PyData.int) q_t__law_bag_L2 _ _ _ _ (show st__law_bag_L2 script_ at_ s1 (v2 + (17 : Int)) ⟨[tr ((sR (dL PyData.int)) script_), tr (zI at_), tr (zI s1), tr (zI (v2 + (17 : Int))), none], [(sR (dL PyData.int)) script_, zI at_]⟩ from ⟨_, rfl⟩) h8
 refine sim_seq ((forI (q_ir1 (q_cons (q_callB (q_cons (q_callB (q_cons (q_vr (d := (dL PyData.int) script_) rfl) q_nil st_sv tr_sv) (trs_cons tr_sv trs_nil) (gLen_l len_RL)) (q_cons q_c q_nil st_sv tr_sv) st_sv tr_sv) (trs_cons tr_sv (trs_cons tr_sv trs_nil)) gMin_2) q_nil st_sv tr_sv) h3)).trans e2) ?_
 obtain ⟨v9, h9, h⟩ := R.bind_ok h
 obtain ⟨s3, hj, h⟩ := R.bind_ok h
 refine sim_join (St := (fun (sj : (Int)) S => S = ⟨[tr ((sR (dL PyData.int)) script_), tr (zI at_), tr (zI sj), tr (zI r8), o1], [(sR (dL PyData.int)) script_, zI at_]⟩)) (s := s3) ?_ ?_
 ·refine sim_if (q_tv (q_op2 (q_vf rfl) (q_op2 q_c q_c st_sv tr_sv tr_sv (gPow_i h9)) st_sv tr_sv tr_sv gLt_i) tr_sv) (fun hb => ?_) (fun hb => ?_)
  ·replace hj := ite_t hb hj
   refine sim_last (q_asg q_c rfl) ?_
   obtain rfl := R.inj hj
   exact ⟨_, rfl, rfl⟩
  ·replace hj := ite_f hb hj
   refine sim_last rfl ?_
   obtain rfl := R.inj hj
   exact ⟨_, rfl, rfl⟩
 rintro _ rfl
 obtain rfl := R.inj h
 exact sim_ret (q_ret (q_lstE (en := zI) (xs := [s3, r8]) (q_cons (q_fzs (q_vf rfl) frz_fz) (q_cons (q_fzs (q_vf rfl) frz_fz) q_nil st_sv tr_sv) st_sv tr_sv) rfl (Nat.le_of_ble_eq_true rfl))) (.inl rfl)
def t__law_take_L1 (many_ : Int) (s : (Int × Int × (List Int))) : R (Int × Int × (List Int)) := (ixR s.2.2 (1 : Int)).bind fun v7 => (mulR v7 (48271 : Int)).bind fun v8 => (modR (v8 + (7919 : Int)) (2147483647 : Int)).bind fun v9 => (setR s.2.2 (1 : Int) v9).bind fun v10 => (mulR s.1 (1073741789 : Int)).bind fun v11 => (ixR v10 (1 : Int)).bind fun v12 => (fdivR v12 (8 : Int)).bind fun v13 => (mulR v13 (69621 : Int)).bind fun v14 => (modR v14 (1073741789 : Int)).bind fun v15 => (mulR s.2.1 (1073741789 : Int)).bind fun v16 => R.ok ((v11 + v15), v16, v10)
def t__law_take_L1_c (many_ : Int) (s : (Int × Int × (List Int))) : R Bool := R.ok (decide (s.2.1 < many_))
def st__law_take_L1 (many_ : Int) (s : (Int × Int × zG)) (S : DS) : Prop := S = ⟨[ar 0, tr (zI many_), none, tr (zI s.1), tr (zI s.2.1)], [zL s.2.2, zI many_]⟩
theorem q_t__law_take_L1 {many_ : Int} : ∀ (s : (Int × Int × zG)) (c : (Int × Int × zG)) (S : DS), st__law_take_L1 many_ s S → t__law_take_L1 many_ s = .ok c → Sim (f2__law_take S) (NxP (st__law_take_L1 many_) c) := by
 rintro s c _ rfl h
 unfold t__law_take_L1 at h
 unfold f2__law_take
 obtain ⟨v7, h7, h⟩ := R.bind_ok h
 obtain ⟨v8, h8, h⟩ := R.bind_ok h
 obtain ⟨v9, h9, h⟩ := R.bind_ok h
 obtain ⟨v10, h10, h⟩ := R.bind_ok h
 refine sim_seq (q_asg (q_op2 (q_op2 (q_op2 (q_ix (q_va (j := 0) rfl rfl) q_c st_pk (tr_pk rfl) tr_sv (gIx_F h7)) q_c st_sv tr_sv tr_sv (gMul_i h8)) q_c st_sv tr_sv tr_sv gAdd_i) q_c st_sv tr_sv tr_sv (gMod_i h9)) (q_st (q_va (j := 0) rfl rfl) q_c tr_sv rfl (gSetIx_ok (en := zI) h10))) ?_
 obtain ⟨v11, h11, h⟩ := R.bind_ok h
 obtain ⟨v12, h12, h⟩ := R.bind_ok h
 obtain ⟨v13, h13, h⟩ := R.bind_ok h
 obtain ⟨v14, h14, h⟩ := R.bind_ok h
 obtain ⟨v15, h15, h⟩ := R.bind_ok h
 refine sim_seq (q_asg (q_op2 (q_op2 (q_vf rfl) q_c st_sv tr_sv tr_sv (gMul_i h11)) (q_op2 (q_op2 (q_op2 (q_ix (q_va (j := 0) rfl rfl) q_c st_pk (tr_pk rfl) tr_sv (gIx_F h12)) q_c st_sv tr_sv tr_sv (gFDiv_i h13)) q_c st_sv tr_sv tr_sv (gMul_i h14)) q_c st_sv tr_sv tr_sv (gMod_i h15)) st_sv tr_sv tr_sv gAdd_i) rfl) ?_
 obtain ⟨v16, h16, h⟩ := R.bind_ok h
 refine sim_last (q_asg (q_op2 (q_vf rfl) q_c st_sv tr_sv tr_sv (gMul_i h16)) rfl) ?_
 obtain rfl := R.inj h
 exact ⟨_, .inl rfl, rfl⟩
theorem q_t__law_take_L1_c {many_ : Int} : ∀ (s : (Int × Int × zG)) (b : Bool) (S : DS), st__law_take_L1 many_ s S → t__law_take_L1_c many_ s = .ok b → ∃ S1 L, TJ t1__law_take S b S1 L ∧ st__law_take_L1 many_ s S1 := by
 rintro s b _ rfl h
 unfold t__law_take_L1_c at h
 obtain rfl := R.inj h
 exact ⟨_, _, (q_tv (q_op2 (q_vf rfl) (q_vf rfl) st_sv tr_sv tr_sv gLt_i) tr_sv), rfl⟩
def t__law_take (bag_here_ : (List Int)) (many_ : Int) : R (Int × (List Int)) := (ixR bag_here_ (0 : Int)).bind fun v1 => if (decide ((0 : Int) < v1)) = true then ((ixR bag_here_ (0 : Int)).bind fun v2 => (modR v2 many_).bind fun v3 => (ixR bag_here_ (0 : Int)).bind fun v4 => (fdivR v4 many_).bind fun v5 => (setR bag_here_ (0 : Int) v5).bind fun v6 => R.ok (v3, v6)) else ((whileR (t__law_take_L1_c many_) (t__law_take_L1 many_) 1000000 ((0 : Int), (1 : Int), bag_here_)).bind fun r17 => (modR r17.1 many_).bind fun v18 => R.ok (v18, r17.2.2))
theorem q_t__law_take {bag_here_ : zG} {many_ : Int} {out : (Int × zG)} (h : t__law_take bag_here_ many_ = .ok out) : m__law_take [zL bag_here_, zI many_] = .ret (zI out.1) [zL out.2, zI many_] := by
 unfold t__law_take at h
 refine runFn_fin ⟨rfl, by decide⟩ ?_
 unfold b__law_take
 obtain ⟨v1, h1, h⟩ := R.bind_ok h
 refine sim_mid ?_
 refine sim_if (q_tv (q_op2 (q_ix (q_va (j := 0) rfl rfl) q_c st_pk (tr_pk rfl) tr_sv (gIx_F h1)) q_c st_sv tr_sv tr_sv gGt_i) tr_sv) (fun hb => ?_) (fun hb => ?_)
 ·replace h := ite_t hb h
  obtain ⟨v2, h2, h⟩ := R.bind_ok h
  obtain ⟨v3, h3, h⟩ := R.bind_ok h
  refine sim_seq (q_asg (q_op2 (q_ix (q_va (j := 0) rfl rfl) q_c st_pk (tr_pk rfl) tr_sv (gIx_F h2)) (q_vf rfl) st_sv tr_sv tr_sv (gMod_i h3)) rfl) ?_
  obtain ⟨v4, h4, h⟩ := R.bind_ok h
  obtain ⟨v5, h5, h⟩ := R.bind_ok h
  obtain ⟨v6, h6, h⟩ := R.bind_ok h
  refine sim_seq (q_asg (q_op2 (q_ix (q_va (j := 0) rfl rfl) q_c st_pk (tr_pk rfl) tr_sv (gIx_F h4)) (q_vf rfl) st_sv tr_sv tr_sv (gFDiv_i h5)) (q_st (q_va (j := 0) rfl rfl) q_c tr_sv rfl (gSetIx_ok (en := zI) h6))) ?_
  obtain rfl := R.inj h
  exact sim_ret (q_ret (q_mvs (q_vf rfl))) (mid_rt (.inl rfl))
 ·replace h := ite_f hb h
  refine sim_last rfl ?_
  refine mid_nx ?_
  refine sim_seq (q_asg q_c rfl) ?_
  refine sim_seq (q_asg q_c rfl) ?_
  obtain ⟨r17, h17, h⟩ := R.bind_ok h
  obtain ⟨_, e1, rfl⟩ := while_r q_t__law_take_L1_c q_t__law_take_L1 _ _ _ _ (show st__law_take_L1 many_ ((0 : Int), (1 : Int), bag_here_) ⟨[ar 0, tr (zI many_), none, tr (zI (0 : Int)), tr (zI (1 : Int))], [zL bag_here_, zI many_]⟩ from rfl) h17
  refine sim_seq e1 ?_
  obtain ⟨v18, h18, h⟩ := R.bind_ok h
  obtain rfl := R.inj h
  exact sim_ret (q_ret (q_op2 (q_vf rfl) (q_vf rfl) st_sv tr_sv tr_sv (gMod_i h18))) (.inl rfl)
def t_is_written (text_ : Str) (signs_ : Str) (least_ : Int) (most_ : Int) : R (Bool) := (slenR text_).bind fun v1 => (if ((decide (least_ ≤ v1)) && (decide (v1 ≤ most_))) = true then ((lcR (chars text_) fun (x1 : Str) => R.ok (inStr x1 signs_)).bind fun v2 => R.ok (v2.all id)) else R.ok false).bind fun v3 => R.ok v3
theorem q_t_is_written {text_ : Str} {signs_ : Str} {least_ : Int} {most_ : Int} {out : (Bool)} (h : t_is_written text_ signs_ least_ most_ = .ok out) : m_is_written [zS text_, zS signs_, zI least_, zI most_] = .ret (zB out) [zS text_, zS signs_, zI least_, zI most_] := by
 unfold t_is_written at h
 refine runFn_fin ⟨rfl, by decide⟩ ?_
 unfold b_is_written
 obtain ⟨v1, h1, h⟩ := R.bind_ok h
 obtain ⟨v3, h3, h⟩ := R.bind_ok h
 obtain rfl := R.inj h
 exact sim_ret (q_ret (q_and (q_chainp (q_vf rfl) (q_callB (q_cons (q_vf rfl) q_nil st_sv tr_sv) (trs_cons tr_sv trs_nil) (gLen_s h1)) st_sv tr_sv tr_sv gLe_i (q_vf rfl) st_sv tr_sv gLe_i) tr_sv (fun hb => by have g := ite_t hb h3; obtain ⟨v2, h2, g⟩ := R.bind_ok g; obtain rfl := R.inj g; exact (q_viewf (q_vf rfl) (q_callB (q_cons (q_lc (vs := [4]) (en := PyData.str) (q_isS (q_fzs (q_vf rfl) frz_fz)) h2 rfl (fun x1 y hy => by obtain rfl := R.inj hy; exact ⟨⟨[tr (zS text_), tr (zS signs_), tr (zI least_), tr (zI most_), tr (zS x1)], [zS text_, zS signs_, zI least_, zI most_]⟩, _, rfl, (q_op2 (q_vf rfl) (q_vf rfl) st_sv tr_sv tr_sv gIn_s), rfl⟩) rfl) q_nil st_sv tr_sv) (trs_cons tr_sv trs_nil) (gAll_l sql_F)))) (fun hb => (R.inj (ite_f hb h3)).symm))) (.inl rfl)
def t_is_written_word (text_ : Str) : R (Bool) := (shaR (PyData.str text_)).bind fun v1 => (shaR (PyData.str ("-" : Str))).bind fun v2 => (if (decide (text_ = ("-" : Str))) = true then R.ok true else ((t_is_written text_ ("abc" : Str) (1 : Int) (2000 : Int)).bind fun v3 => R.ok v3)).bind fun v4 => R.ok v4
theorem q_t_is_written_word {text_ : Str} {out : (Bool)} (h : t_is_written_word text_ = .ok out) : m_is_written_word [zS text_] = .ret (zB out) [zS text_] := by
 unfold t_is_written_word at h
 refine runFn_fin ⟨rfl, by decide⟩ ?_
 unfold b_is_written_word
 obtain ⟨v1, h1, h⟩ := R.bind_ok h
 obtain ⟨v2, h2, h⟩ := R.bind_ok h
 obtain ⟨v4, h4, h⟩ := R.bind_ok h
 obtain rfl := R.inj h
 exact sim_ret (q_ret (q_or (q_op2 (q_vf rfl) q_c st_sv tr_sv tr_sv (gEq_v (x := text_) (y := ("-" : Str)) fai_s vw_fz vw_fz (shaR_ok h1) (shaR_ok h2))) tr_sv (fun hb => by have g := ite_f hb h4; obtain ⟨v3, h3, g⟩ := R.bind_ok g; obtain rfl := R.inj g; exact (q_fnr (R := []) (q_cons (q_vf rfl) (q_cons q_c (q_cons q_c (q_cons q_c q_nil st_sv tr_sv) st_sv tr_sv) st_sv tr_sv) st_sv tr_sv) (trs_cons tr_sv (trs_cons tr_sv (trs_cons tr_sv (trs_cons tr_sv trs_nil)))) rfl (by decide) (q_t_is_written h3) (pb_sv (pb_sv (pb_sv (pb_sv pb_nil)))))) (fun hb => (R.inj (ite_t hb h4)).symm))) (.inl rfl)
def t_word_in (text_ : Str) : R (Str) := (t_is_written_word text_).bind fun v1 => if (!v1) = true then (R.fail) else ((shaR (PyData.str text_)).bind fun v2 => (shaR (PyData.str ("-" : Str))).bind fun v3 => (if (decide (text_ = ("-" : Str))) = true then (R.ok ("" : Str)) else (R.ok text_)).bind fun v4 => R.ok v4)
theorem q_t_word_in {text_ : Str} {out : (Str)} (h : t_word_in text_ = .ok out) : m_word_in [zS text_] = .ret (zS out) [zS text_] := by
 unfold t_word_in at h
 refine runFn_fin ⟨rfl, by decide⟩ ?_
 unfold b_word_in
 obtain ⟨v1, h1, h⟩ := R.bind_ok h
 refine sim_mid ?_
 refine sim_if (q_lnot (q_tv (q_fnr (R := []) (q_cons (q_vf rfl) q_nil st_sv tr_sv) (trs_cons tr_sv trs_nil) rfl (by decide) (q_t_is_written_word h1) (pb_sv pb_nil)) tr_sv)) (fun hb => ?_) (fun hb => ?_)
 ·replace h := ite_t hb h
  cases h
 ·replace h := ite_f hb h
  refine sim_last rfl ?_
  refine mid_nx ?_
  obtain ⟨v2, h2, h⟩ := R.bind_ok h
  obtain ⟨v3, h3, h⟩ := R.bind_ok h
  obtain ⟨v4, h4, h⟩ := R.bind_ok h
  obtain rfl := R.inj h
  exact sim_ret (q_ret (q_fzs (q_if0 (z := zS v4) (q_tv (q_op2 (q_vf rfl) q_c st_sv tr_sv tr_sv (gEq_v (x := text_) (y := ("-" : Str)) fai_s vw_fz vw_fz (shaR_ok h2) (shaR_ok h3))) tr_sv) (fun hb => by have g := ite_t hb h4; obtain rfl := R.inj g; exact EJ.up q_c (by decide)) (fun hb => by have g := ite_f hb h4; obtain rfl := R.inj g; exact EJ.up (q_fzs (q_vf rfl) frz_fz) (by decide))) frz_fz)) (.inl rfl)
def x_word_in (text_ : Str) : R Str := (t_is_written_word text_).bind fun v1 => if (!v1) = true then (R.ok "NoText") else (R.fail)
theorem qx_x_word_in {text_ : Str} {c : Str} (h : x_word_in text_ = .ok c) : m_word_in [zS text_] = .exc c none [zS text_] := by
 unfold x_word_in at h
 refine runFn_exc ⟨rfl, by decide⟩ ?_
 unfold b_word_in
 obtain ⟨v1, h1, h⟩ := R.bind_ok h
 refine sim_mid ?_
 refine sim_if (q_lnot (q_tv (q_fnr (R := []) (q_cons (q_vf rfl) q_nil st_sv tr_sv) (trs_cons tr_sv trs_nil) rfl (by decide) (q_t_is_written_word h1) (pb_sv pb_nil)) tr_sv)) (fun hb => ?_) (fun hb => ?_)
 ·replace h := ite_t hb h
  obtain rfl := R.inj h
  exact sim_exL rfl (mid_ex ⟨_, rfl, rfl⟩)
 ·replace h := ite_f hb h
  cases h
def t_are_written_rows (rows_ : (List Str)) : R (Bool) := (if (!((decide ((1 : Int) ≤ (rows_.length : Int))) && (decide ((rows_.length : Int) ≤ (9 : Int))))) = true then R.ok true else ((ixR rows_ (0 : Int)).bind fun v1 => (slenR v1).bind fun v2 => R.ok (!(memB v2 ([(2 : Int), (3 : Int)] : (List Int)))))).bind fun v3 => if v3 = true then (R.ok false) else ((lcR rows_ fun (x1 : Str) => (ixR rows_ (0 : Int)).bind fun v4 => (slenR v4).bind fun v5 => (ixR rows_ (0 : Int)).bind fun v6 => (slenR v6).bind fun v7 => (t_is_written x1 ("012345678" : Str) v5 v7).bind fun v8 => R.ok v8).bind fun v9 => R.ok (v9.all id))
theorem q_t_are_written_rows {rows_ : (List Str)} {out : (Bool)} (h : t_are_written_rows rows_ = .ok out) : m_are_written_rows [(sL zS) rows_] = .ret (zB out) [(sL zS) rows_] := by
 unfold t_are_written_rows at h
 refine runFn_fin ⟨rfl, by decide⟩ ?_
 unfold b_are_written_rows
 obtain ⟨v3, h3, h⟩ := R.bind_ok h
 refine sim_mid ?_
 refine sim_if (q_lor (q_lnot (q_tv (q_chainp q_c (q_callB (q_cons (q_va (j := 0) rfl rfl) q_nil st_pk (tr_pk rfl)) (trs_cons (tr_pk rfl) trs_nil) (gLen_l len_sL)) st_sv tr_sv tr_sv gLe_i q_c st_sv tr_sv gLe_i) tr_sv)) (fun hb => by have g := ite_f hb h3; obtain ⟨v1, h1, g⟩ := R.bind_ok g; obtain ⟨v2, h2, g⟩ := R.bind_ok g; obtain rfl := R.inj g; exact (q_tv (q_op2 (q_callB (q_cons (q_ix (q_va (j := 0) rfl rfl) q_c st_pk (tr_pk rfl) tr_sv (gIx_F h1)) q_nil st_sv tr_sv) (trs_cons tr_sv trs_nil) (gLen_s h2)) q_ro st_sv tr_sv tr_sv (gNotIn_v (x := v2) (xs := ([(2 : Int), (3 : Int)] : zG)) fai_i vw_fz (.inr vw_ro) (sha_ok sha_i (by decide) _) (sha_ok (sha_L sha_i) (by decide) _))) tr_sv)) (fun hb => (R.inj (ite_t hb h3)).symm)) (fun hb => ?_) (fun hb => ?_)
 ·replace h := ite_t hb h
  obtain rfl := R.inj h
  exact sim_ret (q_ret q_c) (mid_rt (.inl rfl))
 ·replace h := ite_f hb h
  refine sim_last rfl ?_
  refine mid_nx ?_
  obtain ⟨v9, h9, h⟩ := R.bind_ok h
  obtain rfl := R.inj h
  exact sim_ret (q_ret (q_viewp (q_va (j := 0) rfl rfl) rfl ((frz_L frz_F) rows_) (EJ.up (q_callB (q_cons (q_lc (vs := [1]) (en := PyData.str) (q_isL (q_fzs (q_vaf (j := 0) (d := (dL PyData.str) rows_) rfl rfl) frz_fz)) h9 rfl (fun x1 y hy => by obtain ⟨v4, h4, hy⟩ := R.bind_ok hy; obtain ⟨v5, h5, hy⟩ := R.bind_ok hy; obtain ⟨v6, h6, hy⟩ := R.bind_ok hy; obtain ⟨v7, h7, hy⟩ := R.bind_ok hy; obtain ⟨v8, h8, hy⟩ := R.bind_ok hy; obtain rfl := R.inj hy; exact ⟨⟨[ar 0, tr (zS x1)], [(sF (dL PyData.str)) rows_]⟩, _, rfl, (q_fnr (R := []) (q_cons (q_vf rfl) (q_cons q_c (q_cons (q_callB (q_cons (q_ix (q_vaf (j := 0) (d := (dL PyData.str) rows_) rfl rfl) q_c st_sv tr_sv tr_sv (gIx_L h4)) q_nil st_sv tr_sv) (trs_cons tr_sv trs_nil) (gLen_s h5)) (q_cons (q_callB (q_cons (q_ix (q_vaf (j := 0) (d := (dL PyData.str) rows_) rfl rfl) q_c st_sv tr_sv tr_sv (gIx_L h6)) q_nil st_sv tr_sv) (trs_cons tr_sv trs_nil) (gLen_s h7)) q_nil st_sv tr_sv) st_sv tr_sv) st_sv tr_sv) st_sv tr_sv) (trs_cons tr_sv (trs_cons tr_sv (trs_cons tr_sv (trs_cons tr_sv trs_nil)))) rfl (by decide) (q_t_is_written h8) (pb_sv (pb_sv (pb_sv (pb_sv pb_nil))))), rfl⟩) rfl) q_nil st_sv tr_sv) (trs_cons tr_sv trs_nil) (gAll_l sql_F)) (by decide)) rfl)) (.inl rfl)
def t_places_in (text_ : Str) : R ((List Int)) := (lcR (chars text_) fun (x1 : Str) => (intTR x1).bind fun v1 => R.ok v1).bind fun v2 => R.ok v2
theorem q_t_places_in {text_ : Str} {out : (zG)} (h : t_places_in text_ = .ok out) : m_places_in [zS text_] = .ret (zT out) [zS text_] := by
 unfold t_places_in at h
 refine runFn_fin ⟨rfl, by decide⟩ ?_
 unfold b_places_in
 obtain ⟨v2, h2, h⟩ := R.bind_ok h
 obtain rfl := R.inj h
 exact sim_ret (q_ret (q_callB (q_cons (q_lc (vs := [1]) (en := PyData.str) (q_isS (q_fzs (q_vf rfl) frz_fz)) h2 rfl (fun x1 y hy => by obtain ⟨v1, h1, hy⟩ := R.bind_ok hy; obtain rfl := R.inj hy; exact ⟨⟨[tr (zS text_), tr (zS x1)], [zS text_]⟩, _, rfl, (q_callB (q_cons (q_vf rfl) q_nil st_sv tr_sv) (trs_cons tr_sv trs_nil) (gIntF_s h1)), rfl⟩) rfl) q_nil st_sv tr_sv) (trs_cons tr_sv trs_nil) (gTup_l sql_F))) (.inl rfl)
def t_rows_in (text_ : Str) (between_ : Str) : R ((List (List Int))) := (splitR text_ between_).bind fun v1 => (t_are_written_rows v1).bind fun v2 => if (!v2) = true then (R.fail) else ((lcR v1 fun (x1 : Str) => (t_places_in x1).bind fun v3 => R.ok v3).bind fun v4 => R.ok v4)
theorem q_t_rows_in {text_ : Str} {between_ : Str} {out : (zR)} (h : t_rows_in text_ between_ = .ok out) : m_rows_in [zS text_, zS between_] = .ret (zN out) [zS text_, zS between_] := by
 unfold t_rows_in at h
 refine runFn_fin ⟨rfl, by decide⟩ ?_
 unfold b_rows_in
 obtain ⟨v1, h1, h⟩ := R.bind_ok h
 refine sim_seq (q_asg (q_met (q_vf rfl) rfl (q_cons (q_vf rfl) q_nil st_sv tr_sv) st_sv tr_sv (trs_cons tr_sv trs_nil) (gSplit_ok h1)) rfl) ?_
 obtain ⟨v2, h2, h⟩ := R.bind_ok h
 refine sim_mid ?_
 refine sim_if (q_lnot (q_tv (q_fnr (R := [.s 2]) (q_cons (q_vl rfl) q_nil st_pk (tr_pk rfl)) (trs_cons (tr_pk rfl) trs_nil) rfl (by decide) (q_t_are_written_rows h2) (pb_pk rfl pb_nil)) tr_sv)) (fun hb => ?_) (fun hb => ?_)
 ·replace h := ite_t hb h
  cases h
 ·replace h := ite_f hb h
  refine sim_last rfl ?_
  refine mid_nx ?_
  obtain ⟨v4, h4, h⟩ := R.bind_ok h
  obtain rfl := R.inj h
  exact sim_ret (q_ret (q_callB (q_cons (q_lc (vs := [3]) (en := PyData.str) (q_isL (q_fzp (q_vl rfl) rfl ((frz_L frz_F) v1))) h4 rfl (fun x1 y hy => by obtain ⟨v3, h3, hy⟩ := R.bind_ok hy; obtain rfl := R.inj hy; exact ⟨⟨[tr (zS text_), tr (zS between_), tr ((sF (dL PyData.str)) v1), tr (zS x1)], [zS text_, zS between_]⟩, _, rfl, (q_fnr (R := []) (q_cons (q_vf rfl) q_nil st_sv tr_sv) (trs_cons tr_sv trs_nil) rfl (by decide) (q_t_places_in h3) (pb_sv pb_nil)), rfl⟩) rfl) q_nil st_sv tr_sv) (trs_cons tr_sv trs_nil) (gTup_l sql_F))) (.inl rfl)
def t_is_written_number (text_ : Str) : R (Bool) := (t_is_written text_ ("0123456789" : Str) (1 : Int) (60 : Int)).bind fun v1 => if (!v1) = true then (R.ok false) else ((sixR text_ (0 : Int)).bind fun v2 => (shaR (PyData.str v2)).bind fun v3 => (shaR (PyData.str ("0" : Str))).bind fun v4 => (if (!(decide (v2 = ("0" : Str)))) = true then R.ok true else ((slenR text_).bind fun v5 => R.ok (decide (v5 = (1 : Int))))).bind fun v6 => R.ok v6)
theorem q_t_is_written_number {text_ : Str} {out : (Bool)} (h : t_is_written_number text_ = .ok out) : m_is_written_number [zS text_] = .ret (zB out) [zS text_] := by
 unfold t_is_written_number at h
 refine runFn_fin ⟨rfl, by decide⟩ ?_
 unfold b_is_written_number
 obtain ⟨v1, h1, h⟩ := R.bind_ok h
 refine sim_mid ?_
 refine sim_if (q_lnot (q_tv (q_fnr (R := []) (q_cons (q_vf rfl) (q_cons q_c (q_cons q_c (q_cons q_c q_nil st_sv tr_sv) st_sv tr_sv) st_sv tr_sv) st_sv tr_sv) (trs_cons tr_sv (trs_cons tr_sv (trs_cons tr_sv (trs_cons tr_sv trs_nil)))) rfl (by decide) (q_t_is_written h1) (pb_sv (pb_sv (pb_sv (pb_sv pb_nil))))) tr_sv)) (fun hb => ?_) (fun hb => ?_)
 ·replace h := ite_t hb h
  obtain rfl := R.inj h
  exact sim_ret (q_ret q_c) (mid_rt (.inl rfl))
 ·replace h := ite_f hb h
  refine sim_last rfl ?_
  refine mid_nx ?_
  obtain ⟨v2, h2, h⟩ := R.bind_ok h
  obtain ⟨v3, h3, h⟩ := R.bind_ok h
  obtain ⟨v4, h4, h⟩ := R.bind_ok h
  obtain ⟨v6, h6, h⟩ := R.bind_ok h
  obtain rfl := R.inj h
  exact sim_ret (q_ret (q_or (q_op2 (q_ix (q_vf rfl) q_c st_sv tr_sv tr_sv (gIx_S h2)) q_c st_sv tr_sv tr_sv (gNe_v (x := v2) (y := ("0" : Str)) fai_s vw_fz vw_fz (shaR_ok h3) (shaR_ok h4))) tr_sv (fun hb => by have g := ite_f hb h6; obtain ⟨v5, h5, g⟩ := R.bind_ok g; obtain rfl := R.inj g; exact (q_op2 (q_callB (q_cons (q_vf rfl) q_nil st_sv tr_sv) (trs_cons tr_sv trs_nil) (gLen_s h5)) q_c st_sv tr_sv tr_sv (gEq_v (x := v5) (y := (1 : Int)) fai_i vw_fz vw_fz (sha_ok sha_i (by decide) _) (sha_ok sha_i (by decide) _)))) (fun hb => (R.inj (ite_t hb h6)).symm))) (.inl rfl)
def t_number_in (text_ : Str) : R (Int) := (t_is_written_number text_).bind fun v1 => if (!v1) = true then (R.fail) else ((intTR text_).bind fun v2 => R.ok v2)
theorem q_t_number_in {text_ : Str} {out : (Int)} (h : t_number_in text_ = .ok out) : m_number_in [zS text_] = .ret (zI out) [zS text_] := by
 unfold t_number_in at h
 refine runFn_fin ⟨rfl, by decide⟩ ?_
 unfold b_number_in
 obtain ⟨v1, h1, h⟩ := R.bind_ok h
 refine sim_mid ?_
 refine sim_if (q_lnot (q_tv (q_fnr (R := []) (q_cons (q_vf rfl) q_nil st_sv tr_sv) (trs_cons tr_sv trs_nil) rfl (by decide) (q_t_is_written_number h1) (pb_sv pb_nil)) tr_sv)) (fun hb => ?_) (fun hb => ?_)
 ·replace h := ite_t hb h
  cases h
 ·replace h := ite_f hb h
  refine sim_last rfl ?_
  refine mid_nx ?_
  obtain ⟨v2, h2, h⟩ := R.bind_ok h
  obtain rfl := R.inj h
  exact sim_ret (q_ret (q_callB (q_cons (q_vf rfl) q_nil st_sv tr_sv) (trs_cons tr_sv trs_nil) (gIntF_s h2))) (.inl rfl)
def t_numbers_in (text_ : Str) : R ((List Int)) := (t_is_written text_ ("012345678" : Str) (1 : Int) (5000 : Int)).bind fun v1 => if (!v1) = true then (R.fail) else ((t_places_in text_).bind fun v2 => R.ok v2)
theorem q_t_numbers_in {text_ : Str} {out : (zG)} (h : t_numbers_in text_ = .ok out) : m_numbers_in [zS text_] = .ret (zT out) [zS text_] := by
 unfold t_numbers_in at h
 refine runFn_fin ⟨rfl, by decide⟩ ?_
 unfold b_numbers_in
 obtain ⟨v1, h1, h⟩ := R.bind_ok h
 refine sim_mid ?_
 refine sim_if (q_lnot (q_tv (q_fnr (R := []) (q_cons (q_vf rfl) (q_cons q_c (q_cons q_c (q_cons q_c q_nil st_sv tr_sv) st_sv tr_sv) st_sv tr_sv) st_sv tr_sv) (trs_cons tr_sv (trs_cons tr_sv (trs_cons tr_sv (trs_cons tr_sv trs_nil)))) rfl (by decide) (q_t_is_written h1) (pb_sv (pb_sv (pb_sv (pb_sv pb_nil))))) tr_sv)) (fun hb => ?_) (fun hb => ?_)
 ·replace h := ite_t hb h
  cases h
 ·replace h := ite_f hb h
  refine sim_last rfl ?_
  refine mid_nx ?_
  obtain ⟨v2, h2, h⟩ := R.bind_ok h
  obtain rfl := R.inj h
  exact sim_ret (q_ret (q_fnr (R := []) (q_cons (q_vf rfl) q_nil st_sv tr_sv) (trs_cons tr_sv trs_nil) rfl (by decide) (q_t_places_in h2) (pb_sv pb_nil))) (.inl rfl)
def t_pairs_in (text_ : Str) : R ((List (List Int))) := (splitR text_ ("," : Str)).bind fun v1 => (lcR v1 fun (x1 : Str) => (t_is_written x1 ("012345678" : Str) (2 : Int) (2 : Int)).bind fun v2 => R.ok v2).bind fun v3 => if (!(v3.all id)) = true then (R.fail) else ((lcR v1 fun (x2 : Str) => (t_places_in x2).bind fun v4 => R.ok v4).bind fun v5 => R.ok v5)
theorem q_t_pairs_in {text_ : Str} {out : (zR)} (h : t_pairs_in text_ = .ok out) : m_pairs_in [zS text_] = .ret (zN out) [zS text_] := by
 unfold t_pairs_in at h
 refine runFn_fin ⟨rfl, by decide⟩ ?_
 unfold b_pairs_in
 obtain ⟨v1, h1, h⟩ := R.bind_ok h
 refine sim_seq (q_asg (q_met (q_vf rfl) rfl (q_cons q_c q_nil st_sv tr_sv) st_sv tr_sv (trs_cons tr_sv trs_nil) (gSplit_ok h1)) rfl) ?_
 obtain ⟨v3, h3, h⟩ := R.bind_ok h
 refine sim_mid ?_
 refine sim_if (q_lnot (q_tv (q_viewp (q_vl rfl) rfl ((frz_L frz_F) v1) (EJ.up (q_callB (q_cons (q_lc (vs := [2]) (en := PyData.str) (q_isL (q_fzs (q_vf rfl) frz_fz)) h3 rfl (fun x1 y hy => by obtain ⟨v2, h2, hy⟩ := R.bind_ok hy; obtain rfl := R.inj hy; exact ⟨⟨[tr (zS text_), tr ((sF (dL PyData.str)) v1), tr (zS x1)], [zS text_]⟩, _, rfl, (q_fnr (R := []) (q_cons (q_vf rfl) (q_cons q_c (q_cons q_c (q_cons q_c q_nil st_sv tr_sv) st_sv tr_sv) st_sv tr_sv) st_sv tr_sv) (trs_cons tr_sv (trs_cons tr_sv (trs_cons tr_sv (trs_cons tr_sv trs_nil)))) rfl (by decide) (q_t_is_written h2) (pb_sv (pb_sv (pb_sv (pb_sv pb_nil))))), rfl⟩) rfl) q_nil st_sv tr_sv) (trs_cons tr_sv trs_nil) (gAll_l sql_F)) (by decide)) rfl) tr_sv)) (fun hb => ?_) (fun hb => ?_)
 ·replace h := ite_t hb h
  cases h
 ·replace h := ite_f hb h
  refine sim_last rfl ?_
  refine mid_nx ?_
  obtain ⟨v5, h5, h⟩ := R.bind_ok h
  obtain rfl := R.inj h
  exact sim_ret (q_ret (q_callB (q_cons (q_lc (vs := [2]) (en := PyData.str) (q_isL (q_fzp (q_vl rfl) rfl ((frz_L frz_F) v1))) h5 rfl (fun x2 y hy => by obtain ⟨v4, h4, hy⟩ := R.bind_ok hy; obtain rfl := R.inj hy; exact ⟨⟨[tr (zS text_), tr ((sF (dL PyData.str)) v1), tr (zS x2)], [zS text_]⟩, _, rfl, (q_fnr (R := []) (q_cons (q_vf rfl) q_nil st_sv tr_sv) (trs_cons tr_sv trs_nil) rfl (by decide) (q_t_places_in h4) (pb_sv pb_nil)), rfl⟩) rfl) q_nil st_sv tr_sv) (trs_cons tr_sv trs_nil) (gTup_l sql_F))) (.inl rfl)
def t_words_in (text_ : Str) : R ((List Str)) := (splitR text_ ("," : Str)).bind fun v1 => (lcR v1 fun (x1 : Str) => (t_word_in x1).bind fun v2 => R.ok v2).bind fun v3 => R.ok v3
theorem q_t_words_in {text_ : Str} {out : ((List Str))} (h : t_words_in text_ = .ok out) : m_words_in [zS text_] = .ret ((sF (dT PyData.str)) out) [zS text_] := by
 unfold t_words_in at h
 refine runFn_fin ⟨rfl, by decide⟩ ?_
 unfold b_words_in
 obtain ⟨v1, h1, h⟩ := R.bind_ok h
 obtain ⟨v3, h3, h⟩ := R.bind_ok h
 obtain rfl := R.inj h
 exact sim_ret (q_ret (q_callB (q_cons (q_lcX (q_lc (vs := [1]) (en := PyData.str) (q_isL (q_fzs (q_met (q_vf rfl) rfl (q_cons q_c q_nil st_sv tr_sv) st_sv tr_sv (trs_cons tr_sv trs_nil) (gSplit_ok h1)) ((frz_L frz_F) v1))) h3 rfl (fun x1 y hy => by obtain ⟨v2, h2, hy⟩ := R.bind_ok hy; obtain rfl := R.inj hy; exact ⟨⟨[tr (zS text_), tr (zS x1)], [zS text_]⟩, _, rfl, (q_fnr (R := []) (q_cons (q_vf rfl) q_nil st_sv tr_sv) (trs_cons tr_sv trs_nil) rfl (by decide) (q_t_word_in h2) (pb_sv pb_nil)), rfl⟩) rfl)) q_nil st_sv tr_sv) (trs_cons tr_sv trs_nil) (gTup_l sql_F))) (.inl rfl)
def t_paper_by (words_ : (List Str)) : R (PyData) := (ixR words_ (0 : Int)).bind fun v1 => (shaR (PyData.str v1)).bind fun v2 => (shaR (PyData.str ("call" : Str))).bind fun v3 => if ((decide (v1 = ("call" : Str))) && (decide ((words_.length : Int) = (4 : Int)))) = true then ((ixR words_ (1 : Int)).bind fun v4 => (t_rows_in v4 ("," : Str)).bind fun v5 => (ixR words_ (2 : Int)).bind fun v6 => (t_word_in v6).bind fun v7 => (ixR words_ (3 : Int)).bind fun v8 => (t_number_in v8).bind fun v9 => R.ok ((dT dA) ([(PyData.str ("call" : Str)), ((dT (dT PyData.int)) v5), (PyData.str v7), (PyData.int v9)] : (List PyData)))) else ((ixR words_ (0 : Int)).bind fun v10 => (shaR (PyData.str v10)).bind fun v11 => (shaR (PyData.str ("beat" : Str))).bind fun v12 => if ((decide (v10 = ("beat" : Str))) && (decide ((words_.length : Int) = (3 : Int)))) = true then ((ixR words_ (1 : Int)).bind fun v13 => (t_number_in v13).bind fun v14 => (ixR words_ (2 : Int)).bind fun v15 => (t_numbers_in v15).bind fun v16 => R.ok ((dQ PyData.str PyData.int (dT PyData.int)) (("beat" : Str), v14, v16))) else ((ixR words_ (0 : Int)).bind fun v17 => (shaR (PyData.str v17)).bind fun v18 => (shaR (PyData.str ("never" : Str))).bind fun v19 => if ((decide (v17 = ("never" : Str))) && (decide ((words_.length : Int) = (2 : Int)))) = true then ((ixR words_ (1 : Int)).bind fun v20 => (t_pairs_in v20).bind fun v21 => R.ok ((dP PyData.str (dT (dT PyData.int))) (("never" : Str), v21))) else ((ixR words_ (0 : Int)).bind fun v22 => (shaR (PyData.str v22)).bind fun v23 => (shaR (PyData.str ("stable" : Str))).bind fun v24 => if ((decide (v22 = ("stable" : Str))) && (decide ((words_.length : Int) = (3 : Int)))) = true then ((ixR words_ (1 : Int)).bind fun v25 => (t_pairs_in v25).bind fun v26 => (ixR words_ (2 : Int)).bind fun v27 => (t_words_in v27).bind fun v28 => R.ok ((dQ PyData.str (dT (dT PyData.int)) (dT PyData.str)) (("stable" : Str), v26, v28))) else (R.fail))))
theorem q_t_paper_by {words_ : (List Str)} {out : (PyData)} (h : t_paper_by words_ = .ok out) : m_paper_by [(sL zS) words_] = .ret (zA out) [(sL zS) words_] := by
 unfold t_paper_by at h
 refine runFn_fin ⟨rfl, by decide⟩ ?_
 unfold b_paper_by
 obtain ⟨v1, h1, h⟩ := R.bind_ok h
 obtain ⟨v2, h2, h⟩ := R.bind_ok h
 obtain ⟨v3, h3, h⟩ := R.bind_ok h
 refine sim_mid ?_
 refine sim_if (q_landp (q_tv (q_op2 (q_ix (q_va (j := 0) rfl rfl) q_c st_pk (tr_pk rfl) tr_sv (gIx_F h1)) q_c st_sv tr_sv tr_sv (gEq_v (x := v1) (y := ("call" : Str)) fai_s vw_fz vw_fz (shaR_ok h2) (shaR_ok h3))) tr_sv) (q_tv (q_op2 (q_callB (q_cons (q_va (j := 0) rfl rfl) q_nil st_pk (tr_pk rfl)) (trs_cons (tr_pk rfl) trs_nil) (gLen_l len_sL)) q_c st_sv tr_sv tr_sv (gEq_v (x := (words_.length : Int)) (y := (4 : Int)) fai_i vw_fz vw_fz (sha_ok sha_i (by decide) _) (sha_ok sha_i (by decide) _))) tr_sv)) (fun hb => ?_) (fun hb => ?_)
 ·replace h := ite_t hb h
  obtain ⟨v4, h4, h⟩ := R.bind_ok h
  obtain ⟨v5, h5, h⟩ := R.bind_ok h
  obtain ⟨v6, h6, h⟩ := R.bind_ok h
  obtain ⟨v7, h7, h⟩ := R.bind_ok h
  obtain ⟨v8, h8, h⟩ := R.bind_ok h
  obtain ⟨v9, h9, h⟩ := R.bind_ok h
  obtain rfl := R.inj h
  exact sim_ret (q_ret (q_tupE (d := (dT dA) ([(PyData.str ("call" : Str)), (zD v5), (PyData.str v7), (PyData.int v9)] : (List PyData))) (q_cons q_c (q_cons (q_fzs (q_fnr (R := []) (q_cons (q_ix (q_va (j := 0) rfl rfl) q_c st_pk (tr_pk rfl) tr_sv (gIx_F h4)) (q_cons q_c q_nil st_sv tr_sv) st_sv tr_sv) (trs_cons tr_sv (trs_cons tr_sv trs_nil)) rfl (by decide) (q_t_rows_in h5) (pb_sv (pb_sv pb_nil))) frz_fz) (q_cons (q_fzs (q_fnr (R := []) (q_cons (q_ix (q_va (j := 0) rfl rfl) q_c st_pk (tr_pk rfl) tr_sv (gIx_F h6)) q_nil st_sv tr_sv) (trs_cons tr_sv trs_nil) rfl (by decide) (q_t_word_in h7) (pb_sv pb_nil)) frz_fz) (q_cons (q_fzs (q_fnr (R := []) (q_cons (q_ix (q_va (j := 0) rfl rfl) q_c st_pk (tr_pk rfl) tr_sv (gIx_F h8)) q_nil st_sv tr_sv) (trs_cons tr_sv trs_nil) rfl (by decide) (q_t_number_in h9) (pb_sv pb_nil)) frz_fz) q_nil st_sv tr_sv) st_sv tr_sv) st_sv tr_sv) st_sv tr_sv) rfl (Nat.le_of_ble_eq_true rfl) rfl)) (mid_rt (.inl rfl))
 ·replace h := ite_f hb h
  refine sim_last rfl ?_
  refine mid_nx ?_
  obtain ⟨v10, h10, h⟩ := R.bind_ok h
  obtain ⟨v11, h11, h⟩ := R.bind_ok h
  obtain ⟨v12, h12, h⟩ := R.bind_ok h
  refine sim_mid ?_
  refine sim_if (q_landp (q_tv (q_op2 (q_ix (q_va (j := 0) rfl rfl) q_c st_pk (tr_pk rfl) tr_sv (gIx_F h10)) q_c st_sv tr_sv tr_sv (gEq_v (x := v10) (y := ("beat" : Str)) fai_s vw_fz vw_fz (shaR_ok h11) (shaR_ok h12))) tr_sv) (q_tv (q_op2 (q_callB (q_cons (q_va (j := 0) rfl rfl) q_nil st_pk (tr_pk rfl)) (trs_cons (tr_pk rfl) trs_nil) (gLen_l len_sL)) q_c st_sv tr_sv tr_sv (gEq_v (x := (words_.length : Int)) (y := (3 : Int)) fai_i vw_fz vw_fz (sha_ok sha_i (by decide) _) (sha_ok sha_i (by decide) _))) tr_sv)) (fun hb => ?_) (fun hb => ?_)
  ·replace h := ite_t hb h
   obtain ⟨v13, h13, h⟩ := R.bind_ok h
   obtain ⟨v14, h14, h⟩ := R.bind_ok h
   obtain ⟨v15, h15, h⟩ := R.bind_ok h
   obtain ⟨v16, h16, h⟩ := R.bind_ok h
   obtain rfl := R.inj h
   exact sim_ret (q_ret (q_tupE (d := (dQ PyData.str PyData.int zE) (("beat" : Str), v14, v16)) (q_cons q_c (q_cons (q_fzs (q_fnr (R := []) (q_cons (q_ix (q_va (j := 0) rfl rfl) q_c st_pk (tr_pk rfl) tr_sv (gIx_F h13)) q_nil st_sv tr_sv) (trs_cons tr_sv trs_nil) rfl (by decide) (q_t_number_in h14) (pb_sv pb_nil)) frz_fz) (q_cons (q_fzs (q_fnr (R := []) (q_cons (q_ix (q_va (j := 0) rfl rfl) q_c st_pk (tr_pk rfl) tr_sv (gIx_F h15)) q_nil st_sv tr_sv) (trs_cons tr_sv trs_nil) rfl (by decide) (q_t_numbers_in h16) (pb_sv pb_nil)) frz_fz) q_nil st_sv tr_sv) st_sv tr_sv) st_sv tr_sv) rfl (Nat.le_of_ble_eq_true rfl) rfl)) (mid_rt (.inl rfl))
  ·replace h := ite_f hb h
   refine sim_last rfl ?_
   refine mid_nx ?_
   obtain ⟨v17, h17, h⟩ := R.bind_ok h
   obtain ⟨v18, h18, h⟩ := R.bind_ok h
   obtain ⟨v19, h19, h⟩ := R.bind_ok h
   refine sim_mid ?_
   refine sim_if (q_landp (q_tv (q_op2 (q_ix (q_va (j := 0) rfl rfl) q_c st_pk (tr_pk rfl) tr_sv (gIx_F h17)) q_c st_sv tr_sv tr_sv (gEq_v (x := v17) (y := ("never" : Str)) fai_s vw_fz vw_fz (shaR_ok h18) (shaR_ok h19))) tr_sv) (q_tv (q_op2 (q_callB (q_cons (q_va (j := 0) rfl rfl) q_nil st_pk (tr_pk rfl)) (trs_cons (tr_pk rfl) trs_nil) (gLen_l len_sL)) q_c st_sv tr_sv tr_sv (gEq_v (x := (words_.length : Int)) (y := (2 : Int)) fai_i vw_fz vw_fz (sha_ok sha_i (by decide) _) (sha_ok sha_i (by decide) _))) tr_sv)) (fun hb => ?_) (fun hb => ?_)
   ·replace h := ite_t hb h
    obtain ⟨v20, h20, h⟩ := R.bind_ok h
    obtain ⟨v21, h21, h⟩ := R.bind_ok h
    obtain rfl := R.inj h
    exact sim_ret (q_ret (q_tupE (d := (dP PyData.str zD) (("never" : Str), v21)) (q_cons q_c (q_cons (q_fzs (q_fnr (R := []) (q_cons (q_ix (q_va (j := 0) rfl rfl) q_c st_pk (tr_pk rfl) tr_sv (gIx_F h20)) q_nil st_sv tr_sv) (trs_cons tr_sv trs_nil) rfl (by decide) (q_t_pairs_in h21) (pb_sv pb_nil)) frz_fz) q_nil st_sv tr_sv) st_sv tr_sv) rfl (Nat.le_of_ble_eq_true rfl) rfl)) (mid_rt (.inl rfl))
   ·replace h := ite_f hb h
    refine sim_last rfl ?_
    refine mid_nx ?_
    obtain ⟨v22, h22, h⟩ := R.bind_ok h
    obtain ⟨v23, h23, h⟩ := R.bind_ok h
    obtain ⟨v24, h24, h⟩ := R.bind_ok h
    refine sim_mid ?_
    refine sim_if (q_landp (q_tv (q_op2 (q_ix (q_va (j := 0) rfl rfl) q_c st_pk (tr_pk rfl) tr_sv (gIx_F h22)) q_c st_sv tr_sv tr_sv (gEq_v (x := v22) (y := ("stable" : Str)) fai_s vw_fz vw_fz (shaR_ok h23) (shaR_ok h24))) tr_sv) (q_tv (q_op2 (q_callB (q_cons (q_va (j := 0) rfl rfl) q_nil st_pk (tr_pk rfl)) (trs_cons (tr_pk rfl) trs_nil) (gLen_l len_sL)) q_c st_sv tr_sv tr_sv (gEq_v (x := (words_.length : Int)) (y := (3 : Int)) fai_i vw_fz vw_fz (sha_ok sha_i (by decide) _) (sha_ok sha_i (by decide) _))) tr_sv)) (fun hb => ?_) (fun hb => ?_)
    ·replace h := ite_t hb h
     obtain ⟨v25, h25, h⟩ := R.bind_ok h
     obtain ⟨v26, h26, h⟩ := R.bind_ok h
     obtain ⟨v27, h27, h⟩ := R.bind_ok h
     obtain ⟨v28, h28, h⟩ := R.bind_ok h
     obtain rfl := R.inj h
     exact sim_ret (q_ret (q_tupE (d := (dQ PyData.str zD (dT PyData.str)) (("stable" : Str), v26, v28)) (q_cons q_c (q_cons (q_fzs (q_fnr (R := []) (q_cons (q_ix (q_va (j := 0) rfl rfl) q_c st_pk (tr_pk rfl) tr_sv (gIx_F h25)) q_nil st_sv tr_sv) (trs_cons tr_sv trs_nil) rfl (by decide) (q_t_pairs_in h26) (pb_sv pb_nil)) frz_fz) (q_cons (q_fzs (q_fnr (R := []) (q_cons (q_ix (q_va (j := 0) rfl rfl) q_c st_pk (tr_pk rfl) tr_sv (gIx_F h27)) q_nil st_sv tr_sv) (trs_cons tr_sv trs_nil) rfl (by decide) (q_t_words_in h28) (pb_sv pb_nil)) frz_fz) q_nil st_sv tr_sv) st_sv tr_sv) st_sv tr_sv) rfl (Nat.le_of_ble_eq_true rfl) rfl)) (mid_rt (.inl rfl))
    ·replace h := ite_f hb h
     refine sim_last rfl ?_
     refine mid_nx ?_
     cases h
def t_read_paper (text_ : Str) : R (PyData) := (splitR text_ (" " : Str)).bind fun v1 => (t_paper_by v1).bind fun v2 => R.ok v2
theorem q_t_read_paper {text_ : Str} {out : (PyData)} (h : t_read_paper text_ = .ok out) : m_read_paper [zS text_] = .ret (zA out) [zS text_] := by
 unfold t_read_paper at h
 refine runFn_fin ⟨rfl, by decide⟩ ?_
 unfold b_read_paper
 refine sim_mid ?_
 refine sim_if (q_lnot (q_tv (q_isi (q_vf rfl) tr_sv rfl rfl) tr_sv)) (fun hb => by cases hb) (fun hb => ?_)
 refine sim_last rfl ?_
 refine mid_nx ?_
 obtain ⟨v1, h1, h⟩ := R.bind_ok h
 obtain ⟨v2, h2, h⟩ := R.bind_ok h
 obtain rfl := R.inj h
 exact sim_ret (q_ret (q_fnr (R := []) (q_cons (q_met (q_vf rfl) rfl (q_cons q_c q_nil st_sv tr_sv) st_sv tr_sv (trs_cons tr_sv trs_nil) (gSplit_ok h1)) q_nil st_sv tr_sv) (trs_cons tr_sv trs_nil) rfl (by decide) (q_t_paper_by h2) (pb_sv pb_nil))) (.inl rfl)
end U
set_option maxRecDepth 100000
set_option maxHeartbeats 4000000
namespace U
open PySem PySem.Spec Y D
open L2 (atI ixN)
def x_rows_in (text_ : Str) (between_ : Str) : R Str := (splitR text_ between_).bind fun v1 => (t_are_written_rows v1).bind fun v2 => if (!v2) = true then (R.ok "NoText") else (R.fail)
theorem qx_x_rows_in {text_ : Str} {between_ : Str} {c : Str} (h : x_rows_in text_ between_ = .ok c) : m_rows_in [zS text_, zS between_] = .exc c none [zS text_, zS between_] := by
 unfold x_rows_in at h
 refine runFn_exc ⟨rfl, by decide⟩ ?_
 unfold b_rows_in
 obtain ⟨v1, h1, h⟩ := R.bind_ok h
 refine sim_seq (q_asg (q_met (q_vf rfl) rfl (q_cons (q_vf rfl) q_nil st_sv tr_sv) st_sv tr_sv (trs_cons tr_sv trs_nil) (gSplit_ok h1)) rfl) ?_
 obtain ⟨v2, h2, h⟩ := R.bind_ok h
 refine sim_mid ?_
 refine sim_if (q_lnot (q_tv (q_fnr (R := [.s 2]) (q_cons (q_vl rfl) q_nil st_pk (tr_pk rfl)) (trs_cons (tr_pk rfl) trs_nil) rfl (by decide) (q_t_are_written_rows h2) (pb_pk rfl pb_nil)) tr_sv)) (fun hb => ?_) (fun hb => ?_)
 ·replace h := ite_t hb h
  obtain rfl := R.inj h
  exact sim_exL rfl (mid_ex ⟨_, rfl, rfl⟩)
 ·replace h := ite_f hb h
  cases h
def t__law_figures_L1 (many_ : Int) (most_ : Int) (s : (Str × (List Int))) (x : Int) : R (Str × (List Int)) := (t__law_take s.2 most_).bind fun v2 => (sixR ("0123456789" : Str) v2.1).bind fun v3 => (scatR s.1 v3).bind fun v4 => R.ok (v4, v2.2)
def st__law_figures_L1 (many_ : Int) (most_ : Int) (s : (Str × zG)) (S : DS) : Prop := ∃ w1 : Option Sl, S = ⟨[ar 0, tr (zI many_), tr (zI most_), tr (zS s.1), w1], [zL s.2, zI many_, zI most_]⟩
theorem q_t__law_figures_L1 {many_ : Int} {most_ : Int} : ∀ (s : (Str × zG)) (x : Int) (c : (Str × zG)) (S : DS), st__law_figures_L1 many_ most_ s S → t__law_figures_L1 many_ most_ s x = .ok c → ∃ S1, (gSet 4) (.fz (PyData.int x)) S = .nx S1 ∧ Sim (f1__law_figures S1) (NxP (st__law_figures_L1 many_ most_) c) := by
 rintro s x c _ ⟨w1, rfl⟩ h
 unfold t__law_figures_L1 at h
 refine ⟨⟨[ar 0, tr (zI many_), tr (zI most_), tr (zS s.1), tr (zI x)], [zL s.2, zI many_, zI most_]⟩, rfl, ?_⟩
 unfold f1__law_figures
 obtain ⟨v2, h2, h⟩ := R.bind_ok h
 obtain ⟨v3, h3, h⟩ := R.bind_ok h
 obtain ⟨v4, h4, h⟩ := R.bind_ok h
 refine sim_last (q_asg (q_op2 (q_vf rfl) (q_ix q_c (q_fnr (R := [.a 0]) (q_cons (q_va (j := 0) rfl rfl) (q_cons (q_vf rfl) q_nil st_sv tr_sv) st_pk (tr_pk rfl)) (trs_cons (tr_pk rfl) (trs_cons tr_sv trs_nil)) rfl (by decide) (q_t__law_take h2) (pb_pk rfl (pb_sv pb_nil))) st_sv tr_sv tr_sv (gIx_S h3)) st_sv tr_sv tr_sv (gAdd_s h4)) rfl) ?_
 obtain rfl := R.inj h
 exact ⟨_, .inl rfl, ⟨_, rfl⟩⟩
def t__law_figures (bag_here_ : (List Int)) (many_ : Int) (most_ : Int) : R (Str × (List Int)) := (rngR 0 many_).bind fun v1 => (forR (t__law_figures_L1 many_ most_) v1 (("" : Str), bag_here_)).bind fun r5 => R.ok (r5.1, r5.2)
theorem q_t__law_figures {bag_here_ : zG} {many_ : Int} {most_ : Int} {out : (Str × zG)} (h : t__law_figures bag_here_ many_ most_ = .ok out) : m__law_figures [zL bag_here_, zI many_, zI most_] = .ret (zS out.1) [zL out.2, zI many_, zI most_] := by
 unfold t__law_figures at h
 refine runFn_fin ⟨rfl, by decide⟩ ?_
 unfold b__law_figures
 refine sim_seq (q_asg q_c rfl) ?_
 obtain ⟨v1, h1, h⟩ := R.bind_ok h
 obtain ⟨r5, h5, h⟩ := R.bind_ok h
 obtain ⟨_, e1, o1, rfl⟩ := for_r (en := PyData.int) q_t__law_figures_L1 _ _ _ _ (show st__law_figures_L1 many_ most_ (("" : Str), bag_here_) ⟨[ar 0, tr (zI many_), tr (zI most_), tr (zS ("" : Str)), none], [zL bag_here_, zI many_, zI most_]⟩ from ⟨_, rfl⟩) h5
 refine sim_seq ((forI (q_ir1 (q_cons (q_vf rfl) q_nil st_sv tr_sv) h1)).trans e1) ?_
 obtain rfl := R.inj h
 exact sim_ret (q_ret (q_mvs (q_vf rfl))) (.inl rfl)
def t__law_said_L1 (s : (Str × (List Int))) (x : Int) : R (Str × (List Int)) := (t__law_take s.2 (3 : Int)).bind fun v3 => (sixR ("abc" : Str) v3.1).bind fun v4 => (scatR s.1 v4).bind fun v5 => R.ok (v5, v3.2)
def st__law_said_L1 (s : (Str × zG)) (S : DS) : Prop := ∃ w1 : Option Sl, S = ⟨[ar 0, tr (zS s.1), w1], [zL s.2]⟩
theorem q_t__law_said_L1 : ∀ (s : (Str × zG)) (x : Int) (c : (Str × zG)) (S : DS), st__law_said_L1 s S → t__law_said_L1 s x = .ok c → ∃ S1, (gSet 2) (.fz (PyData.int x)) S = .nx S1 ∧ Sim (f1__law_said S1) (NxP (st__law_said_L1) c) := by
 rintro s x c _ ⟨w1, rfl⟩ h
 unfold t__law_said_L1 at h
 refine ⟨⟨[ar 0, tr (zS s.1), tr (zI x)], [zL s.2]⟩, rfl, ?_⟩
 unfold f1__law_said
 obtain ⟨v3, h3, h⟩ := R.bind_ok h
 obtain ⟨v4, h4, h⟩ := R.bind_ok h
 obtain ⟨v5, h5, h⟩ := R.bind_ok h
 refine sim_last (q_asg (q_op2 (q_vf rfl) (q_ix q_c (q_fnr (R := [.a 0]) (q_cons (q_va (j := 0) rfl rfl) (q_cons q_c q_nil st_sv tr_sv) st_pk (tr_pk rfl)) (trs_cons (tr_pk rfl) (trs_cons tr_sv trs_nil)) rfl (by decide) (q_t__law_take h3) (pb_pk rfl (pb_sv pb_nil))) st_sv tr_sv tr_sv (gIx_S h4)) st_sv tr_sv tr_sv (gAdd_s h5)) rfl) ?_
 obtain rfl := R.inj h
 exact ⟨_, .inl rfl, ⟨_, rfl⟩⟩
def t__law_said (bag_here_ : (List Int)) : R (Str × (List Int)) := (t__law_take bag_here_ (6 : Int)).bind fun v1 => (rngR 0 v1.1).bind fun v2 => (forR (t__law_said_L1) v2 (("" : Str), v1.2)).bind fun r6 => (t__law_take r6.2 (32 : Int)).bind fun v7 => (if (decide (v7.1 = (3 : Int))) = true then ((t__law_take v7.2 (3 : Int)).bind fun v8 => (srepR ("b" : Str) ((1999 : Int) + v8.1)).bind fun v9 => R.ok (v9, v8.2)) else (R.ok (r6.1, v7.2))).bind fun (s2 : (Str × (List Int))) => (shaR (PyData.str s2.1)).bind fun v10 => (shaR (PyData.str ("" : Str))).bind fun v11 => (if (!(decide (s2.1 = ("" : Str)))) = true then (R.ok s2.1) else (R.ok ("-" : Str))).bind fun v12 => R.ok (v12, s2.2)
theorem q_t__law_said {bag_here_ : zG} {out : (Str × zG)} (h : t__law_said bag_here_ = .ok out) : m__law_said [zL bag_here_] = .ret (zS out.1) [zL out.2] := by
 unfold t__law_said at h
 refine runFn_fin ⟨rfl, by decide⟩ ?_
 unfold b__law_said
 refine sim_seq (q_asg q_c rfl) ?_
 obtain ⟨v1, h1, h⟩ := R.bind_ok h
 obtain ⟨v2, h2, h⟩ := R.bind_ok h
 obtain ⟨r6, h6, h⟩ := R.bind_ok h
 obtain ⟨_, e1, o1, rfl⟩ := for_r (en := PyData.int) q_t__law_said_L1 _ _ _ _ (show st__law_said_L1 (("" : Str), v1.2) ⟨[ar 0, tr (zS ("" : Str)), none], [zL v1.2]⟩ from ⟨_, rfl⟩) h6
 refine sim_seq ((forI (q_ir1 (q_cons (q_fnr (R := [.a 0]) (q_cons (q_va (j := 0) rfl rfl) (q_cons q_c q_nil st_sv tr_sv) st_pk (tr_pk rfl)) (trs_cons (tr_pk rfl) (trs_cons tr_sv trs_nil)) rfl (by decide) (q_t__law_take h1) (pb_pk rfl (pb_sv pb_nil))) q_nil st_sv tr_sv) h2)).trans e1) ?_
 obtain ⟨v7, h7, h⟩ := R.bind_ok h
 obtain ⟨s2, hj, h⟩ := R.bind_ok h
 refine sim_join (St := (fun (sj : (Str × zG)) S => S = ⟨[ar 0, tr (zS sj.1), o1], [zL sj.2]⟩)) (s := s2) ?_ ?_
 ·refine sim_if (q_tv (q_op2 (q_fnr (R := [.a 0]) (q_cons (q_va (j := 0) rfl rfl) (q_cons q_c q_nil st_sv tr_sv) st_pk (tr_pk rfl)) (trs_cons (tr_pk rfl) (trs_cons tr_sv trs_nil)) rfl (by decide) (q_t__law_take h7) (pb_pk rfl (pb_sv pb_nil))) q_c st_sv tr_sv tr_sv (gEq_v (x := v7.1) (y := (3 : Int)) fai_i vw_fz vw_fz (sha_ok sha_i (by decide) _) (sha_ok sha_i (by decide) _))) tr_sv) (fun hb => ?_) (fun hb => ?_)
  ·replace hj := ite_t hb hj
   obtain ⟨v8, h8, hj⟩ := R.bind_ok hj
   obtain ⟨v9, h9, hj⟩ := R.bind_ok hj
   refine sim_last (q_asg (q_op2 q_c (q_op2 q_c (q_fnr (R := [.a 0]) (q_cons (q_va (j := 0) rfl rfl) (q_cons q_c q_nil st_sv tr_sv) st_pk (tr_pk rfl)) (trs_cons (tr_pk rfl) (trs_cons tr_sv trs_nil)) rfl (by decide) (q_t__law_take h8) (pb_pk rfl (pb_sv pb_nil))) st_sv tr_sv tr_sv gAdd_i) st_sv tr_sv tr_sv (gMul_s h9)) rfl) ?_
   obtain rfl := R.inj hj
   exact ⟨_, rfl, rfl⟩
  ·replace hj := ite_f hb hj
   refine sim_last rfl ?_
   obtain rfl := R.inj hj
   exact ⟨_, rfl, rfl⟩
 rintro _ rfl
 obtain ⟨v10, h10, h⟩ := R.bind_ok h
 obtain ⟨v11, h11, h⟩ := R.bind_ok h
 obtain ⟨v12, h12, h⟩ := R.bind_ok h
 obtain rfl := R.inj h
 exact sim_ret (q_ret (q_fzs (q_if0 (z := zS v12) (q_tv (q_op2 (q_vf rfl) q_c st_sv tr_sv tr_sv (gNe_v (x := s2.1) (y := ("" : Str)) fai_s vw_fz vw_fz (shaR_ok h10) (shaR_ok h11))) tr_sv) (fun hb => by have g := ite_t hb h12; obtain rfl := R.inj g; exact EJ.up (q_fzs (q_vf rfl) frz_fz) (by decide)) (fun hb => by have g := ite_f hb h12; obtain rfl := R.inj g; exact EJ.up q_c (by decide))) frz_fz)) (.inl rfl)
def t__law_number_2 (bag_here_ : (List Int)) : R (Str × (List Int)) := (t__law_take bag_here_ (10 : Int)).bind fun v1 => (powR (10 : Int) (60 : Int)).bind fun v2 => (t__law_take v1.2 v2).bind fun v3 => (t__law_take v3.2 (9 : Int)).bind fun v4 => (t__law_take v4.2 (4 : Int)).bind fun v5 => (ixR ([v1.1, v3.1, (0 : Int), v4.1] : (List Int)) v5.1).bind fun v6 => (strIR v6).bind fun v7 => R.ok (v7, v5.2)
theorem q_t__law_number_2 {bag_here_ : zG} {out : (Str × zG)} (h : t__law_number_2 bag_here_ = .ok out) : m__law_number_2 [zL bag_here_] = .ret (zS out.1) [zL out.2] := by
 unfold t__law_number_2 at h
 refine runFn_fin ⟨rfl, by decide⟩ ?_
 unfold b__law_number_2
 obtain ⟨v1, h1, h⟩ := R.bind_ok h
 obtain ⟨v2, h2, h⟩ := R.bind_ok h
 obtain ⟨v3, h3, h⟩ := R.bind_ok h
 obtain ⟨v4, h4, h⟩ := R.bind_ok h
 obtain ⟨v5, h5, h⟩ := R.bind_ok h
 obtain ⟨v6, h6, h⟩ := R.bind_ok h
 obtain ⟨v7, h7, h⟩ := R.bind_ok h
 obtain rfl := R.inj h
 exact sim_ret (q_ret (q_callB (q_cons (q_ix (q_lstE (en := zI) (xs := [v1.1, v3.1, (0 : Int), v4.1]) (q_cons (q_fnr (R := [.a 0]) (q_cons (q_va (j := 0) rfl rfl) (q_cons q_c q_nil st_sv tr_sv) st_pk (tr_pk rfl)) (trs_cons (tr_pk rfl) (trs_cons tr_sv trs_nil)) rfl (by decide) (q_t__law_take h1) (pb_pk rfl (pb_sv pb_nil))) (q_cons (q_fnr (R := [.a 0]) (q_cons (q_va (j := 0) rfl rfl) (q_cons (q_op2 q_c q_c st_sv tr_sv tr_sv (gPow_i h2)) q_nil st_sv tr_sv) st_pk (tr_pk rfl)) (trs_cons (tr_pk rfl) (trs_cons tr_sv trs_nil)) rfl (by decide) (q_t__law_take h3) (pb_pk rfl (pb_sv pb_nil))) (q_cons q_c (q_cons (q_fnr (R := [.a 0]) (q_cons (q_va (j := 0) rfl rfl) (q_cons q_c q_nil st_sv tr_sv) st_pk (tr_pk rfl)) (trs_cons (tr_pk rfl) (trs_cons tr_sv trs_nil)) rfl (by decide) (q_t__law_take h4) (pb_pk rfl (pb_sv pb_nil))) q_nil st_sv tr_sv) st_sv tr_sv) st_sv tr_sv) st_sv tr_sv) rfl (Nat.le_of_ble_eq_true rfl)) (q_fnr (R := [.a 0]) (q_cons (q_va (j := 0) rfl rfl) (q_cons q_c q_nil st_sv tr_sv) st_pk (tr_pk rfl)) (trs_cons (tr_pk rfl) (trs_cons tr_sv trs_nil)) rfl (by decide) (q_t__law_take h5) (pb_pk rfl (pb_sv pb_nil))) st_sv tr_sv tr_sv (gIx_F h6)) q_nil st_sv tr_sv) (trs_cons tr_sv trs_nil) (gStrF_i h7))) (.inl rfl)
def t__law_text_2 (bag_here_ : (List Int)) : R (Str × (List Int)) := (t__law_take bag_here_ (4 : Int)).bind fun v1 => (t__law_take v1.2 (9 : Int)).bind fun v2 => (t__law_take v2.2 (8 : Int)).bind fun v3 => if (decide (v1.1 = (0 : Int))) = true then ((t__law_take v3.2 (2 : Int)).bind fun v4 => (rngR 0 (((1 : Int) + v2.1) + (bI (decide (v3.1 = (1 : Int)))))).bind fun v5 => (lcS v5 (v4.2) fun (s : ((List Int))) (x1 : Int) => (t__law_figures s ((2 : Int) + v4.1) (9 : Int)).bind fun v6 => R.ok ((v6.2), v6.1)).bind fun v7 => (t__law_take v7.1 (8 : Int)).bind fun v8 => (if (decide (v8.1 = (1 : Int))) = true then ((t__law_figures v8.2 ((5 : Int) - ((2 : Int) + v4.1)) (9 : Int)).bind fun v9 => (appR v7.2 v9.1).bind fun v10 => R.ok (v10, v9.2)) else (R.ok (v7.2, v8.2))).bind fun (s2 : ((List Str) × (List Int))) => (joinR ("," : Str) s2.1).bind fun v11 => (scatR ("call " : Str) v11).bind fun v12 => (scatR v12 (" " : Str)).bind fun v13 => (t__law_said s2.2).bind fun v14 => (scatR v13 v14.1).bind fun v15 => (scatR v15 (" " : Str)).bind fun v16 => (t__law_number_2 v14.2).bind fun v17 => (scatR v16 v17.1).bind fun v18 => R.ok (v18, v17.2)) else (if (decide (v1.1 = (1 : Int))) = true then ((t__law_number_2 v3.2).bind fun v19 => (scatR ("beat " : Str) v19.1).bind fun v20 => (scatR v20 (" " : Str)).bind fun v21 => (t__law_figures v19.2 (((1 : Int) + v2.1) + (bI (decide (v3.1 = (1 : Int))))) (9 : Int)).bind fun v22 => (scatR v21 v22.1).bind fun v23 => R.ok (v23, v22.2)) else ((rngR 0 (((1 : Int) + v2.1) + (bI (decide (v3.1 = (1 : Int)))))).bind fun v24 => (lcS v24 (v3.2) fun (s : ((List Int))) (x3 : Int) => (t__law_figures s (2 : Int) (9 : Int)).bind fun v25 => R.ok ((v25.2), v25.1)).bind fun v26 => (joinR ("," : Str) v26.2).bind fun v27 => if (decide (v1.1 = (2 : Int))) = true then ((scatR ("never " : Str) v27).bind fun v28 => R.ok (v28, v26.1)) else ((t__law_take v26.1 (2 : Int)).bind fun v29 => (scatR ("stable " : Str) v27).bind fun v30 => (scatR v30 (" " : Str)).bind fun v31 => (rngR 0 ((((1 : Int) + v2.1) + (bI (decide (v3.1 = (1 : Int))))) + v29.1)).bind fun v32 => (lcS v32 (v29.2) fun (s : ((List Int))) (x4 : Int) => (t__law_said s).bind fun v33 => R.ok ((v33.2), v33.1)).bind fun v34 => (joinR ("," : Str) v34.2).bind fun v35 => (scatR v31 v35).bind fun v36 => R.ok (v36, v34.1))))
theorem q_t__law_text_2 {bag_here_ : zG} {out : (Str × zG)} (h : t__law_text_2 bag_here_ = .ok out) : m__law_text_2 [zL bag_here_] = .ret (zS out.1) [zL out.2] := by
 unfold t__law_text_2 at h
 refine runFn_fin ⟨rfl, by decide⟩ ?_
 unfold b__law_text_2
 obtain ⟨v1, h1, h⟩ := R.bind_ok h
 refine sim_seq (q_asg (q_fnr (R := [.a 0]) (q_cons (q_va (j := 0) rfl rfl) (q_cons q_c q_nil st_sv tr_sv) st_pk (tr_pk rfl)) (trs_cons (tr_pk rfl) (trs_cons tr_sv trs_nil)) rfl (by decide) (q_t__law_take h1) (pb_pk rfl (pb_sv pb_nil))) rfl) ?_
 obtain ⟨v2, h2, h⟩ := R.bind_ok h
 obtain ⟨v3, h3, h⟩ := R.bind_ok h
 refine sim_seq (q_asg (q_op2 (q_op2 q_c (q_fnr (R := [.a 0]) (q_cons (q_va (j := 0) rfl rfl) (q_cons q_c q_nil st_sv tr_sv) st_pk (tr_pk rfl)) (trs_cons (tr_pk rfl) (trs_cons tr_sv trs_nil)) rfl (by decide) (q_t__law_take h2) (pb_pk rfl (pb_sv pb_nil))) st_sv tr_sv tr_sv gAdd_i) (q_callB (q_cons (q_op2 (q_fnr (R := [.a 0]) (q_cons (q_va (j := 0) rfl rfl) (q_cons q_c q_nil st_sv tr_sv) st_pk (tr_pk rfl)) (trs_cons (tr_pk rfl) (trs_cons tr_sv trs_nil)) rfl (by decide) (q_t__law_take h3) (pb_pk rfl (pb_sv pb_nil))) q_c st_sv tr_sv tr_sv (gEq_v (x := v3.1) (y := (1 : Int)) fai_i vw_fz vw_fz (sha_ok sha_i (by decide) _) (sha_ok sha_i (by decide) _))) q_nil st_sv tr_sv) (trs_cons tr_sv trs_nil) gIntF_b) st_sv tr_sv tr_sv gAdd_i) rfl) ?_
 refine sim_mid ?_
 refine sim_if (q_tv (q_op2 (q_vf rfl) q_c st_sv tr_sv tr_sv (gEq_v (x := v1.1) (y := (0 : Int)) fai_i vw_fz vw_fz (sha_ok sha_i (by decide) _) (sha_ok sha_i (by decide) _))) tr_sv) (fun hb => ?_) (fun hb => ?_)
 ·replace h := ite_t hb h
  obtain ⟨v4, h4, h⟩ := R.bind_ok h
  refine sim_seq (q_asg (q_op2 q_c (q_fnr (R := [.a 0]) (q_cons (q_va (j := 0) rfl rfl) (q_cons q_c q_nil st_sv tr_sv) st_pk (tr_pk rfl)) (trs_cons (tr_pk rfl) (trs_cons tr_sv trs_nil)) rfl (by decide) (q_t__law_take h4) (pb_pk rfl (pb_sv pb_nil))) st_sv tr_sv tr_sv gAdd_i) rfl) ?_
  obtain ⟨v5, h5, h⟩ := R.bind_ok h
  obtain ⟨v7, h7, h⟩ := R.bind_ok h
  refine sim_seq (q_asg (q_lcS (vs := [5]) (en := PyData.int) (St := fun (s : (zG)) S => S = ⟨[ar 0, tr (zI v1.1), tr (zI (((1 : Int) + v2.1) + (bI (decide (v3.1 = (1 : Int)))))), tr (zI ((2 : Int) + v4.1)), none, none, none, none], [zL s]⟩) (S2 := ⟨[ar 0, tr (zI v1.1), tr (zI (((1 : Int) + v2.1) + (bI (decide (v3.1 = (1 : Int)))))), tr (zI ((2 : Int) + v4.1)), none, none, none, none], [zL v7.1]⟩) (q_ir1 (q_cons (q_vf rfl) q_nil st_sv tr_sv) h5) h7 rfl (by rintro s x1 y _ rfl hy; obtain ⟨v6, h6, hy⟩ := R.bind_ok hy; obtain rfl := R.inj hy; exact ⟨⟨[ar 0, tr (zI v1.1), tr (zI (((1 : Int) + v2.1) + (bI (decide (v3.1 = (1 : Int)))))), tr (zI ((2 : Int) + v4.1)), none, tr (zI x1), none, none], [zL s]⟩, _, rfl, (q_fnr (R := [.a 0]) (q_cons (q_va (j := 0) rfl rfl) (q_cons (q_vf rfl) (q_cons q_c q_nil st_sv tr_sv) st_sv tr_sv) st_pk (tr_pk rfl)) (trs_cons (tr_pk rfl) (trs_cons tr_sv (trs_cons tr_sv trs_nil))) rfl (by decide) (q_t__law_figures h6) (pb_pk rfl (pb_sv (pb_sv pb_nil)))), rfl⟩) (by rintro _ rfl; rfl)) rfl) ?_
  obtain ⟨v8, h8, h⟩ := R.bind_ok h
  obtain ⟨s2, hj, h⟩ := R.bind_ok h
  refine sim_join (St := (fun (sj : ((List Str) × zG)) S => S = ⟨[ar 0, tr (zI v1.1), tr (zI (((1 : Int) + v2.1) + (bI (decide (v3.1 = (1 : Int)))))), tr (zI ((2 : Int) + v4.1)), tr ((sL zS) sj.1), none, none, none], [zL sj.2]⟩)) (s := s2) ?_ ?_
  ·refine sim_if (q_tv (q_op2 (q_fnr (R := [.a 0]) (q_cons (q_va (j := 0) rfl rfl) (q_cons q_c q_nil st_sv tr_sv) st_pk (tr_pk rfl)) (trs_cons (tr_pk rfl) (trs_cons tr_sv trs_nil)) rfl (by decide) (q_t__law_take h8) (pb_pk rfl (pb_sv pb_nil))) q_c st_sv tr_sv tr_sv (gEq_v (x := v8.1) (y := (1 : Int)) fai_i vw_fz vw_fz (sha_ok sha_i (by decide) _) (sha_ok sha_i (by decide) _))) tr_sv) (fun hb => ?_) (fun hb => ?_)
   ·replace hj := ite_t hb hj
    obtain ⟨v9, h9, hj⟩ := R.bind_ok hj
    obtain ⟨v10, h10, hj⟩ := R.bind_ok hj
    refine sim_last (q_expr (q_appR (en := zS) (q_vl rfl) rfl (q_fnr (R := [.a 0]) (q_cons (q_va (j := 0) rfl rfl) (q_cons (q_op2 q_c (q_vf rfl) st_sv tr_sv tr_sv gSub_i) (q_cons q_c q_nil st_sv tr_sv) st_sv tr_sv) st_pk (tr_pk rfl)) (trs_cons (tr_pk rfl) (trs_cons tr_sv (trs_cons tr_sv trs_nil))) rfl (by decide) (q_t__law_figures h9) (pb_pk rfl (pb_sv (pb_sv pb_nil)))) rfl h10)) ?_
    obtain rfl := R.inj hj
    exact ⟨_, rfl, rfl⟩
   ·replace hj := ite_f hb hj
    refine sim_last rfl ?_
    obtain rfl := R.inj hj
    exact ⟨_, rfl, rfl⟩
  rintro _ rfl
  obtain ⟨v11, h11, h⟩ := R.bind_ok h
  obtain ⟨v12, h12, h⟩ := R.bind_ok h
  obtain ⟨v13, h13, h⟩ := R.bind_ok h
  obtain ⟨v14, h14, h⟩ := R.bind_ok h
  obtain ⟨v15, h15, h⟩ := R.bind_ok h
  obtain ⟨v16, h16, h⟩ := R.bind_ok h
  obtain ⟨v17, h17, h⟩ := R.bind_ok h
  obtain ⟨v18, h18, h⟩ := R.bind_ok h
  obtain rfl := R.inj h
  exact sim_ret (q_ret (q_op2 (q_op2 (q_op2 (q_op2 (q_op2 q_c (q_met q_c rfl (q_cons (q_vl rfl) q_nil st_pk (tr_pk rfl)) st_sv tr_sv (trs_cons (tr_pk rfl) trs_nil) (gJoin_ok sql_F h11)) st_sv tr_sv tr_sv (gAdd_s h12)) q_c st_sv tr_sv tr_sv (gAdd_s h13)) (q_fnr (R := [.a 0]) (q_cons (q_va (j := 0) rfl rfl) q_nil st_pk (tr_pk rfl)) (trs_cons (tr_pk rfl) trs_nil) rfl (by decide) (q_t__law_said h14) (pb_pk rfl pb_nil)) st_sv tr_sv tr_sv (gAdd_s h15)) q_c st_sv tr_sv tr_sv (gAdd_s h16)) (q_fnr (R := [.a 0]) (q_cons (q_va (j := 0) rfl rfl) q_nil st_pk (tr_pk rfl)) (trs_cons (tr_pk rfl) trs_nil) rfl (by decide) (q_t__law_number_2 h17) (pb_pk rfl pb_nil)) st_sv tr_sv tr_sv (gAdd_s h18))) (mid_rt (.inl rfl))
 ·replace h := ite_f hb h
  refine sim_last rfl ?_
  refine mid_nx ?_
  refine sim_mid ?_
  refine sim_if (q_tv (q_op2 (q_vf rfl) q_c st_sv tr_sv tr_sv (gEq_v (x := v1.1) (y := (1 : Int)) fai_i vw_fz vw_fz (sha_ok sha_i (by decide) _) (sha_ok sha_i (by decide) _))) tr_sv) (fun hb => ?_) (fun hb => ?_)
  ·replace h := ite_t hb h
   obtain ⟨v19, h19, h⟩ := R.bind_ok h
   obtain ⟨v20, h20, h⟩ := R.bind_ok h
   obtain ⟨v21, h21, h⟩ := R.bind_ok h
   obtain ⟨v22, h22, h⟩ := R.bind_ok h
   obtain ⟨v23, h23, h⟩ := R.bind_ok h
   obtain rfl := R.inj h
   exact sim_ret (q_ret (q_op2 (q_op2 (q_op2 q_c (q_fnr (R := [.a 0]) (q_cons (q_va (j := 0) rfl rfl) q_nil st_pk (tr_pk rfl)) (trs_cons (tr_pk rfl) trs_nil) rfl (by decide) (q_t__law_number_2 h19) (pb_pk rfl pb_nil)) st_sv tr_sv tr_sv (gAdd_s h20)) q_c st_sv tr_sv tr_sv (gAdd_s h21)) (q_fnr (R := [.a 0]) (q_cons (q_va (j := 0) rfl rfl) (q_cons (q_vf rfl) (q_cons q_c q_nil st_sv tr_sv) st_sv tr_sv) st_pk (tr_pk rfl)) (trs_cons (tr_pk rfl) (trs_cons tr_sv (trs_cons tr_sv trs_nil))) rfl (by decide) (q_t__law_figures h22) (pb_pk rfl (pb_sv (pb_sv pb_nil)))) st_sv tr_sv tr_sv (gAdd_s h23))) (mid_rt (.inl rfl))
  ·replace h := ite_f hb h
   refine sim_last rfl ?_
   refine mid_nx ?_
   obtain ⟨v24, h24, h⟩ := R.bind_ok h
   obtain ⟨v26, h26, h⟩ := R.bind_ok h
   obtain ⟨v27, h27, h⟩ := R.bind_ok h
   refine sim_seq (q_asg (q_met q_c rfl (q_cons (q_lcS (vs := [5]) (en := PyData.int) (St := fun (s : (zG)) S => S = ⟨[ar 0, tr (zI v1.1), tr (zI (((1 : Int) + v2.1) + (bI (decide (v3.1 = (1 : Int)))))), none, none, none, none, none], [zL s]⟩) (S2 := ⟨[ar 0, tr (zI v1.1), tr (zI (((1 : Int) + v2.1) + (bI (decide (v3.1 = (1 : Int)))))), none, none, none, none, none], [zL v26.1]⟩) (q_ir1 (q_cons (q_vf rfl) q_nil st_sv tr_sv) h24) h26 rfl (by rintro s x3 y _ rfl hy; obtain ⟨v25, h25, hy⟩ := R.bind_ok hy; obtain rfl := R.inj hy; exact ⟨⟨[ar 0, tr (zI v1.1), tr (zI (((1 : Int) + v2.1) + (bI (decide (v3.1 = (1 : Int)))))), none, none, tr (zI x3), none, none], [zL s]⟩, _, rfl, (q_fnr (R := [.a 0]) (q_cons (q_va (j := 0) rfl rfl) (q_cons q_c (q_cons q_c q_nil st_sv tr_sv) st_sv tr_sv) st_pk (tr_pk rfl)) (trs_cons (tr_pk rfl) (trs_cons tr_sv (trs_cons tr_sv trs_nil))) rfl (by decide) (q_t__law_figures h25) (pb_pk rfl (pb_sv (pb_sv pb_nil)))), rfl⟩) (by rintro _ rfl; rfl)) q_nil st_sv tr_sv) st_sv tr_sv (trs_cons tr_sv trs_nil) (gJoin_ok sql_F h27)) rfl) ?_
   refine sim_mid ?_
   refine sim_if (q_tv (q_op2 (q_vf rfl) q_c st_sv tr_sv tr_sv (gEq_v (x := v1.1) (y := (2 : Int)) fai_i vw_fz vw_fz (sha_ok sha_i (by decide) _) (sha_ok sha_i (by decide) _))) tr_sv) (fun hb => ?_) (fun hb => ?_)
   ·replace h := ite_t hb h
    obtain ⟨v28, h28, h⟩ := R.bind_ok h
    obtain rfl := R.inj h
    exact sim_ret (q_ret (q_op2 q_c (q_vf rfl) st_sv tr_sv tr_sv (gAdd_s h28))) (mid_rt (.inl rfl))
   ·replace h := ite_f hb h
    refine sim_last rfl ?_
    refine mid_nx ?_
    obtain ⟨v29, h29, h⟩ := R.bind_ok h
    refine sim_seq (q_asg (q_op2 (q_vf rfl) (q_fnr (R := [.a 0]) (q_cons (q_va (j := 0) rfl rfl) (q_cons q_c q_nil st_sv tr_sv) st_pk (tr_pk rfl)) (trs_cons (tr_pk rfl) (trs_cons tr_sv trs_nil)) rfl (by decide) (q_t__law_take h29) (pb_pk rfl (pb_sv pb_nil))) st_sv tr_sv tr_sv gAdd_i) rfl) ?_
    obtain ⟨v30, h30, h⟩ := R.bind_ok h
    obtain ⟨v31, h31, h⟩ := R.bind_ok h
    obtain ⟨v32, h32, h⟩ := R.bind_ok h
    obtain ⟨v34, h34, h⟩ := R.bind_ok h
    obtain ⟨v35, h35, h⟩ := R.bind_ok h
    obtain ⟨v36, h36, h⟩ := R.bind_ok h
    obtain rfl := R.inj h
    exact sim_ret (q_ret (q_op2 (q_op2 (q_op2 q_c (q_vf rfl) st_sv tr_sv tr_sv (gAdd_s h30)) q_c st_sv tr_sv tr_sv (gAdd_s h31)) (q_met q_c rfl (q_cons (q_lcS (vs := [5]) (en := PyData.int) (St := fun (s : (zG)) S => S = ⟨[ar 0, tr (zI v1.1), tr (zI (((1 : Int) + v2.1) + (bI (decide (v3.1 = (1 : Int)))))), none, none, none, tr (zS v27), tr (zI ((((1 : Int) + v2.1) + (bI (decide (v3.1 = (1 : Int))))) + v29.1))], [zL s]⟩) (S2 := ⟨[ar 0, tr (zI v1.1), tr (zI (((1 : Int) + v2.1) + (bI (decide (v3.1 = (1 : Int)))))), none, none, none, tr (zS v27), tr (zI ((((1 : Int) + v2.1) + (bI (decide (v3.1 = (1 : Int))))) + v29.1))], [zL v34.1]⟩) (q_ir1 (q_cons (q_vf rfl) q_nil st_sv tr_sv) h32) h34 rfl (by rintro s x4 y _ rfl hy; obtain ⟨v33, h33, hy⟩ := R.bind_ok hy; obtain rfl := R.inj hy; exact ⟨⟨[ar 0, tr (zI v1.1), tr (zI (((1 : Int) + v2.1) + (bI (decide (v3.1 = (1 : Int)))))), none, none, tr (zI x4), tr (zS v27), tr (zI ((((1 : Int) + v2.1) + (bI (decide (v3.1 = (1 : Int))))) + v29.1))], [zL s]⟩, _, rfl, (q_fnr (R := [.a 0]) (q_cons (q_va (j := 0) rfl rfl) q_nil st_pk (tr_pk rfl)) (trs_cons (tr_pk rfl) trs_nil) rfl (by decide) (q_t__law_said h33) (pb_pk rfl pb_nil)), rfl⟩) (by rintro _ rfl; rfl)) q_nil st_sv tr_sv) st_sv tr_sv (trs_cons tr_sv trs_nil) (gJoin_ok sql_F h35)) st_sv tr_sv tr_sv (gAdd_s h36))) (.inl rfl)
def t__law_changed_4 (bag_here_ : (List Int)) (text_here_ : Str) : R (Str × (List Int)) := (slenR text_here_).bind fun v1 => (t__law_take bag_here_ v1).bind fun v2 => (t__law_take v2.2 (17 : Int)).bind fun v3 => (sixR (" ,-0189abcdx\n; +_" : Str) v3.1).bind fun v4 => (t__law_take v3.2 (4 : Int)).bind fun v5 => if (decide (v5.1 = (0 : Int))) = true then ((scutR text_here_ none (some v2.1)).bind fun v6 => (scutR text_here_ (some (v2.1 + (1 : Int))) none).bind fun v7 => (scatR v6 v7).bind fun v8 => R.ok (v8, v5.2)) else (if (decide (v5.1 = (1 : Int))) = true then ((scutR text_here_ none (some v2.1)).bind fun v9 => (scatR v9 v4).bind fun v10 => (scutR text_here_ (some (v2.1 + (1 : Int))) none).bind fun v11 => (scatR v10 v11).bind fun v12 => R.ok (v12, v5.2)) else ((scutR text_here_ none (some v2.1)).bind fun v13 => (scatR v13 v4).bind fun v14 => (scutR text_here_ (some v2.1) none).bind fun v15 => (scatR v14 v15).bind fun v16 => R.ok (v16, v5.2)))
theorem q_t__law_changed_4 {bag_here_ : zG} {text_here_ : Str} {out : (Str × zG)} (h : t__law_changed_4 bag_here_ text_here_ = .ok out) : m__law_changed_4 [zL bag_here_, zS text_here_] = .ret (zS out.1) [zL out.2, zS text_here_] := by
 unfold t__law_changed_4 at h
 refine runFn_fin ⟨rfl, by decide⟩ ?_
 unfold b__law_changed_4
 obtain ⟨v1, h1, h⟩ := R.bind_ok h
 obtain ⟨v2, h2, h⟩ := R.bind_ok h
 refine sim_seq (q_asg (q_fnr (R := [.a 0]) (q_cons (q_va (j := 0) rfl rfl) (q_cons (q_callB (q_cons (q_vf rfl) q_nil st_sv tr_sv) (trs_cons tr_sv trs_nil) (gLen_s h1)) q_nil st_sv tr_sv) st_pk (tr_pk rfl)) (trs_cons (tr_pk rfl) (trs_cons tr_sv trs_nil)) rfl (by decide) (q_t__law_take h2) (pb_pk rfl (pb_sv pb_nil))) rfl) ?_
 obtain ⟨v3, h3, h⟩ := R.bind_ok h
 obtain ⟨v4, h4, h⟩ := R.bind_ok h
 refine sim_seq (q_asg (q_fzs (q_ix q_c (q_fnr (R := [.a 0]) (q_cons (q_va (j := 0) rfl rfl) (q_cons q_c q_nil st_sv tr_sv) st_pk (tr_pk rfl)) (trs_cons (tr_pk rfl) (trs_cons tr_sv trs_nil)) rfl (by decide) (q_t__law_take h3) (pb_pk rfl (pb_sv pb_nil))) st_sv tr_sv tr_sv (gIx_S h4)) frz_fz) rfl) ?_
 obtain ⟨v5, h5, h⟩ := R.bind_ok h
 refine sim_seq (q_asg (q_fnr (R := [.a 0]) (q_cons (q_va (j := 0) rfl rfl) (q_cons q_c q_nil st_sv tr_sv) st_pk (tr_pk rfl)) (trs_cons (tr_pk rfl) (trs_cons tr_sv trs_nil)) rfl (by decide) (q_t__law_take h5) (pb_pk rfl (pb_sv pb_nil))) rfl) ?_
 refine sim_mid ?_
 refine sim_if (q_tv (q_op2 (q_vf rfl) q_c st_sv tr_sv tr_sv (gEq_v (x := v5.1) (y := (0 : Int)) fai_i vw_fz vw_fz (sha_ok sha_i (by decide) _) (sha_ok sha_i (by decide) _))) tr_sv) (fun hb => ?_) (fun hb => ?_)
 ·replace h := ite_t hb h
  obtain ⟨v6, h6, h⟩ := R.bind_ok h
  obtain ⟨v7, h7, h⟩ := R.bind_ok h
  obtain ⟨v8, h8, h⟩ := R.bind_ok h
  obtain rfl := R.inj h
  exact sim_ret (q_ret (q_fzs (q_op2 (q_sl (q_vf rfl) q_pno (q_pat (q_vf rfl)) st_sv tr_sv (gSl_s h6)) (q_sl (q_vf rfl) (q_pat (q_op2 (q_vf rfl) q_c st_sv tr_sv tr_sv gAdd_i)) q_pno st_sv tr_sv (gSl_s h7)) st_sv tr_sv tr_sv (gAdd_s h8)) frz_fz)) (mid_rt (.inl rfl))
 ·replace h := ite_f hb h
  refine sim_last rfl ?_
  refine mid_nx ?_
  refine sim_mid ?_
  refine sim_if (q_tv (q_op2 (q_vf rfl) q_c st_sv tr_sv tr_sv (gEq_v (x := v5.1) (y := (1 : Int)) fai_i vw_fz vw_fz (sha_ok sha_i (by decide) _) (sha_ok sha_i (by decide) _))) tr_sv) (fun hb => ?_) (fun hb => ?_)
  ·replace h := ite_t hb h
   obtain ⟨v9, h9, h⟩ := R.bind_ok h
   obtain ⟨v10, h10, h⟩ := R.bind_ok h
   obtain ⟨v11, h11, h⟩ := R.bind_ok h
   obtain ⟨v12, h12, h⟩ := R.bind_ok h
   obtain rfl := R.inj h
   exact sim_ret (q_ret (q_fzs (q_op2 (q_op2 (q_sl (q_vf rfl) q_pno (q_pat (q_vf rfl)) st_sv tr_sv (gSl_s h9)) (q_vf rfl) st_sv tr_sv tr_sv (gAdd_s h10)) (q_sl (q_vf rfl) (q_pat (q_op2 (q_vf rfl) q_c st_sv tr_sv tr_sv gAdd_i)) q_pno st_sv tr_sv (gSl_s h11)) st_sv tr_sv tr_sv (gAdd_s h12)) frz_fz)) (mid_rt (.inl rfl))
  ·replace h := ite_f hb h
   refine sim_last rfl ?_
   refine mid_nx ?_
   obtain ⟨v13, h13, h⟩ := R.bind_ok h
   obtain ⟨v14, h14, h⟩ := R.bind_ok h
   obtain ⟨v15, h15, h⟩ := R.bind_ok h
   obtain ⟨v16, h16, h⟩ := R.bind_ok h
   obtain rfl := R.inj h
   exact sim_ret (q_ret (q_fzs (q_op2 (q_op2 (q_sl (q_vf rfl) q_pno (q_pat (q_vf rfl)) st_sv tr_sv (gSl_s h13)) (q_vf rfl) st_sv tr_sv tr_sv (gAdd_s h14)) (q_sl (q_vf rfl) (q_pat (q_vf rfl)) q_pno st_sv tr_sv (gSl_s h15)) st_sv tr_sv tr_sv (gAdd_s h16)) frz_fz)) (.inl rfl)
def t__law_is_of (text_here_ : Str) (signs_ : Str) (least_ : Int) (most_ : Int) : R (Bool) := (slenR text_here_).bind fun v1 => (if ((decide (least_ ≤ v1)) && (decide (v1 ≤ most_))) = true then ((lcF (chars text_here_) fun (x1 : Str) => if (!(inStr x1 signs_)) = true then (R.ok (some x1)) else R.ok none).bind fun v2 => (shaR ((dL PyData.str) v2)).bind fun v3 => (shaR ((dL PyData.str) ([] : (List Str)))).bind fun v4 => R.ok (decide (v2 = ([] : (List Str))))) else R.ok false).bind fun v5 => R.ok v5
theorem q_t__law_is_of {text_here_ : Str} {signs_ : Str} {least_ : Int} {most_ : Int} {out : (Bool)} (h : t__law_is_of text_here_ signs_ least_ most_ = .ok out) : m__law_is_of [zS text_here_, zS signs_, zI least_, zI most_] = .ret (zB out) [zS text_here_, zS signs_, zI least_, zI most_] := by
 unfold t__law_is_of at h
 refine runFn_fin ⟨rfl, by decide⟩ ?_
 unfold b__law_is_of
 obtain ⟨v1, h1, h⟩ := R.bind_ok h
 obtain ⟨v5, h5, h⟩ := R.bind_ok h
 obtain rfl := R.inj h
 exact sim_ret (q_ret (q_and (q_chainp (q_vf rfl) (q_callB (q_cons (q_vf rfl) q_nil st_sv tr_sv) (trs_cons tr_sv trs_nil) (gLen_s h1)) st_sv tr_sv tr_sv gLe_i (q_vf rfl) st_sv tr_sv gLe_i) tr_sv (fun hb => by have g := ite_t hb h5; obtain ⟨v2, h2, g⟩ := R.bind_ok g; obtain ⟨v3, h3, g⟩ := R.bind_ok g; obtain ⟨v4, h4, g⟩ := R.bind_ok g; obtain rfl := R.inj g; exact (q_op2 (q_lcF (vs := [4]) (en := PyData.str) (q_isS (q_fzs (q_vf rfl) frz_fz)) h2 rfl (fun x1 y hy => by skip; cases hb : (!(inStr x1 signs_)) with | true => ( have g := ite_t hb hy; obtain rfl := R.inj g; exact ⟨⟨[tr (zS text_here_), tr (zS signs_), tr (zI least_), tr (zI most_), tr (zS x1)], [zS text_here_, zS signs_, zI least_, zI most_]⟩, _, true, rfl, tj_cast hb (q_tv (q_op2 (q_vf rfl) (q_vf rfl) st_sv tr_sv tr_sv gNotIn_s) tr_sv), rfl, _, (q_fzs (q_vf rfl) frz_fz), rfl⟩ ) | false => ( have g := ite_f hb hy; obtain rfl := R.inj g; exact ⟨⟨[tr (zS text_here_), tr (zS signs_), tr (zI least_), tr (zI most_), tr (zS x1)], [zS text_here_, zS signs_, zI least_, zI most_]⟩, _, false, rfl, tj_cast hb (q_tv (q_op2 (q_vf rfl) (q_vf rfl) st_sv tr_sv tr_sv gNotIn_s) tr_sv), rfl, rfl⟩ )) rfl) (q_lstE (en := zS) (xs := []) q_nil rfl (Nat.le_of_ble_eq_true rfl)) st_sv tr_sv tr_sv (gEq_v (x := v2) (y := ([] : (List Str))) (fai_L fai_s) (vw_L frz_F) (vw_L frz_F) (shaR_ok h3) (shaR_ok h4)))) (fun hb => (R.inj (ite_f hb h5)).symm))) (.inl rfl)
def t__law_is_word_2 (text_here_ : Str) : R (Bool) := (shaR (PyData.str text_here_)).bind fun v1 => (shaR (PyData.str ("-" : Str))).bind fun v2 => (if (decide (text_here_ = ("-" : Str))) = true then R.ok true else ((t__law_is_of text_here_ ("abc" : Str) (1 : Int) (2000 : Int)).bind fun v3 => R.ok v3)).bind fun v4 => R.ok v4
theorem q_t__law_is_word_2 {text_here_ : Str} {out : (Bool)} (h : t__law_is_word_2 text_here_ = .ok out) : m__law_is_word_2 [zS text_here_] = .ret (zB out) [zS text_here_] := by
 unfold t__law_is_word_2 at h
 refine runFn_fin ⟨rfl, by decide⟩ ?_
 unfold b__law_is_word_2
 obtain ⟨v1, h1, h⟩ := R.bind_ok h
 obtain ⟨v2, h2, h⟩ := R.bind_ok h
 obtain ⟨v4, h4, h⟩ := R.bind_ok h
 obtain rfl := R.inj h
 exact sim_ret (q_ret (q_or (q_op2 (q_vf rfl) q_c st_sv tr_sv tr_sv (gEq_v (x := text_here_) (y := ("-" : Str)) fai_s vw_fz vw_fz (shaR_ok h1) (shaR_ok h2))) tr_sv (fun hb => by have g := ite_f hb h4; obtain ⟨v3, h3, g⟩ := R.bind_ok g; obtain rfl := R.inj g; exact (q_fnr (R := []) (q_cons (q_vf rfl) (q_cons q_c (q_cons q_c (q_cons q_c q_nil st_sv tr_sv) st_sv tr_sv) st_sv tr_sv) st_sv tr_sv) (trs_cons tr_sv (trs_cons tr_sv (trs_cons tr_sv (trs_cons tr_sv trs_nil)))) rfl (by decide) (q_t__law_is_of h3) (pb_sv (pb_sv (pb_sv (pb_sv pb_nil)))))) (fun hb => (R.inj (ite_t hb h4)).symm))) (.inl rfl)
def t__law_is_number (text_here_ : Str) : R (Bool) := (t__law_is_of text_here_ ("0123456789" : Str) (1 : Int) (60 : Int)).bind fun v1 => (if v1 = true then ((sixR text_here_ (0 : Int)).bind fun v2 => (shaR (PyData.str v2)).bind fun v3 => (shaR (PyData.str ("0" : Str))).bind fun v4 => (if (!(decide (v2 = ("0" : Str)))) = true then R.ok true else ((shaR (PyData.str text_here_)).bind fun v5 => (shaR (PyData.str ("0" : Str))).bind fun v6 => R.ok (decide (text_here_ = ("0" : Str))))).bind fun v7 => R.ok v7) else R.ok false).bind fun v8 => R.ok v8
theorem q_t__law_is_number {text_here_ : Str} {out : (Bool)} (h : t__law_is_number text_here_ = .ok out) : m__law_is_number [zS text_here_] = .ret (zB out) [zS text_here_] := by
 unfold t__law_is_number at h
 refine runFn_fin ⟨rfl, by decide⟩ ?_
 unfold b__law_is_number
 obtain ⟨v1, h1, h⟩ := R.bind_ok h
 obtain ⟨v8, h8, h⟩ := R.bind_ok h
 obtain rfl := R.inj h
 exact sim_ret (q_ret (q_and (q_fnr (R := []) (q_cons (q_vf rfl) (q_cons q_c (q_cons q_c (q_cons q_c q_nil st_sv tr_sv) st_sv tr_sv) st_sv tr_sv) st_sv tr_sv) (trs_cons tr_sv (trs_cons tr_sv (trs_cons tr_sv (trs_cons tr_sv trs_nil)))) rfl (by decide) (q_t__law_is_of h1) (pb_sv (pb_sv (pb_sv (pb_sv pb_nil))))) tr_sv (fun hb => by have g := ite_t hb h8; obtain ⟨v2, h2, g⟩ := R.bind_ok g; obtain ⟨v3, h3, g⟩ := R.bind_ok g; obtain ⟨v4, h4, g⟩ := R.bind_ok g; obtain ⟨v7, h7, g⟩ := R.bind_ok g; obtain rfl := R.inj g; exact (q_or (q_op2 (q_ix (q_vf rfl) q_c st_sv tr_sv tr_sv (gIx_S h2)) q_c st_sv tr_sv tr_sv (gNe_v (x := v2) (y := ("0" : Str)) fai_s vw_fz vw_fz (shaR_ok h3) (shaR_ok h4))) tr_sv (fun hb => by have g := ite_f hb h7; obtain ⟨v5, h5, g⟩ := R.bind_ok g; obtain ⟨v6, h6, g⟩ := R.bind_ok g; obtain rfl := R.inj g; exact (q_op2 (q_vf rfl) q_c st_sv tr_sv tr_sv (gEq_v (x := text_here_) (y := ("0" : Str)) fai_s vw_fz vw_fz (shaR_ok h5) (shaR_ok h6)))) (fun hb => (R.inj (ite_t hb h7)).symm))) (fun hb => (R.inj (ite_f hb h8)).symm))) (.inl rfl)
def t__law_tuples (texts_ : (List Str)) : R ((List (List Int))) := (lcR texts_ fun (x1 : Str) => (lcR (chars x1) fun (x2 : Str) => (intTR x2).bind fun v1 => R.ok v1).bind fun v2 => R.ok v2).bind fun v3 => R.ok v3
theorem q_t__law_tuples {texts_ : (List Str)} {out : (zR)} (h : t__law_tuples texts_ = .ok out) : m__law_tuples [(sF (dL PyData.str)) texts_] = .ret (zN out) [(sF (dL PyData.str)) texts_] := by
 unfold t__law_tuples at h
 refine runFn_fin ⟨rfl, by decide⟩ ?_
 unfold b__law_tuples
 obtain ⟨v3, h3, h⟩ := R.bind_ok h
 obtain rfl := R.inj h
 exact sim_ret (q_ret (q_callB (q_cons (q_lc (vs := [2]) (en := PyData.str) (q_isL (q_fzs (q_vf rfl) frz_fz)) h3 rfl (fun x1 y hy => by obtain ⟨v2, h2, hy⟩ := R.bind_ok hy; obtain rfl := R.inj hy; exact ⟨⟨[tr ((sF (dL PyData.str)) texts_), none, tr (zS x1)], [(sF (dL PyData.str)) texts_]⟩, _, rfl, (q_callB (q_cons (q_lc (vs := [1]) (en := PyData.str) (q_isS (q_fzs (q_vf rfl) frz_fz)) h2 rfl (fun x2 y hy => by obtain ⟨v1, h1, hy⟩ := R.bind_ok hy; obtain rfl := R.inj hy; exact ⟨⟨[tr ((sF (dL PyData.str)) texts_), tr (zS x2), tr (zS x1)], [(sF (dL PyData.str)) texts_]⟩, _, rfl, (q_callB (q_cons (q_vf rfl) q_nil st_sv tr_sv) (trs_cons tr_sv trs_nil) (gIntF_s h1)), rfl⟩) rfl) q_nil st_sv tr_sv) (trs_cons tr_sv trs_nil) (gTup_l sql_F)), rfl⟩) rfl) q_nil st_sv tr_sv) (trs_cons tr_sv trs_nil) (gTup_l sql_F))) (.inl rfl)
def t__law_words (texts_ : (List Str)) : R ((List Str)) := (lcR texts_ fun (x1 : Str) => (shaR (PyData.str x1)).bind fun v1 => (shaR (PyData.str ("-" : Str))).bind fun v2 => (ixR ([("" : Str), x1] : (List Str)) (bI (!(decide (x1 = ("-" : Str)))))).bind fun v3 => R.ok v3).bind fun v4 => R.ok v4
theorem q_t__law_words {texts_ : (List Str)} {out : ((List Str))} (h : t__law_words texts_ = .ok out) : m__law_words [(sL zS) texts_] = .ret ((sF (dT PyData.str)) out) [(sF (dL PyData.str)) texts_] := by
 unfold t__law_words at h
 refine runFn_fin ⟨rfl, by decide⟩ ?_
 unfold b__law_words
 obtain ⟨v4, h4, h⟩ := R.bind_ok h
 obtain rfl := R.inj h
 exact sim_ret (q_ret (q_callB (q_cons (q_lc (vs := [1]) (en := PyData.str) (q_isL (q_fzp (q_va (j := 0) rfl rfl) rfl ((frz_L frz_F) texts_))) h4 rfl (fun x1 y hy => by obtain ⟨v1, h1, hy⟩ := R.bind_ok hy; obtain ⟨v2, h2, hy⟩ := R.bind_ok hy; obtain ⟨v3, h3, hy⟩ := R.bind_ok hy; obtain rfl := R.inj hy; exact ⟨⟨[ar 0, tr (zS x1)], [(sF (dL PyData.str)) texts_]⟩, _, rfl, (q_fzs (q_ix (q_lstE (en := zS) (xs := [("" : Str), x1]) (q_cons q_c (q_cons (q_fzs (q_vf rfl) frz_fz) q_nil st_sv tr_sv) st_sv tr_sv) rfl (Nat.le_of_ble_eq_true rfl)) (q_callB (q_cons (q_op2 (q_vf rfl) q_c st_sv tr_sv tr_sv (gNe_v (x := x1) (y := ("-" : Str)) fai_s vw_fz vw_fz (shaR_ok h1) (shaR_ok h2))) q_nil st_sv tr_sv) (trs_cons tr_sv trs_nil) gIntF_b) st_sv tr_sv tr_sv (gIx_F h3)) frz_fz), rfl⟩) rfl) q_nil st_sv tr_sv) (trs_cons tr_sv trs_nil) (gTup_l sql_F))) (.inl rfl)
def t__law_tuples'2 (texts_ : (List Str)) : R ((List (List Int))) := (lcR texts_ fun (x1 : Str) => (lcR (chars x1) fun (x2 : Str) => (intTR x2).bind fun v1 => R.ok v1).bind fun v2 => R.ok v2).bind fun v3 => R.ok v3
theorem q_t__law_tuples'2 {texts_ : (List Str)} {out : (zR)} (h : t__law_tuples'2 texts_ = .ok out) : m__law_tuples [(sL zS) texts_] = .ret (zN out) [(sF (dL PyData.str)) texts_] := by
 unfold t__law_tuples'2 at h
 refine runFn_fin ⟨rfl, by decide⟩ ?_
 unfold b__law_tuples
 obtain ⟨v3, h3, h⟩ := R.bind_ok h
 obtain rfl := R.inj h
 exact sim_ret (q_ret (q_callB (q_cons (q_lc (vs := [2]) (en := PyData.str) (q_isL (q_fzp (q_va (j := 0) rfl rfl) rfl ((frz_L frz_F) texts_))) h3 rfl (fun x1 y hy => by obtain ⟨v2, h2, hy⟩ := R.bind_ok hy; obtain rfl := R.inj hy; exact ⟨⟨[ar 0, none, tr (zS x1)], [(sF (dL PyData.str)) texts_]⟩, _, rfl, (q_callB (q_cons (q_lc (vs := [1]) (en := PyData.str) (q_isS (q_fzs (q_vf rfl) frz_fz)) h2 rfl (fun x2 y hy => by obtain ⟨v1, h1, hy⟩ := R.bind_ok hy; obtain rfl := R.inj hy; exact ⟨⟨[ar 0, tr (zS x2), tr (zS x1)], [(sF (dL PyData.str)) texts_]⟩, _, rfl, (q_callB (q_cons (q_vf rfl) q_nil st_sv tr_sv) (trs_cons tr_sv trs_nil) (gIntF_s h1)), rfl⟩) rfl) q_nil st_sv tr_sv) (trs_cons tr_sv trs_nil) (gTup_l sql_F)), rfl⟩) rfl) q_nil st_sv tr_sv) (trs_cons tr_sv trs_nil) (gTup_l sql_F))) (.inl rfl)
def t__law_words'2 (texts_ : (List Str)) : R ((List Str)) := (lcR texts_ fun (x1 : Str) => (shaR (PyData.str x1)).bind fun v1 => (shaR (PyData.str ("-" : Str))).bind fun v2 => (ixR ([("" : Str), x1] : (List Str)) (bI (!(decide (x1 = ("-" : Str)))))).bind fun v3 => R.ok v3).bind fun v4 => R.ok v4
theorem q_t__law_words'2 {texts_ : (List Str)} {out : ((List Str))} (h : t__law_words'2 texts_ = .ok out) : m__law_words [(sF (dL PyData.str)) texts_] = .ret ((sF (dT PyData.str)) out) [(sF (dL PyData.str)) texts_] := by
 unfold t__law_words'2 at h
 refine runFn_fin ⟨rfl, by decide⟩ ?_
 unfold b__law_words
 obtain ⟨v4, h4, h⟩ := R.bind_ok h
 obtain rfl := R.inj h
 exact sim_ret (q_ret (q_callB (q_cons (q_lc (vs := [1]) (en := PyData.str) (q_isL (q_fzs (q_vf rfl) frz_fz)) h4 rfl (fun x1 y hy => by obtain ⟨v1, h1, hy⟩ := R.bind_ok hy; obtain ⟨v2, h2, hy⟩ := R.bind_ok hy; obtain ⟨v3, h3, hy⟩ := R.bind_ok hy; obtain rfl := R.inj hy; exact ⟨⟨[tr ((sF (dL PyData.str)) texts_), tr (zS x1)], [(sF (dL PyData.str)) texts_]⟩, _, rfl, (q_fzs (q_ix (q_lstE (en := zS) (xs := [("" : Str), x1]) (q_cons q_c (q_cons (q_fzs (q_vf rfl) frz_fz) q_nil st_sv tr_sv) st_sv tr_sv) rfl (Nat.le_of_ble_eq_true rfl)) (q_callB (q_cons (q_op2 (q_vf rfl) q_c st_sv tr_sv tr_sv (gNe_v (x := x1) (y := ("-" : Str)) fai_s vw_fz vw_fz (shaR_ok h1) (shaR_ok h2))) q_nil st_sv tr_sv) (trs_cons tr_sv trs_nil) gIntF_b) st_sv tr_sv tr_sv (gIx_F h3)) frz_fz), rfl⟩) rfl) q_nil st_sv tr_sv) (trs_cons tr_sv trs_nil) (gTup_l sql_F))) (.inl rfl)
def t__law_due_11 (text_here_ : Str) : R (PyData) := (splitR text_here_ (" " : Str)).bind fun v1 => (lcR v1 fun (x1 : Str) => (splitR x1 ("," : Str)).bind fun v2 => R.ok v2).bind fun v3 => (ixR v1 (0 : Int)).bind fun v4 => (shaR (PyData.str v4)).bind fun v5 => (shaR (PyData.str ("call" : Str))).bind fun v6 => if ((decide (v4 = ("call" : Str))) && (decide ((v1.length : Int) = (4 : Int)))) = true then ((ixR v3 (1 : Int)).bind fun v7 => (ixR v7 (0 : Int)).bind fun v8 => (slenR v8).bind fun v9 => (if (!(memB v9 [((2 : Int), (3 : Int)).1, ((2 : Int), (3 : Int)).2])) = true then R.ok true else ((ixR v3 (1 : Int)).bind fun v10 => (if (decide ((9 : Int) < (v10.length : Int))) = true then R.ok true else ((ixR v1 (2 : Int)).bind fun v11 => (t__law_is_word_2 v11).bind fun v12 => (if (!v12) = true then R.ok true else ((ixR v1 (3 : Int)).bind fun v13 => (t__law_is_number v13).bind fun v14 => R.ok (!v14))).bind fun v15 => R.ok v15)).bind fun v16 => R.ok v16)).bind fun v17 => if v17 = true then (R.ok (dN ())) else ((ixR v3 (1 : Int)).bind fun v18 => (lcF v18 fun (x2 : Str) => (t__law_is_of x2 ("012345678" : Str) v9 v9).bind fun v19 => if (!v19) = true then (R.ok (some x2)) else R.ok none).bind fun v20 => (shaR ((dL PyData.str) v20)).bind fun v21 => (shaR ((dL PyData.str) ([] : (List Str)))).bind fun v22 => if (!(decide (v20 = ([] : (List Str))))) = true then (R.ok (dN ())) else ((ixR v3 (1 : Int)).bind fun v23 => (t__law_tuples v23).bind fun v24 => (ixR v1 (2 : Int)).bind fun v25 => (t__law_words ([v25] : (List Str))).bind fun v26 => (ixR v26 (0 : Int)).bind fun v27 => (ixR v1 (3 : Int)).bind fun v28 => (intTR v28).bind fun v29 => R.ok ((dT dA) ([(PyData.str ("call" : Str)), ((dT (dT PyData.int)) v24), (PyData.str v27), (PyData.int v29)] : (List PyData)))))) else ((ixR v1 (0 : Int)).bind fun v30 => (shaR (PyData.str v30)).bind fun v31 => (shaR (PyData.str ("beat" : Str))).bind fun v32 => if ((decide (v30 = ("beat" : Str))) && (decide ((v1.length : Int) = (3 : Int)))) = true then ((ixR v1 (1 : Int)).bind fun v33 => (t__law_is_number v33).bind fun v34 => (if (!v34) = true then R.ok true else ((ixR v1 (2 : Int)).bind fun v35 => (t__law_is_of v35 ("012345678" : Str) (1 : Int) (5000 : Int)).bind fun v36 => R.ok (!v36))).bind fun v37 => if v37 = true then (R.ok (dN ())) else ((ixR v1 (1 : Int)).bind fun v38 => (intTR v38).bind fun v39 => (ixR v1 (2 : Int)).bind fun v40 => (t__law_tuples'2 ([v40] : (List Str))).bind fun v41 => (ixR v41 (0 : Int)).bind fun v42 => R.ok ((dQ PyData.str PyData.int (dT PyData.int)) (("beat" : Str), v39, v42)))) else ((ixR v1 (0 : Int)).bind fun v43 => (shaR (PyData.str v43)).bind fun v44 => (shaR (dL PyData.str [(("never" : Str), ("stable" : Str)).1, (("never" : Str), ("stable" : Str)).2])).bind fun v45 => (if (!(memB v43 [(("never" : Str), ("stable" : Str)).1, (("never" : Str), ("stable" : Str)).2])) = true then R.ok true else ((ixR v1 (0 : Int)).bind fun v46 => (shaR (PyData.str v46)).bind fun v47 => (shaR (PyData.str ("stable" : Str))).bind fun v48 => (ixR ([(2 : Int), (3 : Int)] : (List Int)) (bI (decide (v46 = ("stable" : Str))))).bind fun v49 => R.ok (!(decide ((v1.length : Int) = v49))))).bind fun v50 => if v50 = true then (R.ok (dN ())) else ((ixR v3 (1 : Int)).bind fun v51 => (lcF v51 fun (x3 : Str) => (t__law_is_of x3 ("012345678" : Str) (2 : Int) (2 : Int)).bind fun v52 => if (!v52) = true then (R.ok (some x3)) else R.ok none).bind fun v53 => (shaR ((dL PyData.str) v53)).bind fun v54 => (shaR ((dL PyData.str) ([] : (List Str)))).bind fun v55 => if (!(decide (v53 = ([] : (List Str))))) = true then (R.ok (dN ())) else ((ixR v1 (0 : Int)).bind fun v56 => (shaR (PyData.str v56)).bind fun v57 => (shaR (PyData.str ("never" : Str))).bind fun v58 => if (decide (v56 = ("never" : Str))) = true then ((ixR v3 (1 : Int)).bind fun v59 => (t__law_tuples v59).bind fun v60 => R.ok ((dP PyData.str (dT (dT PyData.int))) (("never" : Str), v60))) else ((ixR v3 (2 : Int)).bind fun v61 => (lcF v61 fun (x4 : Str) => (t__law_is_word_2 x4).bind fun v62 => if (!v62) = true then (R.ok (some x4)) else R.ok none).bind fun v63 => (shaR ((dL PyData.str) v63)).bind fun v64 => (shaR ((dL PyData.str) ([] : (List Str)))).bind fun v65 => if (!(decide (v63 = ([] : (List Str))))) = true then (R.ok (dN ())) else ((ixR v3 (1 : Int)).bind fun v66 => (t__law_tuples v66).bind fun v67 => (ixR v3 (2 : Int)).bind fun v68 => (t__law_words'2 v68).bind fun v69 => R.ok ((dQ PyData.str (dT (dT PyData.int)) (dT PyData.str)) (("stable" : Str), v67, v69))))))))
theorem q_t__law_due_11 {text_here_ : Str} {out : (PyData)} (h : t__law_due_11 text_here_ = .ok out) : m__law_due_11 [zS text_here_] = .ret (zA out) [zS text_here_] := by
 unfold t__law_due_11 at h
 refine runFn_fin ⟨rfl, by decide⟩ ?_
 unfold b__law_due_11
 obtain ⟨v1, h1, h⟩ := R.bind_ok h
 refine sim_seq (q_asg (q_met (q_vf rfl) rfl (q_cons q_c q_nil st_sv tr_sv) st_sv tr_sv (trs_cons tr_sv trs_nil) (gSplit_ok h1)) rfl) ?_
 obtain ⟨v3, h3, h⟩ := R.bind_ok h
 refine sim_seq (q_asg (q_fzs (q_lc (vs := [3]) (en := PyData.str) (q_isL (q_fzp (q_vl rfl) rfl ((frz_L frz_F) v1))) h3 rfl (fun x1 y hy => by obtain ⟨v2, h2, hy⟩ := R.bind_ok hy; obtain rfl := R.inj hy; exact ⟨⟨[tr (zS text_here_), tr ((sF (dL PyData.str)) v1), none, tr (zS x1), none, none, none], [zS text_here_]⟩, _, rfl, (q_met (q_vf rfl) rfl (q_cons q_c q_nil st_sv tr_sv) st_sv tr_sv (trs_cons tr_sv trs_nil) (gSplit_ok h2)), rfl⟩) rfl) ((frz_L (frz_L frz_F)) v3)) rfl) ?_
 obtain ⟨v4, h4, h⟩ := R.bind_ok h
 obtain ⟨v5, h5, h⟩ := R.bind_ok h
 obtain ⟨v6, h6, h⟩ := R.bind_ok h
 refine sim_mid ?_
 refine sim_if (q_landp (q_tv (q_op2 (q_ix (q_vf rfl) q_c st_sv tr_sv tr_sv (gIx_L h4)) q_c st_sv tr_sv tr_sv (gEq_v (x := v4) (y := ("call" : Str)) fai_s vw_fz vw_fz (shaR_ok h5) (shaR_ok h6))) tr_sv) (q_tv (q_op2 (q_callB (q_cons (q_vf rfl) q_nil st_sv tr_sv) (trs_cons tr_sv trs_nil) (gLen_l len_L)) q_c st_sv tr_sv tr_sv (gEq_v (x := (v1.length : Int)) (y := (4 : Int)) fai_i vw_fz vw_fz (sha_ok sha_i (by decide) _) (sha_ok sha_i (by decide) _))) tr_sv)) (fun hb => ?_) (fun hb => ?_)
 ·replace h := ite_t hb h
  obtain ⟨v7, h7, h⟩ := R.bind_ok h
  obtain ⟨v8, h8, h⟩ := R.bind_ok h
  obtain ⟨v9, h9, h⟩ := R.bind_ok h
  refine sim_seq (q_asg (q_callB (q_cons (q_ix (q_ix (q_vf rfl) q_c st_sv tr_sv tr_sv (gIx_L h7)) q_c st_sv tr_sv tr_sv (gIx_L h8)) q_nil st_sv tr_sv) (trs_cons tr_sv trs_nil) (gLen_s h9)) rfl) ?_
  obtain ⟨v17, h17, h⟩ := R.bind_ok h
  refine sim_mid ?_
  refine sim_if (q_lor (q_tv (q_op2 (q_vf rfl) (q_tupE (d := zC ((2 : Int), (3 : Int))) (q_cons q_c (q_cons q_c q_nil st_sv tr_sv) st_sv tr_sv) rfl (Nat.le_of_ble_eq_true rfl) rfl) st_sv tr_sv tr_sv (gNotIn_v (x := v9) (xs := [((2 : Int), (3 : Int)).1, ((2 : Int), (3 : Int)).2]) fai_i vw_fz (.inr vw_fz) (sha_ok sha_i (by decide) _) (sha_ok (sha_L sha_i) (by decide) _))) tr_sv) (fun hb => by have g := ite_f hb h17; obtain ⟨v10, h10, g⟩ := R.bind_ok g; obtain ⟨v16, h16, g⟩ := R.bind_ok g; obtain rfl := R.inj g; exact (q_lor (q_tv (q_op2 (q_callB (q_cons (q_ix (q_vf rfl) q_c st_sv tr_sv tr_sv (gIx_L h10)) q_nil st_sv tr_sv) (trs_cons tr_sv trs_nil) (gLen_l len_L)) q_c st_sv tr_sv tr_sv gGt_i) tr_sv) (fun hb => by have g := ite_f hb h16; obtain ⟨v11, h11, g⟩ := R.bind_ok g; obtain ⟨v12, h12, g⟩ := R.bind_ok g; obtain ⟨v15, h15, g⟩ := R.bind_ok g; obtain rfl := R.inj g; exact (q_lor (q_lnot (q_tv (q_fnr (R := []) (q_cons (q_ix (q_vf rfl) q_c st_sv tr_sv tr_sv (gIx_L h11)) q_nil st_sv tr_sv) (trs_cons tr_sv trs_nil) rfl (by decide) (q_t__law_is_word_2 h12) (pb_sv pb_nil)) tr_sv)) (fun hb => by have g := ite_f hb h15; obtain ⟨v13, h13, g⟩ := R.bind_ok g; obtain ⟨v14, h14, g⟩ := R.bind_ok g; obtain rfl := R.inj g; exact (q_lnot (q_tv (q_fnr (R := []) (q_cons (q_ix (q_vf rfl) q_c st_sv tr_sv tr_sv (gIx_L h13)) q_nil st_sv tr_sv) (trs_cons tr_sv trs_nil) rfl (by decide) (q_t__law_is_number h14) (pb_sv pb_nil)) tr_sv))) (fun hb => (R.inj (ite_t hb h15)).symm))) (fun hb => (R.inj (ite_t hb h16)).symm))) (fun hb => (R.inj (ite_t hb h17)).symm)) (fun hb => ?_) (fun hb => ?_)
  ·replace h := ite_t hb h
   obtain rfl := R.inj h
   exact sim_ret (q_ret q_c) (mid_rt (mid_rt (.inl rfl)))
  ·replace h := ite_f hb h
   refine sim_last rfl ?_
   refine mid_nx ?_
   obtain ⟨v18, h18, h⟩ := R.bind_ok h
   obtain ⟨v20, h20, h⟩ := R.bind_ok h
   obtain ⟨v21, h21, h⟩ := R.bind_ok h
   obtain ⟨v22, h22, h⟩ := R.bind_ok h
   refine sim_mid ?_
   refine sim_if (q_tv (q_op2 (q_lcF (vs := [5]) (en := PyData.str) (q_isL (q_fzs (q_ix (q_vf rfl) q_c st_sv tr_sv tr_sv (gIx_L h18)) frz_fz)) h20 rfl (fun x2 y hy => by obtain ⟨v19, h19, hy⟩ := R.bind_ok hy; skip; cases hb : (!v19) with | true => ( have g := ite_t hb hy; obtain rfl := R.inj g; exact ⟨⟨[tr (zS text_here_), tr ((sF (dL PyData.str)) v1), tr ((sF (dL (dL PyData.str))) v3), none, tr (zI v9), tr (zS x2), none], [zS text_here_]⟩, _, true, rfl, tj_cast hb (q_lnot (q_tv (q_fnr (R := []) (q_cons (q_vf rfl) (q_cons q_c (q_cons (q_vf rfl) (q_cons (q_vf rfl) q_nil st_sv tr_sv) st_sv tr_sv) st_sv tr_sv) st_sv tr_sv) (trs_cons tr_sv (trs_cons tr_sv (trs_cons tr_sv (trs_cons tr_sv trs_nil)))) rfl (by decide) (q_t__law_is_of h19) (pb_sv (pb_sv (pb_sv (pb_sv pb_nil))))) tr_sv)), rfl, _, (q_fzs (q_vf rfl) frz_fz), rfl⟩ ) | false => ( have g := ite_f hb hy; obtain rfl := R.inj g; exact ⟨⟨[tr (zS text_here_), tr ((sF (dL PyData.str)) v1), tr ((sF (dL (dL PyData.str))) v3), none, tr (zI v9), tr (zS x2), none], [zS text_here_]⟩, _, false, rfl, tj_cast hb (q_lnot (q_tv (q_fnr (R := []) (q_cons (q_vf rfl) (q_cons q_c (q_cons (q_vf rfl) (q_cons (q_vf rfl) q_nil st_sv tr_sv) st_sv tr_sv) st_sv tr_sv) st_sv tr_sv) (trs_cons tr_sv (trs_cons tr_sv (trs_cons tr_sv (trs_cons tr_sv trs_nil)))) rfl (by decide) (q_t__law_is_of h19) (pb_sv (pb_sv (pb_sv (pb_sv pb_nil))))) tr_sv)), rfl, rfl⟩ )) rfl) (q_lstE (en := zS) (xs := []) q_nil rfl (Nat.le_of_ble_eq_true rfl)) st_sv tr_sv tr_sv (gNe_v (x := v20) (y := ([] : (List Str))) (fai_L fai_s) (vw_L frz_F) (vw_L frz_F) (shaR_ok h21) (shaR_ok h22))) tr_sv) (fun hb => ?_) (fun hb => ?_)
   ·replace h := ite_t hb h
    obtain rfl := R.inj h
    exact sim_ret (q_ret q_c) (mid_rt (mid_rt (.inl rfl)))
   ·replace h := ite_f hb h
    refine sim_last rfl ?_
    refine mid_nx ?_
    obtain ⟨v23, h23, h⟩ := R.bind_ok h
    obtain ⟨v24, h24, h⟩ := R.bind_ok h
    obtain ⟨v25, h25, h⟩ := R.bind_ok h
    obtain ⟨v26, h26, h⟩ := R.bind_ok h
    obtain ⟨v27, h27, h⟩ := R.bind_ok h
    obtain ⟨v28, h28, h⟩ := R.bind_ok h
    obtain ⟨v29, h29, h⟩ := R.bind_ok h
    obtain rfl := R.inj h
    exact sim_ret (q_ret (q_tupE (d := (dT dA) ([(PyData.str ("call" : Str)), (zD v24), (PyData.str v27), (PyData.int v29)] : (List PyData))) (q_cons q_c (q_cons (q_fzs (q_fnr (R := []) (q_cons (q_ix (q_vf rfl) q_c st_sv tr_sv tr_sv (gIx_L h23)) q_nil st_sv tr_sv) (trs_cons tr_sv trs_nil) rfl (by decide) (q_t__law_tuples h24) (pb_sv pb_nil)) frz_fz) (q_cons (q_fzs (q_ix (q_fnr (R := []) (q_cons (q_lstE (en := zS) (xs := [v25]) (q_cons (q_fzs (q_ix (q_vf rfl) q_c st_sv tr_sv tr_sv (gIx_L h25)) frz_fz) q_nil st_sv tr_sv) rfl (Nat.le_of_ble_eq_true rfl)) q_nil st_sv tr_sv) (trs_cons tr_sv trs_nil) rfl (by decide) (q_t__law_words h26) (pb_sv pb_nil)) q_c st_sv tr_sv tr_sv (gIx_T h27)) frz_fz) (q_cons (q_fzs (q_callB (q_cons (q_ix (q_vf rfl) q_c st_sv tr_sv tr_sv (gIx_L h28)) q_nil st_sv tr_sv) (trs_cons tr_sv trs_nil) (gIntF_s h29)) frz_fz) q_nil st_sv tr_sv) st_sv tr_sv) st_sv tr_sv) st_sv tr_sv) rfl (Nat.le_of_ble_eq_true rfl) rfl)) (mid_rt (.inl rfl))
 ·replace h := ite_f hb h
  refine sim_last rfl ?_
  refine mid_nx ?_
  obtain ⟨v30, h30, h⟩ := R.bind_ok h
  obtain ⟨v31, h31, h⟩ := R.bind_ok h
  obtain ⟨v32, h32, h⟩ := R.bind_ok h
  refine sim_mid ?_
  refine sim_if (q_landp (q_tv (q_op2 (q_ix (q_vf rfl) q_c st_sv tr_sv tr_sv (gIx_L h30)) q_c st_sv tr_sv tr_sv (gEq_v (x := v30) (y := ("beat" : Str)) fai_s vw_fz vw_fz (shaR_ok h31) (shaR_ok h32))) tr_sv) (q_tv (q_op2 (q_callB (q_cons (q_vf rfl) q_nil st_sv tr_sv) (trs_cons tr_sv trs_nil) (gLen_l len_L)) q_c st_sv tr_sv tr_sv (gEq_v (x := (v1.length : Int)) (y := (3 : Int)) fai_i vw_fz vw_fz (sha_ok sha_i (by decide) _) (sha_ok sha_i (by decide) _))) tr_sv)) (fun hb => ?_) (fun hb => ?_)
  ·replace h := ite_t hb h
   obtain ⟨v33, h33, h⟩ := R.bind_ok h
   obtain ⟨v34, h34, h⟩ := R.bind_ok h
   obtain ⟨v37, h37, h⟩ := R.bind_ok h
   refine sim_mid ?_
   refine sim_if (q_lor (q_lnot (q_tv (q_fnr (R := []) (q_cons (q_ix (q_vf rfl) q_c st_sv tr_sv tr_sv (gIx_L h33)) q_nil st_sv tr_sv) (trs_cons tr_sv trs_nil) rfl (by decide) (q_t__law_is_number h34) (pb_sv pb_nil)) tr_sv)) (fun hb => by have g := ite_f hb h37; obtain ⟨v35, h35, g⟩ := R.bind_ok g; obtain ⟨v36, h36, g⟩ := R.bind_ok g; obtain rfl := R.inj g; exact (q_lnot (q_tv (q_fnr (R := []) (q_cons (q_ix (q_vf rfl) q_c st_sv tr_sv tr_sv (gIx_L h35)) (q_cons q_c (q_cons q_c (q_cons q_c q_nil st_sv tr_sv) st_sv tr_sv) st_sv tr_sv) st_sv tr_sv) (trs_cons tr_sv (trs_cons tr_sv (trs_cons tr_sv (trs_cons tr_sv trs_nil)))) rfl (by decide) (q_t__law_is_of h36) (pb_sv (pb_sv (pb_sv (pb_sv pb_nil))))) tr_sv))) (fun hb => (R.inj (ite_t hb h37)).symm)) (fun hb => ?_) (fun hb => ?_)
   ·replace h := ite_t hb h
    obtain rfl := R.inj h
    exact sim_ret (q_ret q_c) (mid_rt (mid_rt (.inl rfl)))
   ·replace h := ite_f hb h
    refine sim_last rfl ?_
    refine mid_nx ?_
    obtain ⟨v38, h38, h⟩ := R.bind_ok h
    obtain ⟨v39, h39, h⟩ := R.bind_ok h
    obtain ⟨v40, h40, h⟩ := R.bind_ok h
    obtain ⟨v41, h41, h⟩ := R.bind_ok h
    obtain ⟨v42, h42, h⟩ := R.bind_ok h
    obtain rfl := R.inj h
    exact sim_ret (q_ret (q_tupE (d := (dQ PyData.str PyData.int zE) (("beat" : Str), v39, v42)) (q_cons q_c (q_cons (q_fzs (q_callB (q_cons (q_ix (q_vf rfl) q_c st_sv tr_sv tr_sv (gIx_L h38)) q_nil st_sv tr_sv) (trs_cons tr_sv trs_nil) (gIntF_s h39)) frz_fz) (q_cons (q_fzs (q_ix (q_fnr (R := []) (q_cons (q_lstE (en := zS) (xs := [v40]) (q_cons (q_fzs (q_ix (q_vf rfl) q_c st_sv tr_sv tr_sv (gIx_L h40)) frz_fz) q_nil st_sv tr_sv) rfl (Nat.le_of_ble_eq_true rfl)) q_nil st_sv tr_sv) (trs_cons tr_sv trs_nil) rfl (by decide) (q_t__law_tuples'2 h41) (pb_sv pb_nil)) q_c st_sv tr_sv tr_sv (gIx_T h42)) frz_fz) q_nil st_sv tr_sv) st_sv tr_sv) st_sv tr_sv) rfl (Nat.le_of_ble_eq_true rfl) rfl)) (mid_rt (.inl rfl))
  ·replace h := ite_f hb h
   refine sim_last rfl ?_
   refine mid_nx ?_
   obtain ⟨v43, h43, h⟩ := R.bind_ok h
   obtain ⟨v44, h44, h⟩ := R.bind_ok h
   obtain ⟨v45, h45, h⟩ := R.bind_ok h
   obtain ⟨v50, h50, h⟩ := R.bind_ok h
   refine sim_mid ?_
   refine sim_if (q_lor (q_tv (q_op2 (q_ix (q_vf rfl) q_c st_sv tr_sv tr_sv (gIx_L h43)) (q_tupE (d := (dP PyData.str PyData.str) (("never" : Str), ("stable" : Str))) (q_cons q_c (q_cons q_c q_nil st_sv tr_sv) st_sv tr_sv) rfl (Nat.le_of_ble_eq_true rfl) rfl) st_sv tr_sv tr_sv (gNotIn_v (x := v43) (xs := [(("never" : Str), ("stable" : Str)).1, (("never" : Str), ("stable" : Str)).2]) fai_s vw_fz (.inr vw_fz) (shaR_ok h44) (shaR_ok h45))) tr_sv) (fun hb => by have g := ite_f hb h50; obtain ⟨v46, h46, g⟩ := R.bind_ok g; obtain ⟨v47, h47, g⟩ := R.bind_ok g; obtain ⟨v48, h48, g⟩ := R.bind_ok g; obtain ⟨v49, h49, g⟩ := R.bind_ok g; obtain rfl := R.inj g; exact (q_tv (q_op2 (q_callB (q_cons (q_vf rfl) q_nil st_sv tr_sv) (trs_cons tr_sv trs_nil) (gLen_l len_L)) (q_ix (q_lstE (en := zI) (xs := [(2 : Int), (3 : Int)]) (q_cons q_c (q_cons q_c q_nil st_sv tr_sv) st_sv tr_sv) rfl (Nat.le_of_ble_eq_true rfl)) (q_callB (q_cons (q_op2 (q_ix (q_vf rfl) q_c st_sv tr_sv tr_sv (gIx_L h46)) q_c st_sv tr_sv tr_sv (gEq_v (x := v46) (y := ("stable" : Str)) fai_s vw_fz vw_fz (shaR_ok h47) (shaR_ok h48))) q_nil st_sv tr_sv) (trs_cons tr_sv trs_nil) gIntF_b) st_sv tr_sv tr_sv (gIx_F h49)) st_sv tr_sv tr_sv (gNe_v (x := (v1.length : Int)) (y := v49) fai_i vw_fz vw_fz (sha_ok sha_i (by decide) _) (sha_ok sha_i (by decide) _))) tr_sv)) (fun hb => (R.inj (ite_t hb h50)).symm)) (fun hb => ?_) (fun hb => ?_)
   ·replace h := ite_t hb h
    obtain rfl := R.inj h
    exact sim_ret (q_ret q_c) (mid_rt (.inl rfl))
   ·replace h := ite_f hb h
    refine sim_last rfl ?_
    refine mid_nx ?_
    obtain ⟨v51, h51, h⟩ := R.bind_ok h
    obtain ⟨v53, h53, h⟩ := R.bind_ok h
    obtain ⟨v54, h54, h⟩ := R.bind_ok h
    obtain ⟨v55, h55, h⟩ := R.bind_ok h
    refine sim_mid ?_
    refine sim_if (q_tv (q_op2 (q_lcF (vs := [6]) (en := PyData.str) (q_isL (q_fzs (q_ix (q_vf rfl) q_c st_sv tr_sv tr_sv (gIx_L h51)) frz_fz)) h53 rfl (fun x3 y hy => by obtain ⟨v52, h52, hy⟩ := R.bind_ok hy; skip; cases hb : (!v52) with | true => ( have g := ite_t hb hy; obtain rfl := R.inj g; exact ⟨⟨[tr (zS text_here_), tr ((sF (dL PyData.str)) v1), tr ((sF (dL (dL PyData.str))) v3), none, none, none, tr (zS x3)], [zS text_here_]⟩, _, true, rfl, tj_cast hb (q_lnot (q_tv (q_fnr (R := []) (q_cons (q_vf rfl) (q_cons q_c (q_cons q_c (q_cons q_c q_nil st_sv tr_sv) st_sv tr_sv) st_sv tr_sv) st_sv tr_sv) (trs_cons tr_sv (trs_cons tr_sv (trs_cons tr_sv (trs_cons tr_sv trs_nil)))) rfl (by decide) (q_t__law_is_of h52) (pb_sv (pb_sv (pb_sv (pb_sv pb_nil))))) tr_sv)), rfl, _, (q_fzs (q_vf rfl) frz_fz), rfl⟩ ) | false => ( have g := ite_f hb hy; obtain rfl := R.inj g; exact ⟨⟨[tr (zS text_here_), tr ((sF (dL PyData.str)) v1), tr ((sF (dL (dL PyData.str))) v3), none, none, none, tr (zS x3)], [zS text_here_]⟩, _, false, rfl, tj_cast hb (q_lnot (q_tv (q_fnr (R := []) (q_cons (q_vf rfl) (q_cons q_c (q_cons q_c (q_cons q_c q_nil st_sv tr_sv) st_sv tr_sv) st_sv tr_sv) st_sv tr_sv) (trs_cons tr_sv (trs_cons tr_sv (trs_cons tr_sv (trs_cons tr_sv trs_nil)))) rfl (by decide) (q_t__law_is_of h52) (pb_sv (pb_sv (pb_sv (pb_sv pb_nil))))) tr_sv)), rfl, rfl⟩ )) rfl) (q_lstE (en := zS) (xs := []) q_nil rfl (Nat.le_of_ble_eq_true rfl)) st_sv tr_sv tr_sv (gNe_v (x := v53) (y := ([] : (List Str))) (fai_L fai_s) (vw_L frz_F) (vw_L frz_F) (shaR_ok h54) (shaR_ok h55))) tr_sv) (fun hb => ?_) (fun hb => ?_)
    ·replace h := ite_t hb h
     obtain rfl := R.inj h
     exact sim_ret (q_ret q_c) (mid_rt (.inl rfl))
    ·replace h := ite_f hb h
     refine sim_last rfl ?_
     refine mid_nx ?_
     obtain ⟨v56, h56, h⟩ := R.bind_ok h
     obtain ⟨v57, h57, h⟩ := R.bind_ok h
     obtain ⟨v58, h58, h⟩ := R.bind_ok h
     refine sim_mid ?_
     refine sim_if (q_tv (q_op2 (q_ix (q_vf rfl) q_c st_sv tr_sv tr_sv (gIx_L h56)) q_c st_sv tr_sv tr_sv (gEq_v (x := v56) (y := ("never" : Str)) fai_s vw_fz vw_fz (shaR_ok h57) (shaR_ok h58))) tr_sv) (fun hb => ?_) (fun hb => ?_)
     ·replace h := ite_t hb h
      obtain ⟨v59, h59, h⟩ := R.bind_ok h
      obtain ⟨v60, h60, h⟩ := R.bind_ok h
      obtain rfl := R.inj h
      exact sim_ret (q_ret (q_tupE (d := (dP PyData.str zD) (("never" : Str), v60)) (q_cons q_c (q_cons (q_fzs (q_fnr (R := []) (q_cons (q_ix (q_vf rfl) q_c st_sv tr_sv tr_sv (gIx_L h59)) q_nil st_sv tr_sv) (trs_cons tr_sv trs_nil) rfl (by decide) (q_t__law_tuples h60) (pb_sv pb_nil)) frz_fz) q_nil st_sv tr_sv) st_sv tr_sv) rfl (Nat.le_of_ble_eq_true rfl) rfl)) (mid_rt (.inl rfl))
     ·replace h := ite_f hb h
      refine sim_last rfl ?_
      refine mid_nx ?_
      obtain ⟨v61, h61, h⟩ := R.bind_ok h
      obtain ⟨v63, h63, h⟩ := R.bind_ok h
      obtain ⟨v64, h64, h⟩ := R.bind_ok h
      obtain ⟨v65, h65, h⟩ := R.bind_ok h
      refine sim_mid ?_
      refine sim_if (q_tv (q_op2 (q_lcF (vs := [3]) (en := PyData.str) (q_isL (q_fzs (q_ix (q_vf rfl) q_c st_sv tr_sv tr_sv (gIx_L h61)) frz_fz)) h63 rfl (fun x4 y hy => by obtain ⟨v62, h62, hy⟩ := R.bind_ok hy; skip; cases hb : (!v62) with | true => ( have g := ite_t hb hy; obtain rfl := R.inj g; exact ⟨⟨[tr (zS text_here_), tr ((sF (dL PyData.str)) v1), tr ((sF (dL (dL PyData.str))) v3), tr (zS x4), none, none, none], [zS text_here_]⟩, _, true, rfl, tj_cast hb (q_lnot (q_tv (q_fnr (R := []) (q_cons (q_vf rfl) q_nil st_sv tr_sv) (trs_cons tr_sv trs_nil) rfl (by decide) (q_t__law_is_word_2 h62) (pb_sv pb_nil)) tr_sv)), rfl, _, (q_fzs (q_vf rfl) frz_fz), rfl⟩ ) | false => ( have g := ite_f hb hy; obtain rfl := R.inj g; exact ⟨⟨[tr (zS text_here_), tr ((sF (dL PyData.str)) v1), tr ((sF (dL (dL PyData.str))) v3), tr (zS x4), none, none, none], [zS text_here_]⟩, _, false, rfl, tj_cast hb (q_lnot (q_tv (q_fnr (R := []) (q_cons (q_vf rfl) q_nil st_sv tr_sv) (trs_cons tr_sv trs_nil) rfl (by decide) (q_t__law_is_word_2 h62) (pb_sv pb_nil)) tr_sv)), rfl, rfl⟩ )) rfl) (q_lstE (en := zS) (xs := []) q_nil rfl (Nat.le_of_ble_eq_true rfl)) st_sv tr_sv tr_sv (gNe_v (x := v63) (y := ([] : (List Str))) (fai_L fai_s) (vw_L frz_F) (vw_L frz_F) (shaR_ok h64) (shaR_ok h65))) tr_sv) (fun hb => ?_) (fun hb => ?_)
      ·replace h := ite_t hb h
       obtain rfl := R.inj h
       exact sim_ret (q_ret q_c) (mid_rt (.inl rfl))
      ·replace h := ite_f hb h
       refine sim_last rfl ?_
       refine mid_nx ?_
       obtain ⟨v66, h66, h⟩ := R.bind_ok h
       obtain ⟨v67, h67, h⟩ := R.bind_ok h
       obtain ⟨v68, h68, h⟩ := R.bind_ok h
       obtain ⟨v69, h69, h⟩ := R.bind_ok h
       obtain rfl := R.inj h
       exact sim_ret (q_ret (q_tupE (d := (dQ PyData.str zD (dT PyData.str)) (("stable" : Str), v67, v69)) (q_cons q_c (q_cons (q_fzs (q_fnr (R := []) (q_cons (q_ix (q_vf rfl) q_c st_sv tr_sv tr_sv (gIx_L h66)) q_nil st_sv tr_sv) (trs_cons tr_sv trs_nil) rfl (by decide) (q_t__law_tuples h67) (pb_sv pb_nil)) frz_fz) (q_cons (q_fzs (q_fnr (R := []) (q_cons (q_ix (q_vf rfl) q_c st_sv tr_sv tr_sv (gIx_L h68)) q_nil st_sv tr_sv) (trs_cons tr_sv trs_nil) rfl (by decide) (q_t__law_words'2 h69) (pb_sv pb_nil)) frz_fz) q_nil st_sv tr_sv) st_sv tr_sv) st_sv tr_sv) rfl (Nat.le_of_ble_eq_true rfl) rfl)) (.inl rfl)
def x_number_in (text_ : Str) : R Str := (t_is_written_number text_).bind fun v1 => if (!v1) = true then (R.ok "NoText") else (R.fail)
theorem qx_x_number_in {text_ : Str} {c : Str} (h : x_number_in text_ = .ok c) : m_number_in [zS text_] = .exc c none [zS text_] := by
 unfold x_number_in at h
 refine runFn_exc ⟨rfl, by decide⟩ ?_
 unfold b_number_in
 obtain ⟨v1, h1, h⟩ := R.bind_ok h
 refine sim_mid ?_
 refine sim_if (q_lnot (q_tv (q_fnr (R := []) (q_cons (q_vf rfl) q_nil st_sv tr_sv) (trs_cons tr_sv trs_nil) rfl (by decide) (q_t_is_written_number h1) (pb_sv pb_nil)) tr_sv)) (fun hb => ?_) (fun hb => ?_)
 ·replace h := ite_t hb h
  obtain rfl := R.inj h
  exact sim_exL rfl (mid_ex ⟨_, rfl, rfl⟩)
 ·replace h := ite_f hb h
  cases h
def x_numbers_in (text_ : Str) : R Str := (t_is_written text_ ("012345678" : Str) (1 : Int) (5000 : Int)).bind fun v1 => if (!v1) = true then (R.ok "NoText") else (R.fail)
theorem qx_x_numbers_in {text_ : Str} {c : Str} (h : x_numbers_in text_ = .ok c) : m_numbers_in [zS text_] = .exc c none [zS text_] := by
 unfold x_numbers_in at h
 refine runFn_exc ⟨rfl, by decide⟩ ?_
 unfold b_numbers_in
 obtain ⟨v1, h1, h⟩ := R.bind_ok h
 refine sim_mid ?_
 refine sim_if (q_lnot (q_tv (q_fnr (R := []) (q_cons (q_vf rfl) (q_cons q_c (q_cons q_c (q_cons q_c q_nil st_sv tr_sv) st_sv tr_sv) st_sv tr_sv) st_sv tr_sv) (trs_cons tr_sv (trs_cons tr_sv (trs_cons tr_sv (trs_cons tr_sv trs_nil)))) rfl (by decide) (q_t_is_written h1) (pb_sv (pb_sv (pb_sv (pb_sv pb_nil))))) tr_sv)) (fun hb => ?_) (fun hb => ?_)
 ·replace h := ite_t hb h
  obtain rfl := R.inj h
  exact sim_exL rfl (mid_ex ⟨_, rfl, rfl⟩)
 ·replace h := ite_f hb h
  cases h
def x_pairs_in (text_ : Str) : R Str := (splitR text_ ("," : Str)).bind fun v1 => (lcR v1 fun (x1 : Str) => (t_is_written x1 ("012345678" : Str) (2 : Int) (2 : Int)).bind fun v2 => R.ok v2).bind fun v3 => if (!(v3.all id)) = true then (R.ok "NoText") else (R.fail)
theorem qx_x_pairs_in {text_ : Str} {c : Str} (h : x_pairs_in text_ = .ok c) : m_pairs_in [zS text_] = .exc c none [zS text_] := by
 unfold x_pairs_in at h
 refine runFn_exc ⟨rfl, by decide⟩ ?_
 unfold b_pairs_in
 obtain ⟨v1, h1, h⟩ := R.bind_ok h
 refine sim_seq (q_asg (q_met (q_vf rfl) rfl (q_cons q_c q_nil st_sv tr_sv) st_sv tr_sv (trs_cons tr_sv trs_nil) (gSplit_ok h1)) rfl) ?_
 obtain ⟨v3, h3, h⟩ := R.bind_ok h
 refine sim_mid ?_
 refine sim_if (q_lnot (q_tv (q_viewp (q_vl rfl) rfl ((frz_L frz_F) v1) (EJ.up (q_callB (q_cons (q_lc (vs := [2]) (en := PyData.str) (q_isL (q_fzs (q_vf rfl) frz_fz)) h3 rfl (fun x1 y hy => by obtain ⟨v2, h2, hy⟩ := R.bind_ok hy; obtain rfl := R.inj hy; exact ⟨⟨[tr (zS text_), tr ((sF (dL PyData.str)) v1), tr (zS x1)], [zS text_]⟩, _, rfl, (q_fnr (R := []) (q_cons (q_vf rfl) (q_cons q_c (q_cons q_c (q_cons q_c q_nil st_sv tr_sv) st_sv tr_sv) st_sv tr_sv) st_sv tr_sv) (trs_cons tr_sv (trs_cons tr_sv (trs_cons tr_sv (trs_cons tr_sv trs_nil)))) rfl (by decide) (q_t_is_written h2) (pb_sv (pb_sv (pb_sv (pb_sv pb_nil))))), rfl⟩) rfl) q_nil st_sv tr_sv) (trs_cons tr_sv trs_nil) (gAll_l sql_F)) (by decide)) rfl) tr_sv)) (fun hb => ?_) (fun hb => ?_)
 ·replace h := ite_t hb h
  obtain rfl := R.inj h
  exact sim_exL rfl (mid_ex ⟨_, rfl, rfl⟩)
 ·replace h := ite_f hb h
  cases h
def x_words_in (text_ : Str) : R Str := orX ((splitR text_ ("," : Str)).bind fun v1 => lcX v1 (fun (x1 : Str) => x_word_in x1) fun (x1 : Str) => (t_word_in x1).bind fun v2 => R.ok v2) (R.fail)
theorem qx_x_words_in {text_ : Str} {c : Str} (h : x_words_in text_ = .ok c) : m_words_in [zS text_] = .exc c none [zS text_] := by
 unfold x_words_in at h
 refine runFn_exc ⟨rfl, by decide⟩ ?_
 unfold b_words_in
 rcases orX_ok h with h | h
 ·obtain ⟨v1, h1, h⟩ := R.bind_ok h
  exact sim_exL (exs_ret (ex_callB (exA_hd (ex_lcX (vs := [1]) (en := PyData.str) (q_isL (q_fzs (q_met (q_vf rfl) rfl (q_cons q_c q_nil st_sv tr_sv) st_sv tr_sv (trs_cons tr_sv trs_nil) (gSplit_ok h1)) ((frz_L frz_F) v1))) h rfl (fun x1 y hy => by obtain ⟨v2, h2, hy⟩ := R.bind_ok hy; obtain rfl := R.inj hy; exact ⟨⟨[tr (zS text_), tr (zS x1)], [zS text_]⟩, _, rfl, (q_fnr (R := []) (q_cons (q_vf rfl) q_nil st_sv tr_sv) (trs_cons tr_sv trs_nil) rfl (by decide) (q_t_word_in h2) (pb_sv pb_nil)), rfl⟩) (fun x1 c hy => by exact ⟨⟨[tr (zS text_), tr (zS x1)], [zS text_]⟩, _, rfl, (ex_fn (R := []) (q_cons (q_vf rfl) q_nil st_sv tr_sv) (trs_cons tr_sv trs_nil) rfl (by decide) (qx_x_word_in hy) (pb_sv pb_nil)), rfl⟩) rfl)))) ⟨_, rfl, rfl⟩
 ·cases h
def x_paper_by (words_ : (List Str)) : R Str := (ixR words_ (0 : Int)).bind fun v1 => (shaR (PyData.str v1)).bind fun v2 => (shaR (PyData.str ("call" : Str))).bind fun v3 => if ((decide (v1 = ("call" : Str))) && (decide ((words_.length : Int) = (4 : Int)))) = true then (orX ((ixR words_ (1 : Int)).bind fun v4 => x_rows_in v4 ("," : Str)) (orX ((ixR words_ (1 : Int)).bind fun v5 => (t_rows_in v5 ("," : Str)).bind fun v6 => (ixR words_ (2 : Int)).bind fun v7 => x_word_in v7) (orX ((ixR words_ (1 : Int)).bind fun v8 => (t_rows_in v8 ("," : Str)).bind fun v9 => (ixR words_ (2 : Int)).bind fun v10 => (t_word_in v10).bind fun v11 => (ixR words_ (3 : Int)).bind fun v12 => x_number_in v12) (R.fail)))) else ((ixR words_ (0 : Int)).bind fun v13 => (shaR (PyData.str v13)).bind fun v14 => (shaR (PyData.str ("beat" : Str))).bind fun v15 => if ((decide (v13 = ("beat" : Str))) && (decide ((words_.length : Int) = (3 : Int)))) = true then (orX ((ixR words_ (1 : Int)).bind fun v16 => x_number_in v16) (orX ((ixR words_ (1 : Int)).bind fun v17 => (t_number_in v17).bind fun v18 => (ixR words_ (2 : Int)).bind fun v19 => x_numbers_in v19) (R.fail))) else ((ixR words_ (0 : Int)).bind fun v20 => (shaR (PyData.str v20)).bind fun v21 => (shaR (PyData.str ("never" : Str))).bind fun v22 => if ((decide (v20 = ("never" : Str))) && (decide ((words_.length : Int) = (2 : Int)))) = true then (orX ((ixR words_ (1 : Int)).bind fun v23 => x_pairs_in v23) (R.fail)) else ((ixR words_ (0 : Int)).bind fun v24 => (shaR (PyData.str v24)).bind fun v25 => (shaR (PyData.str ("stable" : Str))).bind fun v26 => if ((decide (v24 = ("stable" : Str))) && (decide ((words_.length : Int) = (3 : Int)))) = true then (orX ((ixR words_ (1 : Int)).bind fun v27 => x_pairs_in v27) (orX ((ixR words_ (1 : Int)).bind fun v28 => (t_pairs_in v28).bind fun v29 => (ixR words_ (2 : Int)).bind fun v30 => x_words_in v30) (R.fail))) else (R.ok "NoText"))))
theorem qx_x_paper_by {words_ : (List Str)} {c : Str} (h : x_paper_by words_ = .ok c) : m_paper_by [(sL zS) words_] = .exc c none [(sL zS) words_] := by
 unfold x_paper_by at h
 refine runFn_exc ⟨rfl, by decide⟩ ?_
 unfold b_paper_by
 obtain ⟨v1, h1, h⟩ := R.bind_ok h
 obtain ⟨v2, h2, h⟩ := R.bind_ok h
 obtain ⟨v3, h3, h⟩ := R.bind_ok h
 refine sim_mid ?_
 refine sim_if (q_landp (q_tv (q_op2 (q_ix (q_va (j := 0) rfl rfl) q_c st_pk (tr_pk rfl) tr_sv (gIx_F h1)) q_c st_sv tr_sv tr_sv (gEq_v (x := v1) (y := ("call" : Str)) fai_s vw_fz vw_fz (shaR_ok h2) (shaR_ok h3))) tr_sv) (q_tv (q_op2 (q_callB (q_cons (q_va (j := 0) rfl rfl) q_nil st_pk (tr_pk rfl)) (trs_cons (tr_pk rfl) trs_nil) (gLen_l len_sL)) q_c st_sv tr_sv tr_sv (gEq_v (x := (words_.length : Int)) (y := (4 : Int)) fai_i vw_fz vw_fz (sha_ok sha_i (by decide) _) (sha_ok sha_i (by decide) _))) tr_sv)) (fun hb => ?_) (fun hb => ?_)
 ·replace h := ite_t hb h
  rcases orX_ok h with h | h
  ·obtain ⟨v4, h4, h⟩ := R.bind_ok h
   exact sim_exL (exs_ret (ex_tup (exA_tl q_c (exA_hd (ex_fz (ex_fn (R := []) (q_cons (q_ix (q_va (j := 0) rfl rfl) q_c st_pk (tr_pk rfl) tr_sv (gIx_F h4)) (q_cons q_c q_nil st_sv tr_sv) st_sv tr_sv) (trs_cons tr_sv (trs_cons tr_sv trs_nil)) rfl (by decide) (qx_x_rows_in h) (pb_sv (pb_sv pb_nil)))))))) (mid_ex ⟨_, rfl, rfl⟩)
  ·rcases orX_ok h with h | h
   ·obtain ⟨v5, h5, h⟩ := R.bind_ok h
    obtain ⟨v6, h6, h⟩ := R.bind_ok h
    obtain ⟨v7, h7, h⟩ := R.bind_ok h
    exact sim_exL (exs_ret (ex_tup (exA_tl q_c (exA_tl (q_fzs (q_fnr (R := []) (q_cons (q_ix (q_va (j := 0) rfl rfl) q_c st_pk (tr_pk rfl) tr_sv (gIx_F h5)) (q_cons q_c q_nil st_sv tr_sv) st_sv tr_sv) (trs_cons tr_sv (trs_cons tr_sv trs_nil)) rfl (by decide) (q_t_rows_in h6) (pb_sv (pb_sv pb_nil))) frz_fz) (exA_hd (ex_fz (ex_fn (R := []) (q_cons (q_ix (q_va (j := 0) rfl rfl) q_c st_pk (tr_pk rfl) tr_sv (gIx_F h7)) q_nil st_sv tr_sv) (trs_cons tr_sv trs_nil) rfl (by decide) (qx_x_word_in h) (pb_sv pb_nil)))))))) (mid_ex ⟨_, rfl, rfl⟩)
   ·rcases orX_ok h with h | h
    ·obtain ⟨v8, h8, h⟩ := R.bind_ok h
     obtain ⟨v9, h9, h⟩ := R.bind_ok h
     obtain ⟨v10, h10, h⟩ := R.bind_ok h
     obtain ⟨v11, h11, h⟩ := R.bind_ok h
     obtain ⟨v12, h12, h⟩ := R.bind_ok h
     exact sim_exL (exs_ret (ex_tup (exA_tl q_c (exA_tl (q_fzs (q_fnr (R := []) (q_cons (q_ix (q_va (j := 0) rfl rfl) q_c st_pk (tr_pk rfl) tr_sv (gIx_F h8)) (q_cons q_c q_nil st_sv tr_sv) st_sv tr_sv) (trs_cons tr_sv (trs_cons tr_sv trs_nil)) rfl (by decide) (q_t_rows_in h9) (pb_sv (pb_sv pb_nil))) frz_fz) (exA_tl (q_fzs (q_fnr (R := []) (q_cons (q_ix (q_va (j := 0) rfl rfl) q_c st_pk (tr_pk rfl) tr_sv (gIx_F h10)) q_nil st_sv tr_sv) (trs_cons tr_sv trs_nil) rfl (by decide) (q_t_word_in h11) (pb_sv pb_nil)) frz_fz) (exA_hd (ex_fz (ex_fn (R := []) (q_cons (q_ix (q_va (j := 0) rfl rfl) q_c st_pk (tr_pk rfl) tr_sv (gIx_F h12)) q_nil st_sv tr_sv) (trs_cons tr_sv trs_nil) rfl (by decide) (qx_x_number_in h) (pb_sv pb_nil))))))))) (mid_ex ⟨_, rfl, rfl⟩)
    ·cases h
 ·replace h := ite_f hb h
  refine sim_last rfl ?_
  refine mid_nx ?_
  obtain ⟨v13, h13, h⟩ := R.bind_ok h
  obtain ⟨v14, h14, h⟩ := R.bind_ok h
  obtain ⟨v15, h15, h⟩ := R.bind_ok h
  refine sim_mid ?_
  refine sim_if (q_landp (q_tv (q_op2 (q_ix (q_va (j := 0) rfl rfl) q_c st_pk (tr_pk rfl) tr_sv (gIx_F h13)) q_c st_sv tr_sv tr_sv (gEq_v (x := v13) (y := ("beat" : Str)) fai_s vw_fz vw_fz (shaR_ok h14) (shaR_ok h15))) tr_sv) (q_tv (q_op2 (q_callB (q_cons (q_va (j := 0) rfl rfl) q_nil st_pk (tr_pk rfl)) (trs_cons (tr_pk rfl) trs_nil) (gLen_l len_sL)) q_c st_sv tr_sv tr_sv (gEq_v (x := (words_.length : Int)) (y := (3 : Int)) fai_i vw_fz vw_fz (sha_ok sha_i (by decide) _) (sha_ok sha_i (by decide) _))) tr_sv)) (fun hb => ?_) (fun hb => ?_)
  ·replace h := ite_t hb h
   rcases orX_ok h with h | h
   ·obtain ⟨v16, h16, h⟩ := R.bind_ok h
    exact sim_exL (exs_ret (ex_tup (exA_tl q_c (exA_hd (ex_fz (ex_fn (R := []) (q_cons (q_ix (q_va (j := 0) rfl rfl) q_c st_pk (tr_pk rfl) tr_sv (gIx_F h16)) q_nil st_sv tr_sv) (trs_cons tr_sv trs_nil) rfl (by decide) (qx_x_number_in h) (pb_sv pb_nil))))))) (mid_ex ⟨_, rfl, rfl⟩)
   ·rcases orX_ok h with h | h
    ·obtain ⟨v17, h17, h⟩ := R.bind_ok h
     obtain ⟨v18, h18, h⟩ := R.bind_ok h
     obtain ⟨v19, h19, h⟩ := R.bind_ok h
     exact sim_exL (exs_ret (ex_tup (exA_tl q_c (exA_tl (q_fzs (q_fnr (R := []) (q_cons (q_ix (q_va (j := 0) rfl rfl) q_c st_pk (tr_pk rfl) tr_sv (gIx_F h17)) q_nil st_sv tr_sv) (trs_cons tr_sv trs_nil) rfl (by decide) (q_t_number_in h18) (pb_sv pb_nil)) frz_fz) (exA_hd (ex_fz (ex_fn (R := []) (q_cons (q_ix (q_va (j := 0) rfl rfl) q_c st_pk (tr_pk rfl) tr_sv (gIx_F h19)) q_nil st_sv tr_sv) (trs_cons tr_sv trs_nil) rfl (by decide) (qx_x_numbers_in h) (pb_sv pb_nil)))))))) (mid_ex ⟨_, rfl, rfl⟩)
    ·cases h
  ·replace h := ite_f hb h
   refine sim_last rfl ?_
   refine mid_nx ?_
   obtain ⟨v20, h20, h⟩ := R.bind_ok h
   obtain ⟨v21, h21, h⟩ := R.bind_ok h
   obtain ⟨v22, h22, h⟩ := R.bind_ok h
   refine sim_mid ?_
   refine sim_if (q_landp (q_tv (q_op2 (q_ix (q_va (j := 0) rfl rfl) q_c st_pk (tr_pk rfl) tr_sv (gIx_F h20)) q_c st_sv tr_sv tr_sv (gEq_v (x := v20) (y := ("never" : Str)) fai_s vw_fz vw_fz (shaR_ok h21) (shaR_ok h22))) tr_sv) (q_tv (q_op2 (q_callB (q_cons (q_va (j := 0) rfl rfl) q_nil st_pk (tr_pk rfl)) (trs_cons (tr_pk rfl) trs_nil) (gLen_l len_sL)) q_c st_sv tr_sv tr_sv (gEq_v (x := (words_.length : Int)) (y := (2 : Int)) fai_i vw_fz vw_fz (sha_ok sha_i (by decide) _) (sha_ok sha_i (by decide) _))) tr_sv)) (fun hb => ?_) (fun hb => ?_)
   ·replace h := ite_t hb h
    rcases orX_ok h with h | h
    ·obtain ⟨v23, h23, h⟩ := R.bind_ok h
     exact sim_exL (exs_ret (ex_tup (exA_tl q_c (exA_hd (ex_fz (ex_fn (R := []) (q_cons (q_ix (q_va (j := 0) rfl rfl) q_c st_pk (tr_pk rfl) tr_sv (gIx_F h23)) q_nil st_sv tr_sv) (trs_cons tr_sv trs_nil) rfl (by decide) (qx_x_pairs_in h) (pb_sv pb_nil))))))) (mid_ex ⟨_, rfl, rfl⟩)
    ·cases h
   ·replace h := ite_f hb h
    refine sim_last rfl ?_
    refine mid_nx ?_
    obtain ⟨v24, h24, h⟩ := R.bind_ok h
    obtain ⟨v25, h25, h⟩ := R.bind_ok h
    obtain ⟨v26, h26, h⟩ := R.bind_ok h
    refine sim_mid ?_
    refine sim_if (q_landp (q_tv (q_op2 (q_ix (q_va (j := 0) rfl rfl) q_c st_pk (tr_pk rfl) tr_sv (gIx_F h24)) q_c st_sv tr_sv tr_sv (gEq_v (x := v24) (y := ("stable" : Str)) fai_s vw_fz vw_fz (shaR_ok h25) (shaR_ok h26))) tr_sv) (q_tv (q_op2 (q_callB (q_cons (q_va (j := 0) rfl rfl) q_nil st_pk (tr_pk rfl)) (trs_cons (tr_pk rfl) trs_nil) (gLen_l len_sL)) q_c st_sv tr_sv tr_sv (gEq_v (x := (words_.length : Int)) (y := (3 : Int)) fai_i vw_fz vw_fz (sha_ok sha_i (by decide) _) (sha_ok sha_i (by decide) _))) tr_sv)) (fun hb => ?_) (fun hb => ?_)
    ·replace h := ite_t hb h
     rcases orX_ok h with h | h
     ·obtain ⟨v27, h27, h⟩ := R.bind_ok h
      exact sim_exL (exs_ret (ex_tup (exA_tl q_c (exA_hd (ex_fz (ex_fn (R := []) (q_cons (q_ix (q_va (j := 0) rfl rfl) q_c st_pk (tr_pk rfl) tr_sv (gIx_F h27)) q_nil st_sv tr_sv) (trs_cons tr_sv trs_nil) rfl (by decide) (qx_x_pairs_in h) (pb_sv pb_nil))))))) (mid_ex ⟨_, rfl, rfl⟩)
     ·rcases orX_ok h with h | h
      ·obtain ⟨v28, h28, h⟩ := R.bind_ok h
       obtain ⟨v29, h29, h⟩ := R.bind_ok h
       obtain ⟨v30, h30, h⟩ := R.bind_ok h
       exact sim_exL (exs_ret (ex_tup (exA_tl q_c (exA_tl (q_fzs (q_fnr (R := []) (q_cons (q_ix (q_va (j := 0) rfl rfl) q_c st_pk (tr_pk rfl) tr_sv (gIx_F h28)) q_nil st_sv tr_sv) (trs_cons tr_sv trs_nil) rfl (by decide) (q_t_pairs_in h29) (pb_sv pb_nil)) frz_fz) (exA_hd (ex_fz (ex_fn (R := []) (q_cons (q_ix (q_va (j := 0) rfl rfl) q_c st_pk (tr_pk rfl) tr_sv (gIx_F h30)) q_nil st_sv tr_sv) (trs_cons tr_sv trs_nil) rfl (by decide) (qx_x_words_in h) (pb_sv pb_nil)))))))) (mid_ex ⟨_, rfl, rfl⟩)
      ·cases h
    ·replace h := ite_f hb h
     refine sim_last rfl ?_
     refine mid_nx ?_
     obtain rfl := R.inj h
     exact sim_exL rfl ⟨_, rfl, rfl⟩
def x_read_paper (text_ : Str) : R Str := if false = true then (R.ok "NoText") else (orX ((splitR text_ (" " : Str)).bind fun v1 => x_paper_by v1) (R.fail))
theorem qx_x_read_paper {text_ : Str} {c : Str} (h : x_read_paper text_ = .ok c) : m_read_paper [zS text_] = .exc c none [zS text_] := by
 unfold x_read_paper at h
 refine runFn_exc ⟨rfl, by decide⟩ ?_
 unfold b_read_paper
 refine sim_mid ?_
 refine sim_if (q_lnot (q_tv (q_isi (q_vf rfl) tr_sv rfl rfl) tr_sv)) (fun hb => ?_) (fun hb => ?_)
 ·replace h := ite_t hb h
  obtain rfl := R.inj h
  exact sim_exL rfl (mid_ex ⟨_, rfl, rfl⟩)
 ·replace h := ite_f hb h
  refine sim_last rfl ?_
  refine mid_nx ?_
  rcases orX_ok h with h | h
  ·obtain ⟨v1, h1, h⟩ := R.bind_ok h
   exact sim_exL (exs_ret (ex_fn (R := []) (q_cons (q_met (q_vf rfl) rfl (q_cons q_c q_nil st_sv tr_sv) st_sv tr_sv (trs_cons tr_sv trs_nil) (gSplit_ok h1)) q_nil st_sv tr_sv) (trs_cons tr_sv trs_nil) rfl (by decide) (qx_x_paper_by h) (pb_sv pb_nil))) ⟨_, rfl, rfl⟩
  ·cases h
def t__law_told_9 (text_here_ : Str) : R (PyData) := tryX [("NoText", true)] (orX (x_read_paper text_here_) (R.fail)) (fun (c1 : Str) => (isX [("NoText", true)] c1).bind fun v1 => (if v1 = true then ((isX [("NoText", false)] c1).bind fun v2 => R.ok (!v2)) else R.ok false).bind fun v3 => if v3 = true then (R.ok (PyData.str ("refused" : Str))) else (R.ok (PyData.str ("else" : Str)))) ((t_read_paper text_here_).bind fun v4 => R.ok v4)
theorem q_t__law_told_9 {text_here_ : Str} {out : (PyData)} (h : t__law_told_9 text_here_ = .ok out) : m__law_told_9 [zS text_here_] = .ret (zA out) [zS text_here_] := by
 unfold t__law_told_9 at h
 refine runFn_fin ⟨rfl, by decide⟩ ?_
 unfold b__law_told_9
 rcases tryX_ok h with ⟨c1, hx, ht, h⟩ | h
 ·refine sim_tryX (S1 := ⟨[tr (zS text_here_), none], [zS text_here_]⟩) (S2 := ⟨[tr (zS text_here_), some (.ex c1 none)], [zS text_here_]⟩) (c := c1) ?_ rfl (Nat.le_of_ble_eq_true rfl) ht rfl ?_
  ·rcases orX_ok hx with hx | hx
   ·exact sim_exL (exs_ret (ex_fz (ex_fn (R := []) (q_cons (q_vf rfl) q_nil st_sv tr_sv) (trs_cons tr_sv trs_nil) rfl (by decide) (qx_x_read_paper hx) (pb_sv pb_nil)))) rfl
   ·cases hx
  ·obtain ⟨v1, h1, h⟩ := R.bind_ok h
   obtain ⟨v3, h3, h⟩ := R.bind_ok h
   refine sim_mid ?_
   refine sim_if (q_land (q_tv (q_isE rfl h1) tr_sv) (fun hb => by have g := ite_t hb h3; obtain ⟨v2, h2, g⟩ := R.bind_ok g; obtain rfl := R.inj g; exact (q_lnot (q_tv (q_isE rfl h2) tr_sv))) (fun hb => (R.inj (ite_f hb h3)).symm)) (fun hb => ?_) (fun hb => ?_)
   ·replace h := ite_t hb h
    obtain rfl := R.inj h
    exact sim_ret (q_ret q_c) (mid_rt (hd_rt (.inl rfl)))
   ·replace h := ite_f hb h
    refine sim_last rfl ?_
    refine mid_nx ?_
    obtain rfl := R.inj h
    exact sim_ret (q_ret q_c) (hd_rt (.inl rfl))
 ·refine sim_tryO (by repeat (first | exact ne_fin | exact ne_hd | exact ne_hn | exact ne_jn | exact ne_nx | exact ne_ctl | refine ne_mid ?_)) ?_
  obtain ⟨v4, h4, h⟩ := R.bind_ok h
  obtain rfl := R.inj h
  exact sim_ret (q_ret (q_fzs (q_fnr (R := []) (q_cons (q_vf rfl) q_nil st_sv tr_sv) (trs_cons tr_sv trs_nil) rfl (by decide) (q_t_read_paper h4) (pb_sv pb_nil)) frz_fz)) (.inl rfl)
def t_read_paper'a (text_ : PyData) : R (PyData) := (isiA .str ((sF dA) text_)).bind fun v1 => if (!v1) = true then (R.fail) else ((strA text_).bind fun v2 => (splitR v2 (" " : Str)).bind fun v3 => (t_paper_by v3).bind fun v4 => R.ok v4)
theorem q_t_read_paper'a {text_ : PyData} {out : (PyData)} (h : t_read_paper'a text_ = .ok out) : m_read_paper [zA text_] = .ret (zA out) [zA text_] := by
 unfold t_read_paper'a at h
 refine runFn_fin ⟨rfl, by decide⟩ ?_
 unfold b_read_paper
 obtain ⟨v1, h1, h⟩ := R.bind_ok h
 refine sim_mid ?_
 refine sim_if (q_lnot (q_tv (q_isiA (q_vf rfl) tr_sv h1) tr_sv)) (fun hb => ?_) (fun hb => ?_)
 ·replace h := ite_t hb h
  cases h
 ·replace h := ite_f hb h
  refine sim_last rfl ?_
  refine mid_nx ?_
  obtain ⟨v2, h2, h⟩ := R.bind_ok h
  obtain ⟨v3, h3, h⟩ := R.bind_ok h
  obtain ⟨v4, h4, h⟩ := R.bind_ok h
  obtain rfl := R.inj h
  exact sim_ret (q_ret (q_fnr (R := []) (q_cons (q_met (q_asS (q_vf rfl) h2) rfl (q_cons q_c q_nil st_sv tr_sv) st_sv tr_sv (trs_cons tr_sv trs_nil) (gSplit_ok h3)) q_nil st_sv tr_sv) (trs_cons tr_sv trs_nil) rfl (by decide) (q_t_paper_by h4) (pb_sv pb_nil))) (.inl rfl)
def x_read_paper'a (text_ : PyData) : R Str := (isiA .str ((sF dA) text_)).bind fun v1 => if (!v1) = true then (R.ok "NoText") else (orX ((strA text_).bind fun v2 => (splitR v2 (" " : Str)).bind fun v3 => x_paper_by v3) (R.fail))
theorem qx_x_read_paper'a {text_ : PyData} {c : Str} (h : x_read_paper'a text_ = .ok c) : m_read_paper [zA text_] = .exc c none [zA text_] := by
 unfold x_read_paper'a at h
 refine runFn_exc ⟨rfl, by decide⟩ ?_
 unfold b_read_paper
 obtain ⟨v1, h1, h⟩ := R.bind_ok h
 refine sim_mid ?_
 refine sim_if (q_lnot (q_tv (q_isiA (q_vf rfl) tr_sv h1) tr_sv)) (fun hb => ?_) (fun hb => ?_)
 ·replace h := ite_t hb h
  obtain rfl := R.inj h
  exact sim_exL rfl (mid_ex ⟨_, rfl, rfl⟩)
 ·replace h := ite_f hb h
  refine sim_last rfl ?_
  refine mid_nx ?_
  rcases orX_ok h with h | h
  ·obtain ⟨v2, h2, h⟩ := R.bind_ok h
   obtain ⟨v3, h3, h⟩ := R.bind_ok h
   exact sim_exL (exs_ret (ex_fn (R := []) (q_cons (q_met (q_asS (q_vf rfl) h2) rfl (q_cons q_c q_nil st_sv tr_sv) st_sv tr_sv (trs_cons tr_sv trs_nil) (gSplit_ok h3)) q_nil st_sv tr_sv) (trs_cons tr_sv trs_nil) rfl (by decide) (qx_x_paper_by h) (pb_sv pb_nil))) ⟨_, rfl, rfl⟩
  ·cases h
def t__law_told_9'a (text_here_ : PyData) : R (PyData) := tryX [("NoText", true)] (orX (x_read_paper'a text_here_) (R.fail)) (fun (c1 : Str) => (isX [("NoText", true)] c1).bind fun v1 => (if v1 = true then ((isX [("NoText", false)] c1).bind fun v2 => R.ok (!v2)) else R.ok false).bind fun v3 => if v3 = true then (R.ok (PyData.str ("refused" : Str))) else (R.ok (PyData.str ("else" : Str)))) ((t_read_paper'a text_here_).bind fun v4 => R.ok v4)
theorem q_t__law_told_9'a {text_here_ : PyData} {out : (PyData)} (h : t__law_told_9'a text_here_ = .ok out) : m__law_told_9 [zA text_here_] = .ret (zA out) [zA text_here_] := by
 unfold t__law_told_9'a at h
 refine runFn_fin ⟨rfl, by decide⟩ ?_
 unfold b__law_told_9
 rcases tryX_ok h with ⟨c1, hx, ht, h⟩ | h
 ·refine sim_tryX (S1 := ⟨[tr (zA text_here_), none], [zA text_here_]⟩) (S2 := ⟨[tr (zA text_here_), some (.ex c1 none)], [zA text_here_]⟩) (c := c1) ?_ rfl (Nat.le_of_ble_eq_true rfl) ht rfl ?_
  ·rcases orX_ok hx with hx | hx
   ·exact sim_exL (exs_ret (ex_fz (ex_fn (R := []) (q_cons (q_vf rfl) q_nil st_sv tr_sv) (trs_cons tr_sv trs_nil) rfl (by decide) (qx_x_read_paper'a hx) (pb_sv pb_nil)))) rfl
   ·cases hx
  ·obtain ⟨v1, h1, h⟩ := R.bind_ok h
   obtain ⟨v3, h3, h⟩ := R.bind_ok h
   refine sim_mid ?_
   refine sim_if (q_land (q_tv (q_isE rfl h1) tr_sv) (fun hb => by have g := ite_t hb h3; obtain ⟨v2, h2, g⟩ := R.bind_ok g; obtain rfl := R.inj g; exact (q_lnot (q_tv (q_isE rfl h2) tr_sv))) (fun hb => (R.inj (ite_f hb h3)).symm)) (fun hb => ?_) (fun hb => ?_)
   ·replace h := ite_t hb h
    obtain rfl := R.inj h
    exact sim_ret (q_ret q_c) (mid_rt (hd_rt (.inl rfl)))
   ·replace h := ite_f hb h
    refine sim_last rfl ?_
    refine mid_nx ?_
    obtain rfl := R.inj h
    exact sim_ret (q_ret q_c) (hd_rt (.inl rfl))
 ·refine sim_tryO (by repeat (first | exact ne_fin | exact ne_hd | exact ne_hn | exact ne_jn | exact ne_nx | exact ne_ctl | refine ne_mid ?_)) ?_
  obtain ⟨v4, h4, h⟩ := R.bind_ok h
  obtain rfl := R.inj h
  exact sim_ret (q_ret (q_fzs (q_fnr (R := []) (q_cons (q_vf rfl) q_nil st_sv tr_sv) (trs_cons tr_sv trs_nil) rfl (by decide) (q_t_read_paper'a h4) (pb_sv pb_nil)) frz_fz)) (.inl rfl)
def t_law_59_L2 (script_ : (List Int)) (k_2 : Int) (bag_here_2 : (List Int)) (text_here_2 : Str) (s : Unit) (x : Str) : R (Ctl (Bool) Unit) := (t__law_due_11 x).bind fun v7 => (slenR x).bind fun v8 => (if (decide (v8 ≤ (5000 : Int))) = true then ((t__law_told_9 x).bind fun v9 => (op2B gNotN ((sF dA) v7) ((sF dN) ())).bind fun v10 => (if v10 = true then (R.ok v7) else (R.ok (PyData.str ("refused" : Str)))).bind fun v11 => (op2B gNe ((sF dA) v9) ((sF dA) v11)).bind fun v12 => R.ok v12) else R.ok false).bind fun v13 => if v13 = true then (R.ok (Ctl.rt false)) else (R.ok (Ctl.nx ()))
def st_law_59_L2 (script_ : zG) (k_2 : Int) (bag_here_2 : zG) (text_here_2 : Str) (j6_2 : Option Sl) (s : Unit) (S : DS) : Prop := ∃ w1 w2 : Option Sl, S = ⟨[tr ((sR (dL PyData.int)) script_), tr (zI k_2), tr (zL bag_here_2), tr (zS text_here_2), w1, w2, j6_2], [(sR (dL PyData.int)) script_]⟩
theorem q_t_law_59_L2 {script_ : zG} {k_2 : Int} {bag_here_2 : zG} {text_here_2 : Str} {j6_2 : Option Sl} : ∀ (s : Unit) (x : Str) (c : Ctl (Bool) Unit) (S : DS), st_law_59_L2 script_ k_2 bag_here_2 text_here_2 j6_2 s S → t_law_59_L2 script_ k_2 bag_here_2 text_here_2 s x = .ok c → ∃ S1, (gSet 4) (.fz (PyData.str x)) S = .nx S1 ∧ Sim (f1_law_59 S1) (CtlP (st_law_59_L2 script_ k_2 bag_here_2 text_here_2 j6_2) (fun z t A => t = zB z ∧ A = [(sR (dL PyData.int)) script_]) c) := by
 rintro s x c _ ⟨w1, w2, rfl⟩ h
 unfold t_law_59_L2 at h
 refine ⟨⟨[tr ((sR (dL PyData.int)) script_), tr (zI k_2), tr (zL bag_here_2), tr (zS text_here_2), tr (zS x), w2, j6_2], [(sR (dL PyData.int)) script_]⟩, rfl, ?_⟩
 unfold f1_law_59
 obtain ⟨v7, h7, h⟩ := R.bind_ok h
 refine sim_seq (q_asg (q_fnr (R := []) (q_cons (q_vf rfl) q_nil st_sv tr_sv) (trs_cons tr_sv trs_nil) rfl (by decide) (q_t__law_due_11 h7) (pb_sv pb_nil)) rfl) ?_
 obtain ⟨v8, h8, h⟩ := R.bind_ok h
 obtain ⟨v13, h13, h⟩ := R.bind_ok h
 refine sim_if (q_land (q_tv (q_op2 (q_callB (q_cons (q_vf rfl) q_nil st_sv tr_sv) (trs_cons tr_sv trs_nil) (gLen_s h8)) q_c st_sv tr_sv tr_sv gLe_i) tr_sv) (fun hb => by have g := ite_t hb h13; obtain ⟨v9, h9, g⟩ := R.bind_ok g; obtain ⟨v10, h10, g⟩ := R.bind_ok g; obtain ⟨v11, h11, g⟩ := R.bind_ok g; obtain ⟨v12, h12, g⟩ := R.bind_ok g; obtain rfl := R.inj g; exact (q_tv (q_op2 (q_fnr (R := []) (q_cons (q_vf rfl) q_nil st_sv tr_sv) (trs_cons tr_sv trs_nil) rfl (by decide) (q_t__law_told_9 h9) (pb_sv pb_nil)) (q_if0 (z := zA v11) (q_tv (q_op2 (q_vf rfl) q_c st_sv tr_sv tr_sv (op2B_ok h10)) tr_sv) (fun hb => by have g := ite_t hb h11; obtain rfl := R.inj g; exact EJ.up (q_fzs (q_vf rfl) frz_fz) (by decide)) (fun hb => by have g := ite_f hb h11; obtain rfl := R.inj g; exact EJ.up q_c (by decide))) st_sv tr_sv tr_sv (op2B_ok h12)) tr_sv)) (fun hb => (R.inj (ite_f hb h13)).symm)) (fun hb => ?_) (fun hb => ?_)
 ·replace h := ite_t hb h
  obtain rfl := R.inj h
  exact sim_ret (q_ret q_c) ⟨_, _, rfl, rfl, rfl⟩
 ·replace h := ite_f hb h
  refine sim_last rfl ?_
  obtain rfl := R.inj h
  exact ⟨_, .inl rfl, ⟨_, _, rfl⟩⟩
def t_law_59_L1 (script_ : (List Int)) (s : Unit) (x : Int) : R (Ctl (Bool) Unit) := (t__law_bag script_ x).bind fun v2 => (t__law_text_2 v2).bind fun v3 => (t__law_changed_4 v3.2 v3.1).bind fun v4 => (t__law_changed_4 v4.2 v3.1).bind fun v5 => (t__law_changed_4 v5.2 v5.1).bind fun v6 => (forC (t_law_59_L2 script_ x v6.2 v3.1) ([v3.1, v4.1, v6.1] : (List Str)) ()).bind fun (r14 : Ctl (Bool) Unit) => r14.elim (fun s2 => (t__law_take v6.2 (6 : Int)).bind fun v15 => (ixR ([(dN ()), (PyData.int (0 : Int)), (PyData.bool true), ((dL PyData.str) ([v3.1] : (List Str))), ((dT PyData.str) ([v3.1] : (List Str))), ((dT dA) ([(PyData.str ("call" : Str)), ((dT (dP PyData.int PyData.int)) ([((0 : Int), (0 : Int))] : (List (Int × Int)))), (PyData.str ("" : Str)), (PyData.int (1 : Int))] : (List PyData)))] : (List PyData)) v15.1).bind fun v16 => (t__law_told_9'a v16).bind fun v17 => (op2B gNe ((sF dA) v17) ((sF PyData.str) ("refused" : Str))).bind fun v18 => (if v18 = true then R.ok true else ((t__law_told_9 ("" : Str)).bind fun v19 => (op2B gNe ((sF dA) v19) ((sF PyData.str) ("refused" : Str))).bind fun v20 => R.ok v20)).bind fun v21 => if v21 = true then (R.ok (Ctl.rt false)) else (R.ok (Ctl.nx ()))) (fun z2 => R.ok (Ctl.rt z2))
def st_law_59_L1 (script_ : zG) (s : Unit) (S : DS) : Prop := ∃ w1 w2 w3 w4 w5 w6 : Option Sl, S = ⟨[tr ((sR (dL PyData.int)) script_), w1, w2, w3, w4, w5, w6], [(sR (dL PyData.int)) script_]⟩
theorem q_t_law_59_L1 {script_ : zG} : ∀ (s : Unit) (x : Int) (c : Ctl (Bool) Unit) (S : DS), st_law_59_L1 script_ s S → t_law_59_L1 script_ s x = .ok c → ∃ S1, (gSet 1) (.fz (PyData.int x)) S = .nx S1 ∧ Sim (f2_law_59 S1) (CtlP (st_law_59_L1 script_) (fun z t A => t = zB z ∧ A = [(sR (dL PyData.int)) script_]) c) := by
 rintro s x c _ ⟨w1, w2, w3, w4, w5, w6, rfl⟩ h
 unfold t_law_59_L1 at h
 refine ⟨⟨[tr ((sR (dL PyData.int)) script_), tr (zI x), w2, w3, w4, w5, w6], [(sR (dL PyData.int)) script_]⟩, rfl, ?_⟩
 unfold f2_law_59
 obtain ⟨v2, h2, h⟩ := R.bind_ok h
 refine sim_seq (q_asg (q_fnr (R := []) (q_cons (q_vr (d := (dL PyData.int) script_) rfl) (q_cons (q_vf rfl) q_nil st_sv tr_sv) st_sv tr_sv) (trs_cons tr_sv (trs_cons tr_sv trs_nil)) rfl (by decide) (q_t__law_bag h2) (pb_sv (pb_sv pb_nil))) rfl) ?_
 obtain ⟨v3, h3, h⟩ := R.bind_ok h
 refine sim_seq (q_asg (q_fnr (R := [.s 2]) (q_cons (q_vl rfl) q_nil st_pk (tr_pk rfl)) (trs_cons (tr_pk rfl) trs_nil) rfl (by decide) (q_t__law_text_2 h3) (pb_pk rfl pb_nil)) rfl) ?_
 obtain ⟨v4, h4, h⟩ := R.bind_ok h
 obtain ⟨v5, h5, h⟩ := R.bind_ok h
 obtain ⟨v6, h6, h⟩ := R.bind_ok h
 obtain ⟨r14, h14, h⟩ := R.bind_ok h
 have q2 := loop_cases (for_c (en := PyData.str) q_t_law_59_L2 _ _ _ _ (show st_law_59_L2 script_ x v6.2 v3.1 w6 () ⟨[tr ((sR (dL PyData.int)) script_), tr (zI x), tr (zL v6.2), tr (zS v3.1), w4, w5, w6], [(sR (dL PyData.int)) script_]⟩ from ⟨_, _, rfl⟩) h14)
 rcases q2 with ⟨s2, _, ec, e2, o1, o2, rfl⟩ | ⟨z2, t2, A2, ec, e2, q2⟩
 ·replace h := (ec _ _).symm.trans h
  refine sim_seq ((forI (q_isL (q_fzs (q_lstE (en := zS) (xs := [v3.1, v4.1, v6.1]) (q_cons (q_fzs (q_vf rfl) frz_fz) (q_cons (q_fnr (R := [.s 2]) (q_cons (q_vl rfl) (q_cons (q_vf rfl) q_nil st_sv tr_sv) st_pk (tr_pk rfl)) (trs_cons (tr_pk rfl) (trs_cons tr_sv trs_nil)) rfl (by decide) (q_t__law_changed_4 h4) (pb_pk rfl (pb_sv pb_nil))) (q_cons (q_fnr (R := [.s 2]) (q_cons (q_vl rfl) (q_cons (q_fnr (R := [.s 2]) (q_cons (q_vl rfl) (q_cons (q_vf rfl) q_nil st_sv tr_sv) st_pk (tr_pk rfl)) (trs_cons (tr_pk rfl) (trs_cons tr_sv trs_nil)) rfl (by decide) (q_t__law_changed_4 h5) (pb_pk rfl (pb_sv pb_nil))) q_nil st_sv tr_sv) st_pk (tr_pk rfl)) (trs_cons (tr_pk rfl) (trs_cons tr_sv trs_nil)) rfl (by decide) (q_t__law_changed_4 h6) (pb_pk rfl (pb_sv pb_nil))) q_nil st_sv tr_sv) st_sv tr_sv) st_sv tr_sv) rfl (Nat.le_of_ble_eq_true rfl)) ((frz_L frz_F) ([v3.1, v4.1, v6.1] : (List Str)))))).trans e2) ?_
  obtain ⟨v15, h15, h⟩ := R.bind_ok h
  obtain ⟨v16, h16, h⟩ := R.bind_ok h
  refine sim_seq (q_asg (q_fzs (q_ix (q_lstE (en := zA) (xs := [(dN ()), (PyData.int (0 : Int)), (PyData.bool true), ((dL PyData.str) ([v3.1] : (List Str))), ((dT PyData.str) ([v3.1] : (List Str))), ((dT dA) ([(PyData.str ("call" : Str)), ((dT zC) ([((0 : Int), (0 : Int))] : (List zH))), (PyData.str ("" : Str)), (PyData.int (1 : Int))] : (List PyData)))]) (q_cons q_c (q_cons q_c (q_cons q_c (q_cons (q_fzs (q_lstE (en := zS) (xs := [v3.1]) (q_cons (q_fzs (q_vf rfl) frz_fz) q_nil st_sv tr_sv) rfl (Nat.le_of_ble_eq_true rfl)) ((frz_L frz_F) ([v3.1] : (List Str)))) (q_cons (q_fzs (q_tupE (d := (dT PyData.str) ([v3.1] : (List Str))) (q_cons (q_fzs (q_vf rfl) frz_fz) q_nil st_sv tr_sv) rfl (Nat.le_of_ble_eq_true rfl) rfl) frz_fz) (q_cons (q_fzs (q_tupE (d := (dT dA) ([(PyData.str ("call" : Str)), ((dT zC) ([((0 : Int), (0 : Int))] : (List zH))), (PyData.str ("" : Str)), (PyData.int (1 : Int))] : (List PyData))) (q_cons q_c (q_cons (q_fzs (q_tupE (d := (dT zC) ([((0 : Int), (0 : Int))] : (List zH))) (q_cons (q_fzs (q_tupE (d := zC ((0 : Int), (0 : Int))) (q_cons q_c (q_cons q_c q_nil st_sv tr_sv) st_sv tr_sv) rfl (Nat.le_of_ble_eq_true rfl) rfl) frz_fz) q_nil st_sv tr_sv) rfl (Nat.le_of_ble_eq_true rfl) rfl) frz_fz) (q_cons q_c (q_cons q_c q_nil st_sv tr_sv) st_sv tr_sv) st_sv tr_sv) st_sv tr_sv) rfl (Nat.le_of_ble_eq_true rfl) rfl) frz_fz) q_nil st_sv tr_sv) st_sv tr_sv) st_sv tr_sv) st_sv tr_sv) st_sv tr_sv) st_sv tr_sv) rfl (Nat.le_of_ble_eq_true rfl)) (q_fnr (R := [.s 2]) (q_cons (q_vl rfl) (q_cons q_c q_nil st_sv tr_sv) st_pk (tr_pk rfl)) (trs_cons (tr_pk rfl) (trs_cons tr_sv trs_nil)) rfl (by decide) (q_t__law_take h15) (pb_pk rfl (pb_sv pb_nil))) st_sv tr_sv tr_sv (gIx_F h16)) frz_fz) rfl) ?_
  obtain ⟨v17, h17, h⟩ := R.bind_ok h
  obtain ⟨v18, h18, h⟩ := R.bind_ok h
  obtain ⟨v21, h21, h⟩ := R.bind_ok h
  refine sim_if (q_lor (q_tv (q_op2 (q_fnr (R := []) (q_cons (q_vf rfl) q_nil st_sv tr_sv) (trs_cons tr_sv trs_nil) rfl (by decide) (q_t__law_told_9'a h17) (pb_sv pb_nil)) q_c st_sv tr_sv tr_sv (op2B_ok h18)) tr_sv) (fun hb => by have g := ite_f hb h21; obtain ⟨v19, h19, g⟩ := R.bind_ok g; obtain ⟨v20, h20, g⟩ := R.bind_ok g; obtain rfl := R.inj g; exact (q_tv (q_op2 (q_fnr (R := []) (q_cons q_c q_nil st_sv tr_sv) (trs_cons tr_sv trs_nil) rfl (by decide) (q_t__law_told_9 h19) (pb_sv pb_nil)) q_c st_sv tr_sv tr_sv (op2B_ok h20)) tr_sv)) (fun hb => (R.inj (ite_t hb h21)).symm)) (fun hb => ?_) (fun hb => ?_)
  ·replace h := ite_t hb h
   obtain rfl := R.inj h
   exact sim_ret (q_ret q_c) ⟨_, _, rfl, rfl, rfl⟩
  ·replace h := ite_f hb h
   refine sim_last rfl ?_
   obtain rfl := R.inj h
   exact ⟨_, .inl rfl, ⟨_, _, _, _, _, _, rfl⟩⟩
 ·replace h := (ec _ _).symm.trans h
  obtain rfl := R.inj h
  exact sim_rt ((forI (q_isL (q_fzs (q_lstE (en := zS) (xs := [v3.1, v4.1, v6.1]) (q_cons (q_fzs (q_vf rfl) frz_fz) (q_cons (q_fnr (R := [.s 2]) (q_cons (q_vl rfl) (q_cons (q_vf rfl) q_nil st_sv tr_sv) st_pk (tr_pk rfl)) (trs_cons (tr_pk rfl) (trs_cons tr_sv trs_nil)) rfl (by decide) (q_t__law_changed_4 h4) (pb_pk rfl (pb_sv pb_nil))) (q_cons (q_fnr (R := [.s 2]) (q_cons (q_vl rfl) (q_cons (q_fnr (R := [.s 2]) (q_cons (q_vl rfl) (q_cons (q_vf rfl) q_nil st_sv tr_sv) st_pk (tr_pk rfl)) (trs_cons (tr_pk rfl) (trs_cons tr_sv trs_nil)) rfl (by decide) (q_t__law_changed_4 h5) (pb_pk rfl (pb_sv pb_nil))) q_nil st_sv tr_sv) st_pk (tr_pk rfl)) (trs_cons (tr_pk rfl) (trs_cons tr_sv trs_nil)) rfl (by decide) (q_t__law_changed_4 h6) (pb_pk rfl (pb_sv pb_nil))) q_nil st_sv tr_sv) st_sv tr_sv) st_sv tr_sv) rfl (Nat.le_of_ble_eq_true rfl)) ((frz_L frz_F) ([v3.1, v4.1, v6.1] : (List Str)))))).trans e2) ⟨_, _, rfl, q2⟩
def t_law_59 (script_ : (List Int)) : R (Bool) := (rngR 0 (iMax (1 : Int) (iMin (4 : Int) (script_.length : Int)))).bind fun v1 => (forC (t_law_59_L1 script_) v1 ()).bind fun (r22 : Ctl (Bool) Unit) => r22.elim (fun s1 => R.ok true) (fun z1 => R.ok z1)
theorem q_t_law_59 {script_ : zG} {out : (Bool)} (h : t_law_59 script_ = .ok out) : m_law_59 [(sR (dL PyData.int)) script_] = .ret (zB out) [(sR (dL PyData.int)) script_] := by
 unfold t_law_59 at h
 refine runFn_fin ⟨rfl, by decide⟩ ?_
 unfold b_law_59
 obtain ⟨v1, h1, h⟩ := R.bind_ok h
 obtain ⟨r22, h22, h⟩ := R.bind_ok h
 have q1 := loop_cases (for_c (en := PyData.int) q_t_law_59_L1 _ _ _ _ (show st_law_59_L1 script_ () ⟨[tr ((sR (dL PyData.int)) script_), none, none, none, none, none, none], [(sR (dL PyData.int)) script_]⟩ from ⟨_, _, _, _, _, _, rfl⟩) h22)
 rcases q1 with ⟨s1, _, ec, e1, o3, o4, o5, o6, o7, o8, rfl⟩ | ⟨z1, t1, A1, ec, e1, q1⟩
 ·replace h := (ec _ _).symm.trans h
  refine sim_seq ((forI (q_ir1 (q_cons (q_callB (q_cons q_c (q_cons (q_callB (q_cons q_c (q_cons (q_callB (q_cons (q_vr (d := (dL PyData.int) script_) rfl) q_nil st_sv tr_sv) (trs_cons tr_sv trs_nil) (gLen_l len_RL)) q_nil st_sv tr_sv) st_sv tr_sv) (trs_cons tr_sv (trs_cons tr_sv trs_nil)) gMin_2) q_nil st_sv tr_sv) st_sv tr_sv) (trs_cons tr_sv (trs_cons tr_sv trs_nil)) gMax_2) q_nil st_sv tr_sv) h1)).trans e1) ?_
  obtain rfl := R.inj h
  exact sim_ret (q_ret q_c) (.inl rfl)
 ·replace h := (ec _ _).symm.trans h
  obtain rfl := R.inj h
  obtain ⟨rfl, rfl⟩ := q1
  exact sim_rt ((forI (q_ir1 (q_cons (q_callB (q_cons q_c (q_cons (q_callB (q_cons q_c (q_cons (q_callB (q_cons (q_vr (d := (dL PyData.int) script_) rfl) q_nil st_sv tr_sv) (trs_cons tr_sv trs_nil) (gLen_l len_RL)) q_nil st_sv tr_sv) st_sv tr_sv) (trs_cons tr_sv (trs_cons tr_sv trs_nil)) gMin_2) q_nil st_sv tr_sv) st_sv tr_sv) (trs_cons tr_sv (trs_cons tr_sv trs_nil)) gMax_2) q_nil st_sv tr_sv) h1)).trans e1) (.inl rfl)
end U
set_option maxRecDepth 100000
set_option maxHeartbeats 4000000
namespace U
open PySem PySem.Spec Y
open L2 (atI ixN)
def R.sat {α : Type} (r : R α) (P : α → Prop) : Prop := ∃ a, r = .ok a ∧ P a
section
variable {α β σ ρ : Type} {r : R α} {P : α → Prop} {Q : β → Prop} {f : α → R β}
theorem sat_ok {a : α} (h : P a) : (R.ok a).sat P := ⟨a, rfl, h⟩
theorem sat_bind (h : r.sat P) (k : ∀ a, P a → (f a).sat Q) : (r.bind f).sat Q := by
 obtain ⟨a, rfl, h⟩ := h
 exact k a h
theorem sat_ite {b : Bool} {x y : R α} (h1 : b = true → x.sat P) (h0 : b = false → y.sat P) : (if b = true then x else y).sat P := by
 cases b with
 | true => rw [if_pos rfl]; exact h1 rfl
 | false => rw [if_neg (by simp)]; exact h0 rfl
theorem bind_eq {a : α} (h : r = .ok a) : r.bind f = f a := by rw [h]; rfl
theorem bind_id : (r.bind fun x => R.ok x) = r := by cases r <;> rfl
theorem sat_forR {body : σ → α → R σ} : ∀ (xs : List α) (I : Nat → σ → Prop), (∀ i s x, xs[i]? = some x → I i s → (body s x).sat (I (i + 1))) → ∀ s, I 0 s → (forR body xs s).sat (I xs.length)
 | [], I, _, s, h => ⟨s, rfl, h⟩
 | x :: xs, I, k, s, h => by
  obtain ⟨s', e, h'⟩ := k 0 s x rfl h
  obtain ⟨s2, e2, h2⟩ := sat_forR xs (fun i => I (i + 1)) (fun i s y hy hs => k (i + 1) s y (by simpa using hy) hs) s' h'
  refine ⟨s2, ?_, h2⟩
  unfold forR
  rw [e]
  exact e2
theorem forC_unit {body : Unit → α → R (Ctl ρ Unit)} {xs : List α} (k : ∀ x ∈ xs, body () x = .ok (.nx ())) : forC body xs () = .ok (.nx ()) := by
 induction xs with
 | nil => rfl
 | cons x xs ih =>
  unfold forC
  rw [k x List.mem_cons_self]
  exact ih fun y hy => k y (List.mem_cons_of_mem _ hy)
theorem mapR_ok {body : α → R β} {f : α → β} : ∀ {xs : List α}, (∀ x ∈ xs, body x = .ok (f x)) → mapR body xs = .ok (xs.map f)
 | [], _ => rfl
 | x :: xs, h => by
  unfold mapR
  rw [h x List.mem_cons_self, mapR_ok (xs := xs) fun y hy => h y (List.mem_cons_of_mem _ hy)]
  rfl
theorem lcR_eq {body : α → R β} {xs : List α} (f : α → β) (hl : xs.length ≤ 16777216) (h : ∀ x ∈ xs, body x = .ok (f x)) : lcR xs body = .ok (xs.map f) := by
 unfold lcR
 rw [if_pos (by rw [sizeLine_eq]; exact hl), mapR_ok h]
theorem fmapR_ok {body : α → R (Option β)} {f : α → Option β} : ∀ {xs : List α}, (∀ x ∈ xs, body x = .ok (f x)) → fmapR body xs = .ok (xs.filterMap f)
 | [], _ => rfl
 | x :: xs, h => by
  unfold fmapR
  rw [h x List.mem_cons_self, fmapR_ok (xs := xs) fun y hy => h y (List.mem_cons_of_mem _ hy)]
  cases e : f x with
  | none => rw [List.filterMap_cons_none e]; rfl
  | some y => rw [List.filterMap_cons_some e]; rfl
theorem lcF_eq {body : α → R (Option β)} {xs : List α} (f : α → Option β) (hl : xs.length ≤ 16777216) (h : ∀ x ∈ xs, body x = .ok (f x)) : lcF xs body = .ok (xs.filterMap f) := by
 unfold lcF
 rw [if_pos (by rw [sizeLine_eq]; exact hl), fmapR_ok h]
theorem ixR_nat {xs : List α} {i : Nat} (h : i < xs.length) : ixR xs (i : Int) = .ok xs[i] := by
 unfold ixR ixN
 rw [if_pos (by omega), if_pos (by omega)]
 dsimp only
 rw [show ((i : Int)).toNat = i by omega, List.getElem?_eq_getElem h]
theorem ixR_pos {xs : List α} {i : Int} (h0 : 0 ≤ i) (h : i < xs.length) : ixR xs i = .ok (xs[i.toNat]'(by omega)) := by
 have := ixR_nat (xs := xs) (i := i.toNat) (by omega)
 rw [show ((i.toNat : Nat) : Int) = i by omega] at this
 exact this
theorem appR_eq {xs : List α} {x : α} (h : xs.length < 16777216) : appR xs x = .ok (xs ++ [x]) := by
 unfold appR
 rw [if_pos (by rw [sizeLine_eq]; exact h)]
theorem p62 : (2 : Int) ^ 62 = 4611686018427387904 := by decide
theorem rgOk_of {a b : Int} (h1 : -4611686018427387904 ≤ a) (h2 : a < 4611686018427387904) (h3 : -4611686018427387904 ≤ b) (h4 : b < 4611686018427387904) : rgOk a b = true := by
 unfold rgOk
 rw [p62, decide_eq_true h1, decide_eq_true h2, decide_eq_true h3, decide_eq_true h4]
 rfl
def iota (n : Nat) : List Int := (List.range n).map fun (i : Nat) => (i : Int)
theorem iota_len {n : Nat} : (iota n).length = n := by unfold iota; simp
theorem iota_mem {n : Nat} {x : Int} : x ∈ iota n ↔ 0 ≤ x ∧ x < n := by
 unfold iota
 rw [List.mem_map]
 constructor
 ·rintro ⟨i, hi, rfl⟩
  have := List.mem_range.mp hi
  omega
 ·intro h
  exact ⟨x.toNat, List.mem_range.mpr (by omega), by omega⟩
theorem iota_at {n i : Nat} {x : Int} (h : (iota n)[i]? = some x) : i < n ∧ x = i := by
 unfold iota at h
 rw [List.getElem?_map] at h
 cases e : (List.range n)[i]? with
 | none => rw [e] at h; cases h
 | some j =>
  rw [e] at h
  obtain ⟨h1, h2⟩ := List.getElem?_eq_some_iff.mp e
  rw [List.getElem_range] at h2
  rw [List.length_range] at h1
  subst h2
  exact ⟨h1, by simpa using h.symm⟩
theorem rangeI_iota {n : Nat} : rangeI 0 n = iota n := by
 unfold rangeI iota
 exact List.map_congr_left fun i _ => by omega
theorem rngR_eq {n : Int} (h0 : 0 ≤ n) (h : n ≤ 16777216) : rngR 0 n = .ok (iota n.toNat) := by
 unfold rngR
 rw [if_pos (rgOk_of (by omega) (by omega) (by omega) (by omega)), Int.sub_zero, rangeI_iota]
theorem log2_small {n k : Nat} (h : n < 2 ^ k) (hk : 0 < k) : n.log2 < k := by
 by_cases z : n = 0
 ·subst z; simpa using hk
 ·exact (Nat.log2_lt z).mpr h
theorem cMul_ok {i j : Int} (hi : i.natAbs < 2 ^ 4000) (hj : j.natAbs < 2 ^ 4000) : cMul i j = true := by
 unfold cMul
 have h1 := log2_small hi (by decide)
 have h2 := log2_small hj (by decide)
 exact decide_eq_true (by omega)
theorem pow4000 {i : Int} (h : i.natAbs < 18446744073709551616) : i.natAbs < 2 ^ 4000 :=
 Nat.lt_of_lt_of_le (show i.natAbs < 2 ^ 64 from h) (Nat.pow_le_pow_right (by decide) (by decide))
theorem mulR_eq {i j : Int} (hi : i.natAbs < 18446744073709551616) (hj : j.natAbs < 18446744073709551616) : mulR i j = .ok (i * j) := by
 unfold mulR
 rw [if_pos (cMul_ok (pow4000 hi) (pow4000 hj))]
theorem l9000 {j : Int} (h1 : 0 < j) (h2 : j < 18446744073709551616) : j.natAbs.log2 < 9000 := by
 have h3 : j.natAbs < 2 ^ 64 := by omega
 exact Nat.lt_trans (log2_small h3 (by decide)) (by decide)
theorem fdivR_eq {i j : Int} (h1 : 0 < j) (h2 : j < 18446744073709551616) : fdivR i j = .ok (i / j) := by
 unfold fdivR cDiv
 rw [decide_eq_true h1, decide_eq_true (l9000 h1 h2), if_pos (by rfl)]
theorem modR_eq {i j : Int} (h1 : 0 < j) : modR i j = .ok (i % j) := by
 unfold modR cMod
 rw [decide_eq_true h1, if_pos rfl]
theorem powR_1018 : powR 10 18 = .ok 1000000000000000000 := by
 unfold powR cPow
 simp
def R.val {α : Type} [Inhabited α] (r : R α) : α := match r with
 | .ok a => a
 | _ => default
end
end U
set_option maxRecDepth 100000
set_option maxHeartbeats 4000000
namespace U
open PySem PySem.Spec Y
open L2 (atI ixN)
def IsBag (b : List Int) : Prop := ∃ c m : Int, b = [c, m] ∧ 0 ≤ c ∧ 0 ≤ m ∧ m < 2147483648
theorem ix0 {α : Type} {a b : α} : ixR [a, b] 0 = .ok a := rfl
theorem ix1 {α : Type} {a b : α} : ixR [a, b] 1 = .ok b := rfl
theorem set0 {α : Type} {a b x : α} : setR [a, b] 0 x = .ok [x, b] := rfl
theorem set1 {α : Type} {a b x : α} : setR [a, b] 1 x = .ok [a, x] := rfl
def TakeP (many : Int) (r : Int × List Int) : Prop := 0 ≤ r.1 ∧ r.1 < many ∧ IsBag r.2
theorem whileR_step {σ : Type} {cond : σ → R Bool} {body : σ → R σ} (n : Nat) (s : σ) : whileR cond body (n + 1) s = (cond s).bind fun b => if b = true then (body s).bind fun s' => whileR cond body n s' else .ok s := rfl
theorem take_turn {c m many : Int} (hm : 0 ≤ m ∧ m < 2147483648) : (t__law_take_L1 many (0, 1, [c, m])).sat fun s => 0 ≤ s.1 ∧ s.2.1 = 1073741789 ∧ ∃ m', s.2.2 = [c, m'] ∧ 0 ≤ m' ∧ m' < 2147483648 := by
 unfold t__law_take_L1
 simp only [ix1, R.ok_bind]
 rw [mulR_eq (by omega) (by omega)]
 simp only [R.ok_bind]
 rw [modR_eq (by omega)]
 simp only [R.ok_bind, set1]
 rw [mulR_eq (by omega) (by omega)]
 simp only [R.ok_bind, ix1]
 rw [fdivR_eq (by omega) (by omega)]
 simp only [R.ok_bind]
 rw [mulR_eq (by omega) (by omega)]
 simp only [R.ok_bind]
 rw [modR_eq (by omega)]
 simp only [R.ok_bind]
 rw [mulR_eq (by omega) (by omega)]
 simp only [R.ok_bind]
 refine sat_ok ⟨?_, (show (1 : Int) * 1073741789 = 1073741789 by omega), _, rfl, ?_, ?_⟩
 ·dsimp only; omega
 ·omega
 ·omega
theorem take_ok {b : List Int} {many : Int} (hb : IsBag b) (h1 : 1 ≤ many) (h2 : many ≤ 1000000000) : (t__law_take b many).sat (TakeP many) := by
 obtain ⟨c, m, rfl, h3, h4, h5⟩ := hb
 unfold t__law_take
 rw [bind_eq ix0]
 refine sat_ite (fun hc => ?_) (fun hc => ?_)
 ·rw [bind_eq ix0, bind_eq (modR_eq (by omega)), bind_eq ix0, bind_eq (fdivR_eq (by omega) (by omega)), bind_eq set0]
  exact sat_ok ⟨Int.emod_nonneg _ (by omega), Int.emod_lt_of_pos _ (by omega), _, _, rfl, Int.ediv_nonneg h3 (by omega), h4, h5⟩
 ·refine sat_bind (P := fun s => 0 ≤ s.1 ∧ ∃ m', s.2.2 = [c, m'] ∧ 0 ≤ m' ∧ m' < 2147483648) ?_ ?_
  ·rw [show (1000000 : Nat) = 999998 + 1 + 1 from rfl, whileR_step]
   rw [show t__law_take_L1_c many (0, 1, [c, m]) = .ok (decide (1 < many)) from rfl, R.ok_bind]
   refine sat_ite (fun hm => ?_) (fun hm => sat_ok ⟨by simp, m, rfl, h4, h5⟩)
   refine sat_bind (take_turn ⟨h4, h5⟩) ?_
   rintro ⟨s1, s2, s3⟩ ⟨q1, q2, m', q3, q4, q5⟩
   dsimp only at q1 q2 q3
   subst q2 q3
   rw [whileR_step, show t__law_take_L1_c many (s1, 1073741789, [c, m']) = .ok (decide (1073741789 < many)) from rfl, R.ok_bind]
   refine sat_ite (fun hm => ?_) (fun hm => sat_ok ⟨q1, m', rfl, q4, q5⟩)
   have := of_decide_eq_true hm
   omega
  ·rintro ⟨s1, s2, s3⟩ ⟨q1, m', q3, q4, q5⟩
   dsimp only at q1 q3 ⊢
   subst q3
   rw [bind_eq (modR_eq (by omega))]
   exact sat_ok ⟨Int.emod_nonneg _ (by omega), Int.emod_lt_of_pos _ (by omega), _, _, rfl, h3, q4, q5⟩
theorem bag_ok {ns : List Int} (hn : ns.length ≤ 63) {k : Int} (hk : 0 ≤ k) (hk2 : k ≤ 1000) : (t__law_bag ns k).sat IsBag := by
 unfold t__law_bag
 refine sat_bind (P := fun c => 0 ≤ c) (sat_ite (fun h => ?_) fun _ => sat_ok (by omega)) fun c hc => ?_
 ·have h := of_decide_eq_true h
  rw [bind_eq (ixR_pos hk h)]
  refine sat_ok ?_
  split <;> omega
 rw [bind_eq (mulR_eq (by omega) (by omega))]
 have hmin : 0 ≤ iMin (ns.length : Int) 60 ∧ iMin (ns.length : Int) 60 ≤ ns.length ∧ iMin (ns.length : Int) 60 ≤ 60 := by unfold iMin; split <;> omega
 rw [bind_eq (rngR_eq (by omega) (by omega))]
 refine sat_bind (P := fun m => 0 ≤ m ∧ m < 2147483648) ?_ fun m hm => ?_
 ·refine sat_forR _ (fun _ m => 0 ≤ m ∧ m < 2147483648) (fun i s x hx hs => ?_) _ (by omega)
  obtain ⟨h1, h2⟩ := iota_at hx
  unfold t__law_bag_L2
  rw [bind_eq (mulR_eq (by omega) (by omega)), bind_eq (ixR_pos (by omega) (by omega)), bind_eq (modR_eq (by omega)), bind_eq (modR_eq (by omega))]
  exact sat_ok ⟨Int.emod_nonneg _ (by omega), Int.lt_trans (Int.emod_lt_of_pos _ (by omega)) (by omega)⟩
 rw [bind_eq powR_1018]
 refine sat_bind (P := fun c => 0 ≤ c) (sat_ite (fun h => sat_ok (by omega)) fun _ => sat_ok hc) fun c hc => ?_
 exact sat_ok ⟨c, m, rfl, hc, hm⟩
end U
set_option maxRecDepth 100000
set_option maxHeartbeats 4000000
namespace U
open PySem PySem.Spec Y
open L2 (atI ixN)
structure NetOk (n : List (List Int)) : Prop where
 l1 : 1 ≤ n.length
 l9 : n.length ≤ 9
 w : ∃ w : Nat, (w = 2 ∨ w = 3) ∧ ∀ r ∈ n, r.length = w
 e : ∀ r ∈ n, ∀ x ∈ r, 0 ≤ x ∧ x < n.length
def Rng (many : Nat) (l : List Int) : Prop := ∀ x ∈ l, 0 ≤ x ∧ x < many
theorem getD_of {α : Type} {l : List α} {i : Nat} {d : α} (h : i < l.length) : l.getD i d = l[i] := by
 rw [List.getD_eq_getElem?_getD, List.getElem?_eq_getElem h]; rfl
end U
set_option maxRecDepth 100000
set_option maxHeartbeats 4000000
namespace U
open PySem PySem.Spec Y
open L2 (atI ixN)
def width (n : List (List Int)) : Nat := (n.getD 0 []).length
theorem width_of {n : List (List Int)} (h : NetOk n) : (width n = 2 ∨ width n = 3) ∧ ∀ r ∈ n, r.length = width n := by
 obtain ⟨w, hw, hr⟩ := h.w
 have : width n = w := by
  unfold width
  rw [getD_of (by have := h.l1; omega)]
  exact hr _ (List.getElem_mem _)
 rw [this]; exact ⟨hw, hr⟩
def mkW (ds : List Nat) : Str := ⟨(ds.map (97 + ·)).toArray⟩
abbrev sg (j : Nat) : Str := mkW [j]
theorem mkW_len {ds : List Nat} : (mkW ds).length = ds.length := by
 show ((ds.map (97 + ·)).toArray).size = _
 simp
def goalOf (n : List (List Int)) (p : Int) (j : Nat) : Int := (n.getD p.toNat []).getD j 0
theorem goal_in {n : List (List Int)} (h : NetOk n) {p : Int} (h0 : 0 ≤ p) (h1 : p < n.length) {j : Nat} (hj : j < width n) : 0 ≤ goalOf n p j ∧ goalOf n p j < n.length := by
 have hm : n.getD p.toNat [] ∈ n := by rw [getD_of (by omega)]; exact List.getElem_mem _
 have hl := (width_of h).2 _ hm
 refine h.e _ hm _ ?_
 unfold goalOf
 rw [getD_of (l := n.getD p.toNat []) (by rw [hl]; exact hj)]
 exact List.getElem_mem _
end U
set_option maxRecDepth 100000
set_option maxHeartbeats 4000000
namespace U
open PySem PySem.Spec Y
open L2 (atI ixN)
theorem rise_nodup {l : List Int} (h : l.Pairwise (· < ·)) : l.Nodup := h.imp fun {a b} hab => by omega
theorem nodup_len : ∀ (n : Nat) (l : List Int), l.Nodup → (∀ x ∈ l, 0 ≤ x ∧ x < n) → l.length ≤ n
 | 0, l, _, h => by
  cases l with
  | nil => simp
  | cons x l => have := h x List.mem_cons_self; omega
 | n + 1, l, nd, h => by
  by_cases z : (n : Int) ∈ l
  ·have h1 := nodup_len n (l.erase n) (nd.erase _) fun x hx => by
    have h2 := (nd.mem_erase_iff).mp hx
    have h3 := h x h2.2
    have : x ≠ n := h2.1
    omega
   rw [List.length_erase_of_mem z] at h1
   omega
  ·have h1 := nodup_len n l nd fun x hx => by
    have h3 := h x hx
    have : x ≠ n := fun e => z (by rw [← e]; exact hx)
    omega
   omega
structure SetOk (n : List (List Int)) (ps : List Int) : Prop where
 ne : ps ≠ []
 rg : Rng n.length ps
 ri : ps.Pairwise (· < ·)
theorem SetOk.len {n : List (List Int)} {ps : List Int} (h : SetOk n ps) : ps.length ≤ n.length := nodup_len _ _ (rise_nodup h.ri) h.rg
end U
set_option maxRecDepth 100000
set_option maxHeartbeats 4000000
namespace U
open PySem PySem.Spec Y
open L2 (atI ixN)
def nb : List Int → List (List Int × (Str × Str))
 | [a, b] => [([b, a], ("a", "b"))]
 | [a, b, c] => [([b, a, c], ("a", "b")), ([c, b, a], ("a", "c")), ([a, c, b], ("b", "c"))]
 | _ => []
theorem two {r : List Int} (h : r.length = 2) : ∃ a b, r = [a, b] := by
 match r, h with
 | [a, b], _ => exact ⟨a, b, rfl⟩
section
variable {κ ν : Type} [DecidableEq κ] {kvs : List (κ × ν)} {x : κ} {v : ν}
theorem lookM_in (h : x ∈ kvs.map (·.1)) : ∃ v, lookM x kvs = some v ∧ (x, v) ∈ kvs := by
 induction kvs with
 | nil => cases h
 | cons p r ih =>
  obtain ⟨k, w⟩ := p
  unfold lookM
  by_cases q : k = x
  ·subst q
   exact ⟨w, by rw [if_pos rfl], List.mem_cons_self⟩
  ·rw [if_neg q]
   obtain ⟨v, h1, h2⟩ := ih ((List.mem_cons.mp h).resolve_left fun e => q e.symm)
   exact ⟨v, h1, List.mem_cons_of_mem _ h2⟩
theorem putM_new (h : x ∉ kvs.map (·.1)) : putM x v kvs = kvs ++ [(x, v)] := by
 induction kvs with
 | nil => rfl
 | cons p r ih =>
  obtain ⟨k, w⟩ := p
  unfold putM
  rw [if_neg fun q => h (by rw [q]; exact List.mem_cons_self), ih fun z => h (List.mem_cons_of_mem _ z)]
  rfl
theorem setM_new (h : x ∉ kvs.map (·.1)) (hl : kvs.length < 16777216) (hn : (kvs.map (·.1)).Nodup) : setM kvs x v = .ok (kvs ++ [(x, v)]) := by
 unfold setM
 rw [if_pos ⟨by rw [sizeLine_eq]; exact hl, hn⟩, putM_new h]
end
end U
set_option maxRecDepth 100000
set_option maxHeartbeats 4000000
namespace U
open PySem PySem.Spec Y
open L2 (atI ixN)
section
variable {α β σ : Type}
theorem sat_smapR {body : σ → α → R (σ × β)} (I : σ → Prop) (T : α → β → Prop) : ∀ {xs : List α}, (∀ s, ∀ x ∈ xs, I s → (body s x).sat fun r => I r.1 ∧ T x r.2) → ∀ s, I s →
  (smapR body xs s).sat fun r => I r.1 ∧ r.2.length = xs.length ∧ ∀ y ∈ r.2, ∃ x ∈ xs, T x y
 | [], _, s, h => ⟨_, rfl, h, rfl, fun y hy => by cases hy⟩
 | x :: xs, k, s, h => by
  obtain ⟨r, e1, h1, t1⟩ := k s x List.mem_cons_self h
  obtain ⟨q, e2, h2, l2, t2⟩ := sat_smapR I T (fun s y hy => k s y (List.mem_cons_of_mem _ hy)) r.1 h1
  refine ⟨(q.1, r.2 :: q.2), ?_, h2, by simp [l2], fun y hy => ?_⟩
  ·unfold smapR
   rw [e1]
   show (smapR body xs r.1).bind _ = _
   rw [e2]
   rfl
  ·rcases List.mem_cons.mp hy with rfl | hy
   ·exact ⟨x, List.mem_cons_self, t1⟩
   ·obtain ⟨z, hz, tz⟩ := t2 y hy
    exact ⟨z, List.mem_cons_of_mem _ hz, tz⟩
theorem sat_lcS {body : σ → α → R (σ × β)} (I : σ → Prop) (T : α → β → Prop) {xs : List α} (hl : xs.length ≤ 16777216) (k : ∀ s, ∀ x ∈ xs, I s → (body s x).sat fun r => I r.1 ∧ T x r.2) {s : σ} (h : I s) :
  (lcS xs s body).sat fun r => I r.1 ∧ r.2.length = xs.length ∧ ∀ y ∈ r.2, ∃ x ∈ xs, T x y := by
 unfold lcS
 rw [if_pos (by rw [sizeLine_eq]; exact hl)]
 exact sat_smapR I T k s h
end
end U
set_option maxRecDepth 100000
set_option maxHeartbeats 4000000
namespace U
open PySem PySem.Spec Y
open L2 (atI ixN)
theorem op2B_eq {g : SV → SV → Option SV} {t u : SV} {b : Bool} (h : g t u = some (.fz (.bool b))) : op2B g t u = .ok b := by unfold op2B; rw [h]
theorem chars_len {x : Str} : (chars x).length = x.length := by
 unfold chars
 rw [List.length_map]
 rfl
theorem app_len {x y : Str} : (x ++ y).length = x.length + y.length := by
 show (x.cps ++ y.cps).size = _
 rw [Array.size_append]
 rfl
end U
set_option maxRecDepth 100000
set_option maxHeartbeats 4000000
namespace U
open PySem PySem.Spec Y
open L2 (atI ixN)
def netD (n : List (List Int)) : PyData := dT (dT PyData.int) n
end U
set_option maxRecDepth 100000
set_option maxHeartbeats 4000000
namespace U
open PySem PySem.Spec Y
open L2 (atI ixN)
def Fit (x : Str) : Prop := ∀ c ∈ x.cps.toList, c < 0x110000
theorem fit_ok {x : Str} (h : Fit x) : PyData.strOk x = true := by
 unfold PyData.strOk
 rw [← Array.all_toList, List.all_eq_true]
 exact fun c hc => decide_eq_true (h c hc)
theorem fit_mkW {ds : List Nat} (h : ∀ d ∈ ds, d < 1000) : Fit (mkW ds) := fun c hc => by
 have : c ∈ ds.map (97 + ·) := hc
 obtain ⟨d, hd, rfl⟩ := List.mem_map.mp this
 have := h d hd
 show 97 + d < 0x110000
 omega
theorem fit_app {x y : Str} (h : Fit x) (h' : Fit y) : Fit (x ++ y) := fun c hc => by
 have e : (x ++ y).cps.toList = x.cps.toList ++ y.cps.toList := Array.toList_append
 rw [e] at hc
 rcases List.mem_append.mp hc with q | q
 ·exact h c q
 ·exact h' c q
theorem fit_cut {x : Str} (h : Fit x) {lo hi : Option Int} : Fit (L2.cutS x lo hi) := fun c hc => by
 have : c ∈ (x.cps.toList.drop (HT.sIx x.length 0 lo)).take (HT.sIx x.length x.length hi - HT.sIx x.length 0 lo) := hc
 exact h c (List.mem_of_mem_drop (List.mem_of_mem_take this))
theorem sha_str {x : Str} (h : Fit x) : SeqAt.shaped (.str x) = true := by
 unfold SeqAt.shaped
 simp only [PyData.canLay0, PyData.depth]
 rw [fit_ok h]
 rfl
theorem sha_strs {zs : List Str} (h : ∀ z ∈ zs, Fit z) : SeqAt.shaped ((dL PyData.str) zs) = true := by
 unfold SeqAt.shaped
 simp only [dL, PyData.canLay0, PyData.depth]
 have : PyData.canLayAll0 (zs.map PyData.str) = true ∧ PyData.depthAll (zs.map PyData.str) ≤ 1 := by
  induction zs with
  | nil => exact ⟨rfl, Nat.zero_le _⟩
  | cons z zs ih =>
   have i := ih fun z hz => h z (by simp [hz])
   simp only [List.map_cons, PyData.canLayAll0, PyData.depthAll, PyData.canLay0, PyData.depth]
   rw [fit_ok (h z (by simp)), i.1]
   exact ⟨rfl, by omega⟩
 rw [this.1, decide_eq_true (by omega)]
 rfl
theorem shaR_of {x : Str} (h : Fit x) : shaR (.str x) = .ok () := by
 unfold shaR
 rw [if_pos (sha_str h)]
end U
set_option maxRecDepth 100000
set_option maxHeartbeats 4000000
namespace U
open PySem PySem.Spec Y
open L2 (atI ixN)
theorem mulR_big {i j : Int} (hi : i.natAbs < 2 ^ 4000) (hj : j.natAbs < 2 ^ 4000) : mulR i j = .ok (i * j) := by
 unfold mulR
 rw [if_pos (cMul_ok hi hj)]
theorem fdivR_big {i j : Int} (h1 : 0 < j) (h2 : j.natAbs < 2 ^ 4000) : fdivR i j = .ok (i / j) := by
 unfold fdivR cDiv
 have := log2_small h2 (by decide)
 rw [decide_eq_true h1, decide_eq_true (by omega), if_pos (by rfl)]
theorem take_more {c m many s1 s2 : Int} (hm : 0 ≤ m ∧ m < 2147483648) (h0 : 0 ≤ s1) (h1 : s1 < s2) (h2 : s2 < 10000000000000000000000000000000000000000000000000000000000000) : (t__law_take_L1 many (s1, s2, [c, m])).sat fun s => 0 ≤ s.1 ∧ s.1 < s.2.1 ∧ s.2.1 = s2 * 1073741789 ∧ ∃ m', s.2.2 = [c, m'] ∧ 0 ≤ m' ∧ m' < 2147483648 := by
 have p1 : ∀ x : Int, 0 ≤ x → x < 10000000000000000000000000000000000000000000000000000000000000 → x.natAbs < 2 ^ 4000 := fun x a b => by
  have : x.natAbs < 2 ^ 256 := by
   have : (2 : Nat) ^ 256 = 115792089237316195423570985008687907853269984665640564039457584007913129639936 := by decide
   rw [this]; omega
  exact Nat.lt_of_lt_of_le this (Nat.pow_le_pow_right (by decide) (by decide))
 unfold t__law_take_L1
 simp only [ix1, R.ok_bind]
 rw [mulR_eq (by omega) (by omega)]
 simp only [R.ok_bind]
 rw [modR_eq (by omega)]
 simp only [R.ok_bind, set1]
 rw [mulR_big (p1 _ (by omega) (by omega)) (p1 _ (by omega) (by omega))]
 simp only [R.ok_bind, ix1]
 rw [fdivR_eq (by omega) (by omega)]
 simp only [R.ok_bind]
 rw [mulR_eq (by omega) (by omega)]
 simp only [R.ok_bind]
 rw [modR_eq (by omega)]
 simp only [R.ok_bind]
 rw [mulR_big (p1 _ (by omega) (by omega)) (p1 _ (by omega) (by omega))]
 simp only [R.ok_bind]
 refine sat_ok ⟨?_, ?_, rfl, _, rfl, ?_, ?_⟩
 ·dsimp only; omega
 ·dsimp only; omega
 ·omega
 ·omega
theorem flat_le {f : α → List β} {B : Nat} : ∀ l : List α, (∀ x ∈ l, (f x).length ≤ B) → (l.flatMap f).length ≤ l.length * B
 | [], _ => by simp
 | x :: l, h => by
  rw [List.flatMap_cons, List.length_append, List.length_cons, Nat.succ_mul]
  have h1 := h x (by simp)
  have h2 := flat_le l fun y hy => h y (by simp [hy])
  omega
end U
set_option maxRecDepth 100000
set_option maxHeartbeats 4000000
namespace U
open PySem PySem.Spec Y
open L2 (atI ixN)
section bfs
variable {α : Type} [DecidableEq α]
abbrev Qu (α : Type) := List (α × List Nat)
def keys (q : Qu α) : List α := q.map (·.1)
def push1 (w : List Nat) (q : Qu α) (y : α × Nat) : Qu α := if y.1 ∈ keys q then q else q ++ [(y.1, w ++ [y.2])]
def push (w : List Nat) : Qu α → List (α × Nat) → Qu α
 | q, [] => q
 | q, y :: ys => push w (push1 w q y) ys
def bfs (nx : α → List (α × Nat)) : Nat → Qu α → Nat → Qu α
 | 0, q, _ => q
 | n + 1, q, i => match q[i]? with
  | none => q
  | some x => bfs nx n (push x.2 q (nx x.1)) (i + 1)
variable {Al : List α} {w : Nat} {q : Qu α} {nx : α → List (α × Nat)}
theorem push1_pre {v : List Nat} {y : α × Nat} : ∃ t, push1 v q y = q ++ t := by
 unfold push1
 by_cases z : y.1 ∈ keys q
 ·exact ⟨[], by rw [if_pos z, List.append_nil]⟩
 ·exact ⟨_, by rw [if_neg z]⟩
theorem push_pre {v : List Nat} : ∀ (ys : List (α × Nat)) (q : Qu α), ∃ t, push v q ys = q ++ t
 | [], q => ⟨[], by rw [List.append_nil]; rfl⟩
 | y :: ys, q => by
  obtain ⟨t, ht⟩ := push1_pre (v := v) (q := q) (y := y)
  obtain ⟨t2, ht2⟩ := push_pre (v := v) ys (push1 v q y)
  exact ⟨t ++ t2, by show push v (push1 v q y) ys = _; rw [ht2, ht, List.append_assoc]⟩
def Cl (Al : List α) (w : Nat) (nx : α → List (α × Nat)) : Prop := ∀ x ∈ Al, ∀ y ∈ nx x, y.1 ∈ Al ∧ y.2 < w
def start (x : α) : Qu α := [(x, [])]
def reach (Al : List α) (nx : α → List (α × Nat)) (x : α) : Qu α := bfs nx Al.length (start x) 0
inductive Leads (nx : α → List (α × Nat)) (x : α) : α → List Nat → Prop
 | nil : Leads nx x x []
 | snoc {y z : α} {v : List Nat} {k : Nat} : Leads nx x y v → (z, k) ∈ nx y → Leads nx x z (v ++ [k])
end bfs
end U
set_option maxRecDepth 100000
set_option maxHeartbeats 4000000
namespace U
open PySem PySem.Spec Y
open L2 (atI ixN)
section sux
variable {α : Type} [DecidableEq α] {Al : List α} {w : Nat} {q : Qu α}
def suxL (g : Nat → Option α) (ks : List Nat) : List (α × Nat) := ks.filterMap fun k => (g k).map fun y => (y, k)
def sux (w : Nat) (g : Nat → Option α) : List (α × Nat) := suxL g (List.range w)
theorem mem_suxL {g : Nat → Option α} {ks : List Nat} {y : α} {k : Nat} : (y, k) ∈ suxL g ks ↔ k ∈ ks ∧ g k = some y := by
 unfold suxL
 rw [List.mem_filterMap]
 constructor
 ·rintro ⟨a, ha, e⟩
  cases e1 : g a with
  | none => rw [e1] at e; cases e
  | some z => rw [e1] at e; cases e; exact ⟨ha, e1⟩
 ·rintro ⟨ha, e⟩
  exact ⟨k, ha, by rw [e]; rfl⟩
theorem mem_sux {g : Nat → Option α} {y : α} {k : Nat} : (y, k) ∈ sux w g ↔ k < w ∧ g k = some y := by
 unfold sux
 rw [mem_suxL, List.mem_range]
def kv (q : Qu α) : List (α × Str) := q.map fun e => (e.1, mkW e.2)
end sux
def pairsA (m : Nat) : List (Int × Int) := (iota m).flatMap fun i => (iota m).map fun j => (i, j)
theorem pairsA_mem {m : Nat} {x : Int × Int} : x ∈ pairsA m ↔ x.1 ∈ iota m ∧ x.2 ∈ iota m := by
 obtain ⟨a, b⟩ := x
 unfold pairsA
 rw [List.mem_flatMap]
 constructor
 ·rintro ⟨i, hi, hx⟩
  obtain ⟨j, hj, e⟩ := List.mem_map.mp hx
  cases e
  exact ⟨hi, hj⟩
 ·rintro ⟨h1, h2⟩
  exact ⟨a, h1, List.mem_map.mpr ⟨b, h2, rfl⟩⟩
theorem pairsA_len {m : Nat} (h : m ≤ 9) : (pairsA m).length ≤ 81 := by
 have := flat_le (f := fun i => (iota m).map fun j => (i, j)) (B := 9) (iota m) fun i _ => by rw [List.length_map, iota_len]; exact h
 rw [iota_len] at this
 show ((iota m).flatMap _).length ≤ _
 omega
def ledP (n : List (List Int)) (x : Int × Int) (k : Nat) : Int × Int := (iMin (goalOf n x.1 k) (goalOf n x.2 k), iMax (goalOf n x.1 k) (goalOf n x.2 k))
theorem ledP_in {n : List (List Int)} (h : NetOk n) {x : Int × Int} (hx : x ∈ pairsA n.length) {k : Nat} (hk : k < width n) : ledP n x k ∈ pairsA n.length ∧ (ledP n x k).1 ≤ (ledP n x k).2 := by
 obtain ⟨h1, h2⟩ := pairsA_mem.mp hx
 have h1 := iota_mem.mp h1
 have h2 := iota_mem.mp h2
 have g1 := goal_in h h1.1 h1.2 hk
 have g2 := goal_in h h2.1 h2.2 hk
 unfold ledP iMin iMax
 refine ⟨pairsA_mem.mpr ⟨iota_mem.mpr ?_, iota_mem.mpr ?_⟩, ?_⟩
 ·dsimp only; split <;> omega
 ·dsimp only; split <;> omega
 ·dsimp only; split <;> split <;> omega
def gP (n : List (List Int)) (x : Int × Int) (k : Nat) : Option (Int × Int) := if (ledP n x k).1 = (ledP n x k).2 then none else some (ledP n x k)
abbrev nxP (n : List (List Int)) (x : Int × Int) : List ((Int × Int) × Nat) := sux (width n) (gP n x)
def rP (n : List (List Int)) (x : Int × Int) : Qu (Int × Int) := reach (pairsA n.length) (nxP n) x
end U
set_option maxRecDepth 100000
set_option maxHeartbeats 4000000
namespace U
open PySem PySem.Spec Y
open L2 (atI ixN)
theorem mm_eq {a b : Int} : iMin a b = iMax a b ↔ a = b := by
 unfold iMin iMax
 split <;> split <;> omega
def tog (n : List (List Int)) (x : Int × Int) (k : Nat) : Bool := decide (goalOf n x.1 k = goalOf n x.2 k)
theorem gP_t {n : List (List Int)} {x : Int × Int} {k : Nat} (h : tog n x k = true) : gP n x k = none := by
 have h := of_decide_eq_true h
 unfold gP ledP
 rw [if_pos (mm_eq.mpr h)]
theorem gP_f {n : List (List Int)} {x : Int × Int} {k : Nat} (h : tog n x k = false) : gP n x k = some (ledP n x k) := by
 have h := of_decide_eq_false h
 have hne : ¬ (ledP n x k).1 = (ledP n x k).2 := fun e => h (mm_eq.mp e)
 unfold gP
 rw [if_neg hne]
end U
set_option maxRecDepth 100000
set_option maxHeartbeats 4000000
namespace U
open PySem PySem.Spec Y
open L2 (atI ixN)
open PySem.W (dataLe)
def row1 (m i : Nat) : List (Int × Int) := (List.range' (i + 1) (m - (i + 1))).map fun j : Nat => ((i : Int), (j : Int))
def prs (m : Nat) : List (Int × Int) := (List.range m).flatMap (row1 m)
theorem prs_mem {m : Nat} {x : Int × Int} : x ∈ prs m ↔ 0 ≤ x.1 ∧ x.1 < x.2 ∧ x.2 < m := by
 unfold prs row1
 rw [List.mem_flatMap]
 constructor
 ·rintro ⟨i, hi, hx⟩
  obtain ⟨j, hj, rfl⟩ := List.mem_map.mp hx
  have := List.mem_range'_1.mp hj
  have := List.mem_range.mp hi
  dsimp only
  omega
 ·obtain ⟨a, b⟩ := x
  rintro ⟨h1, h2, h3⟩
  dsimp only at h1 h2 h3
  exact ⟨a.toNat, List.mem_range.mpr (by omega), List.mem_map.mpr ⟨b.toNat, List.mem_range'_1.mpr (by omega), by ext <;> simp <;> omega⟩⟩
theorem prs_A {m : Nat} {x : Int × Int} (h : x ∈ prs m) : x ∈ pairsA m ∧ x.1 < x.2 := by
 have := prs_mem.mp h
 exact ⟨pairsA_mem.mpr ⟨iota_mem.mpr (by omega), iota_mem.mpr (by omega)⟩, this.2.1⟩
theorem prs_of {m : Nat} {x : Int × Int} (h : x ∈ pairsA m) (h2 : x.1 < x.2) : x ∈ prs m := by
 obtain ⟨a, b⟩ := pairsA_mem.mp h
 have a := iota_mem.mp a
 have b := iota_mem.mp b
 exact prs_mem.mpr (by omega)
end U
set_option maxRecDepth 100000
set_option maxHeartbeats 4000000
namespace U
open PySem PySem.Spec Y
open L2 (atI ixN)
theorem Leads.head {α : Type} {nx : α → List (α × Nat)} {x z y : α} {k : Nat} {v : List Nat} (h : (z, k) ∈ nx x) (l : Leads nx z y v) : ∃ v', Leads nx x y v' := by
 induction l with
 | nil => exact ⟨_, .snoc .nil h⟩
 | snoc _ hz ih =>
  obtain ⟨v', h'⟩ := ih
  exact ⟨_, .snoc h' hz⟩
theorem tog_led {n : List (List Int)} {x : Int × Int} {k : Nat} : tog n x k = true ↔ (ledP n x k).1 = (ledP n x k).2 := by
 unfold tog
 rw [decide_eq_true_iff]
 exact mm_eq.symm
theorem nxP_mem {n : List (List Int)} {x z : Int × Int} {k : Nat} : (z, k) ∈ nxP n x ↔ k < width n ∧ tog n x k = false ∧ ledP n x k = z := by
 rw [mem_sux]
 constructor
 ·rintro ⟨h1, h2⟩
  cases t : tog n x k with
  | true => rw [gP_t t] at h2; cases h2
  | false => rw [gP_f t] at h2; exact ⟨h1, rfl, Option.some.inj h2⟩
 ·rintro ⟨h1, h2, h3⟩
  exact ⟨h1, by rw [gP_f h2, h3]⟩
theorem led_lt {n : List (List Int)} (h : NetOk n) {x : Int × Int} (hx : x ∈ pairsA n.length) {k : Nat} (hk : k < width n) (t : tog n x k = false) : ledP n x k ∈ prs n.length := by
 obtain ⟨h1, h2⟩ := ledP_in h hx hk
 refine prs_of h1 ?_
 have : ¬ (ledP n x k).1 = (ledP n x k).2 := fun e => by
  rw [tog_led.mpr e] at t; cases t
 omega
def callB (n : List (List Int)) (l : List (Int × Int)) : Bool := l.any fun x => (List.range (width n)).any (tog n x)
def callP (n : List (List Int)) (x : Int × Int) : Bool := callB n (keys (rP n x))
def FSound (n : List (List Int)) (Gd F : List (Int × Int)) : Prop := ∀ S : Int × Int → Prop, (∀ g ∈ Gd, S g) → (∀ x ∈ prs n.length, ∀ k, k < width n → S (ledP n x k) → S x) → ∀ x ∈ F, S x
def FClosed (n : List (List Int)) (F : List (Int × Int)) : Prop := ∀ x ∈ prs n.length, ∀ k, k < width n → ledP n x k ∈ F → x ∈ F
structure FI (n : List (List Int)) (Gd F : List (Int × Int)) : Prop where
 nd : F.Nodup
 sub : ∀ x ∈ F, x ∈ pairsA n.length
 gd : ∀ g ∈ Gd, g ∈ F
 snd : FSound n Gd F
theorem FI.len {n : List (List Int)} (h : NetOk n) {Gd F : List (Int × Int)} (hF : FI n Gd F) : F.length ≤ 81 := Nat.le_trans (hF.nd.length_le_of_subset hF.sub) (pairsA_len h.l9)
theorem back {n : List (List Int)} (h : NetOk n) {F : List (Int × Int)} (hc : FClosed n F) {x y : Int × Int} {v : List Nat} (hx : x ∈ prs n.length) (l : Leads (nxP n) x y v) : y ∈ prs n.length ∧ (y ∈ F → x ∈ F) := by
 induction l with
 | nil => exact ⟨hx, id⟩
 | snoc _ hz ih =>
  obtain ⟨a, b⟩ := ih
  obtain ⟨q1, q2, rfl⟩ := nxP_mem.mp hz
  exact ⟨led_lt h (prs_A a).1 q1 q2, fun hf => b (hc _ a _ q1 hf)⟩
end U
set_option maxRecDepth 100000
set_option maxHeartbeats 4000000
namespace U
open PySem PySem.Spec Y
open L2 (atI ixN)
def lostB (n : List (List Int)) (x : Int × Int) : Bool := (keys (rP n x)).any fun y => !(callP n y)
def stbN (n : List (List Int)) : List (Int × Int) := (prs n.length).filter fun x => !(lostB n x)
end U
set_option maxRecDepth 100000
set_option maxHeartbeats 4000000
namespace U
open PySem PySem.Spec Y
open L2 (atI ixN)
def alike (n : List (List Int)) (p q : Int) : Bool := decide (p = q) || memB (iMin p q, iMax p q) (stbN n)
def part (n : List (List Int)) (p : Int) : List Int := (iota n.length).filter (alike n p)
def clsN (n : List (List Int)) : List (List Int) := (iota n.length).filterMap fun p => if (part n p).head? = some p then some (part n p) else none
def num (n : List (List Int)) (p : Int) : Int := ((clsN n).idxOf (part n p) : Nat)
end U
set_option maxRecDepth 100000
set_option maxHeartbeats 4000000
namespace U
open PySem PySem.Spec Y
open L2 (atI ixN)
def nk (n : List (List Int)) (l : List Int) : List (Int × Int) := l.map fun p => (p, num n p)
end U
set_option maxRecDepth 100000
set_option maxHeartbeats 4000000
namespace U
open PySem PySem.Spec Y
open L2 (atI ixN)
section
variable {α : Type} [DecidableEq α] {Al : List α} {w : Nat} {nx : α → List (α × Nat)}
theorem push_has {v : List Nat} : ∀ (ys : List (α × Nat)) (q : Qu α) {y : α × Nat}, y ∈ ys → (∃ e ∈ q, e.1 = y.1) ∨ (∃ e ∈ push v q ys, e.1 = y.1 ∧ e.2.length = v.length + 1)
 | z :: ys, q, y, hy => by
  rcases List.mem_cons.mp hy with rfl | hy
  ·by_cases c : y.1 ∈ keys q
   ·left
    obtain ⟨e, he, ee⟩ := List.mem_map.mp c
    exact ⟨e, he, ee⟩
   ·right
    obtain ⟨t, ht⟩ := push_pre (v := v) ys (push1 v q y)
    refine ⟨(y.1, v ++ [y.2]), ?_, rfl, by simp⟩
    show _ ∈ push v (push1 v q y) ys
    rw [ht]
    unfold push1
    rw [if_neg c]
    simp
  ·rcases push_has ys (push1 v q z) hy with ⟨e, he, ee⟩ | h
   ·unfold push1 at he
    by_cases c : z.1 ∈ keys q
    ·rw [if_pos c] at he
     exact .inl ⟨e, he, ee⟩
    ·rw [if_neg c] at he
     rcases List.mem_append.mp he with a | a
     ·exact .inl ⟨e, a, ee⟩
     ·right
      obtain ⟨t, ht⟩ := push_pre (v := v) ys (push1 v q z)
      refine ⟨e, ?_, ee, by rw [List.mem_singleton.mp a]; simp⟩
      show _ ∈ push v (push1 v q z) ys
      rw [ht]
      unfold push1
      rw [if_neg c]
      exact List.mem_append_left _ (List.mem_append_right _ a)
   ·exact .inr h
structure Lv (nx : α → List (α × Nat)) (q : Qu α) (i : Nat) : Prop where
 up : q.Pairwise fun a b => a.2.length ≤ b.2.length
 near : ∀ x, q[i]? = some x → ∀ e ∈ q, e.2.length ≤ x.2.length + 1
 done : ∀ j, j < i → ∀ x, q[j]? = some x → ∀ y ∈ nx x.1, ∃ e ∈ q, e.1 = y.1 ∧ e.2.length ≤ x.2.length + 1
theorem push1_up {v : List Nat} {q : Qu α} {y : α × Nat} (h : q.Pairwise fun a b => a.2.length ≤ b.2.length) (hn : ∀ e ∈ q, e.2.length ≤ v.length + 1) : (push1 v q y).Pairwise (fun a b => a.2.length ≤ b.2.length) ∧ ∀ e ∈ push1 v q y, e.2.length ≤ v.length + 1 := by
 unfold push1
 by_cases c : y.1 ∈ keys q
 ·rw [if_pos c]; exact ⟨h, hn⟩
 ·rw [if_neg c]
  refine ⟨List.pairwise_append.mpr ⟨h, List.pairwise_singleton .., fun a ha b hb => ?_⟩, fun e he => ?_⟩
  ·rw [List.mem_singleton.mp hb]
   have := hn a ha
   simp; omega
  ·rcases List.mem_append.mp he with a | a
   ·exact hn e a
   ·rw [List.mem_singleton.mp a]; simp
theorem push_up {v : List Nat} : ∀ (ys : List (α × Nat)) {q : Qu α}, q.Pairwise (fun a b => a.2.length ≤ b.2.length) → (∀ e ∈ q, e.2.length ≤ v.length + 1) → (push v q ys).Pairwise (fun a b => a.2.length ≤ b.2.length) ∧ ∀ e ∈ push v q ys, e.2.length ≤ v.length + 1
 | [], q, h, hn => ⟨h, hn⟩
 | y :: ys, q, h, hn => by
  obtain ⟨a, b⟩ := push1_up (y := y) h hn
  exact push_up ys a b
theorem Lv.step {q : Qu α} {i : Nat} (h : Lv nx q i) (hi : i < q.length) : Lv nx (push q[i].2 q (nx q[i].1)) (i + 1) := by
 have hn := h.near q[i] (List.getElem?_eq_getElem hi)
 obtain ⟨a, b⟩ := push_up (nx q[i].1) h.up hn
 obtain ⟨t, ht⟩ := push_pre (v := q[i].2) (nx q[i].1) q
 refine ⟨a, fun x hx e he => ?_, fun j hj x hx y hy => ?_⟩
 ·have h1 := b e he
  have h2 : q[i].2.length ≤ x.2.length := by
   obtain ⟨hl, hle⟩ := List.getElem?_eq_some_iff.mp hx
   have hl' : i < (push q[i].2 q (nx q[i].1)).length := by rw [ht, List.length_append]; omega
   have := List.pairwise_iff_getElem.mp a i (i + 1) hl' hl (by omega)
   have e1 : (push q[i].2 q (nx q[i].1))[i] = q[i] := by
    have : (push q[i].2 q (nx q[i].1))[i]? = q[i]? := by rw [ht, List.getElem?_append_left hi]
    rw [List.getElem?_eq_getElem hl', List.getElem?_eq_getElem hi] at this
    exact Option.some.inj this
   rw [e1, hle] at this
   exact this
  omega
 ·by_cases z : j < i
  ·rw [ht, List.getElem?_append_left (by omega)] at hx
   obtain ⟨e, he, e1, e2⟩ := h.done j z x hx y hy
   exact ⟨e, by rw [ht]; exact List.mem_append_left _ he, e1, e2⟩
  ·have : j = i := by omega
   subst this
   rw [ht, List.getElem?_append_left hi, List.getElem?_eq_getElem hi] at hx
   cases hx
   rcases push_has (v := q[j].2) (nx q[j].1) q hy with ⟨e, he, ee⟩ | ⟨e, he, ee, el⟩
   ·exact ⟨e, by rw [ht]; exact List.mem_append_left _ he, ee, hn e he⟩
   ·exact ⟨e, he, ee, by omega⟩
end
end U
set_option maxRecDepth 100000
set_option maxHeartbeats 4000000
namespace U
open PySem PySem.Spec Y
open L2 (atI ixN)
section
variable {κ ν : Type} [DecidableEq κ]
structure DictOf (f : κ → ν) (kvs : List (κ × ν)) : Prop where
 nd : (kvs.map (·.1)).Nodup
 va : ∀ e ∈ kvs, e.2 = f e.1
theorem putM_same {f : κ → ν} {x : κ} : ∀ {kvs : List (κ × ν)}, (∀ e ∈ kvs, e.2 = f e.1) → x ∈ kvs.map (·.1) → putM x (f x) kvs = kvs
 | [], _, h => by cases h
 | (k, v) :: r, hv, h => by
  unfold putM
  by_cases z : k = x
  ·rw [if_pos z]
   have : v = f k := hv (k, v) (by simp)
   rw [this, z]
  ·rw [if_neg z]
   rw [List.map_cons] at h
   have h' := (List.mem_cons.mp h).resolve_left fun e => z e.symm
   rw [putM_same (fun e he => hv e (by simp [he])) h']
theorem DictOf.set {f : κ → ν} {kvs : List (κ × ν)} (h : DictOf f kvs) (hl : kvs.length < 16777216) (x : κ) : ∃ kvs', setM kvs x (f x) = .ok kvs' ∧ DictOf f kvs' ∧ (∀ k, k ∈ kvs'.map (·.1) ↔ k = x ∨ k ∈ kvs.map (·.1)) ∧ kvs'.length ≤ kvs.length + 1 := by
 by_cases z : x ∈ kvs.map (·.1)
 ·refine ⟨kvs, ?_, h, fun k => ⟨.inr, fun o => o.elim (fun e => e ▸ z) id⟩, by omega⟩
  unfold setM
  rw [if_pos ⟨by rw [sizeLine_eq]; exact hl, h.nd⟩, putM_same h.va z]
 ·refine ⟨kvs ++ [(x, f x)], setM_new z hl h.nd, ⟨?_, fun e he => ?_⟩, fun k => ?_, by simp⟩
  ·rw [List.map_append]
   exact List.nodup_append.mpr ⟨h.nd, by simp, fun a ha b hb e => by
    have : b = x := by simpa using hb
    exact z (this ▸ e ▸ ha)⟩
  ·rcases List.mem_append.mp he with a | a
   ·exact h.va e a
   ·rw [List.mem_singleton.mp a]
  ·rw [List.map_append, List.mem_append]
   simp only [List.map_cons, List.map_nil, List.mem_singleton]
   exact or_comm
theorem DictOf.get {f : κ → ν} {kvs : List (κ × ν)} (h : DictOf f kvs) {x : κ} (hx : x ∈ kvs.map (·.1)) : getM kvs x = .ok (f x) := by
 obtain ⟨v, e1, e2⟩ := lookM_in hx
 unfold getM
 rw [e1, ← h.va _ e2]
end
section
variable {m : Nat} {Rl : Int → Int → Bool}
end
end U
set_option maxRecDepth 100000
set_option maxHeartbeats 4000000
namespace U
open PySem PySem.Spec Y
open L2 (atI ixN)
def jn (c : Nat) : List (List Nat) → List Nat
 | [] => []
 | [x] => x
 | x :: r => x ++ c :: jn c r
theorem cps_app (x y : Str) : (x ++ y).cps.toList = x.cps.toList ++ y.cps.toList := Array.toList_append
theorem join_jn {c : Nat} : ∀ ys : List Str, (Str.join ⟨#[c]⟩ ys).cps.toList = jn c (ys.map fun y => y.cps.toList)
 | [] => rfl
 | [x] => rfl
 | x :: y :: r => by
  show ((x ++ ⟨#[c]⟩) ++ Str.join ⟨#[c]⟩ (y :: r)).cps.toList = x.cps.toList ++ c :: jn c ((y :: r).map fun y => y.cps.toList)
  rw [cps_app, cps_app, join_jn (y :: r), List.append_assoc]
  rfl
theorem str_ext {x y : Str} (h : x.cps.toList = y.cps.toList) : x = y := by
 cases x; cases y
 congr 1
 exact Array.toList_inj.mp h
theorem blank : (" " : Str) = ⟨#[32]⟩ := rfl
end U
set_option maxRecDepth 100000
set_option maxHeartbeats 4000000
namespace U
open PySem PySem.Spec Y
open L2 (atI ixN)
theorem jn_mem {s : Nat} : ∀ {l : List (List Nat)} {x : List Nat} {c : Nat}, x ∈ l → c ∈ x → c ∈ jn s l
 | [y], x, c, hx, hc => by
  rw [List.mem_singleton.mp hx] at hc
  exact hc
 | y :: z :: r, x, c, hx, hc => by
  show c ∈ y ++ s :: jn s (z :: r)
  rcases List.mem_cons.mp hx with rfl | hx
  ·exact List.mem_append_left _ hc
  ·exact List.mem_append_right _ (List.mem_cons_of_mem _ (jn_mem hx hc))
theorem jn_len {s : Nat} : ∀ {l : List (List Nat)} {x : List Nat}, x ∈ l → x.length ≤ (jn s l).length
 | [y], x, hx => by
  rw [List.mem_singleton.mp hx]
  exact Nat.le_refl _
 | y :: z :: r, x, hx => by
  show x.length ≤ (y ++ s :: jn s (z :: r)).length
  rw [List.length_append, List.length_cons]
  rcases List.mem_cons.mp hx with rfl | hx
  ·omega
  ·have := jn_len (s := s) hx
   omega
theorem slen62 {x : Str} (hl : x.length ≤ 16777216) : slenR x = .ok (x.length : Int) := by
 unfold slenR
 rw [if_pos (by rw [sizeLine_eq]; exact hl)]
theorem split62 {x : Str} (hl : x.length ≤ 16000000) : splitR x (" " : Str) = .ok (PySem.Txt.split x ⟨#[32]⟩) := by
 unfold splitR
 rw [if_pos ⟨rfl, by rw [sizeLine_eq]; omega⟩]
 rfl
theorem cut_exact {x : Str} {i : Int} (h0 : 0 ≤ i) (h : i < x.length) : (L2.cutS x none (some i)).length = i.toNat := by
 show (((x.cps.toList.drop (HT.sIx x.length 0 none)).take (HT.sIx x.length x.length (some i) - HT.sIx x.length 0 none)).toArray).size = _
 have e1 : HT.sIx x.length 0 none = 0 := rfl
 have e2 : HT.sIx x.length x.length (some i) = min i.toNat x.length := by
  unfold HT.sIx
  dsimp only
  rw [if_neg (by omega)]
 rw [e1, e2, List.size_toArray, List.length_take, List.drop_zero, Array.length_toList]
 have : x.cps.size = x.length := rfl
 omega
end U
set_option maxRecDepth 100000
set_option maxHeartbeats 4000000
namespace U
open PySem PySem.Spec Y
open L2 (atI ixN)
inductive Run14 {σ α ρ : Type} (body : σ → α → R (Ctl ρ σ)) : List α → σ → σ → Prop
 | nil (s : σ) : Run14 body [] s s
 | cons {x : α} {xs : List α} {s s1 s2 : σ} : body s x = .ok (.nx s1) → Run14 body xs s1 s2 → Run14 body (x :: xs) s s2
theorem Run14.app {σ α ρ : Type} {body : σ → α → R (Ctl ρ σ)} {xs ys : List α} {s s1 s2 : σ} (h : Run14 body xs s s1) : Run14 body ys s1 s2 → Run14 body (xs ++ ys) s s2 := by
 induction h with
 | nil => exact id
 | cons e _ ih => exact fun k => .cons e (ih k)
theorem Run14.out {σ α ρ : Type} {body : σ → α → R (Ctl ρ σ)} {xs : List α} {s s1 : σ} (h : Run14 body xs s s1) : forC body xs s = .ok (.nx s1) := by
 induction h with
 | nil => rfl
 | cons e _ ih =>
  unfold forC
  rw [e]
  exact ih
end U
set_option maxRecDepth 100000
set_option maxHeartbeats 4000000
namespace U
open PySem PySem.Spec Y
open L2 (atI ixN)
theorem scat63 {x y : Str} (h : x.length + y.length ≤ 16777216) : scatR x y = .ok (x ++ y) := by
 unfold scatR
 rw [if_pos (by rw [sizeLine_eq]; exact h)]
def cj (ys : List Str) : Str := Str.join ⟨#[44]⟩ ys
theorem sum_le63 {B : Nat} : ∀ {ys : List Str}, (∀ y ∈ ys, y.length ≤ B) → (ys.map (·.length)).sum ≤ ys.length * B
 | [], _ => by simp
 | y :: ys, h => by
  have := sum_le63 (ys := ys) fun z hz => h z (List.mem_cons_of_mem _ hz)
  have := h y List.mem_cons_self
  rw [List.map_cons, List.sum_cons, List.length_cons, Nat.succ_mul]
  omega
theorem joinc_ok {ys : List Str} {B : Nat} (h : ∀ y ∈ ys, y.length ≤ B) (hl : ys.length * B + ys.length ≤ 16777216) : joinR ("," : Str) ys = .ok (cj ys) := by
 have := sum_le63 h
 unfold joinR
 rw [if_pos (by rw [show ("," : Str).length = 1 from rfl]; omega)]
 refine congrArg R.ok ?_
 show Builtin.Str.glued ("," : Str) ys = _
 rw [StrLaws.glued_eq_join]
 rfl
theorem cj_cps {ys : List Str} : (cj ys).cps.toList = jn 44 (ys.map fun y => y.cps.toList) := join_jn ys
theorem jn_len_le {c B : Nat} : ∀ {l : List (List Nat)}, (∀ x ∈ l, x.length ≤ B) → (jn c l).length ≤ l.length * (B + 1)
 | [], _ => by simp [jn]
 | [x], h => by
  have := h x (by simp)
  show x.length ≤ 1 * (B + 1)
  omega
 | x :: y :: r, h => by
  have h1 := h x (by simp)
  have h2 := jn_len_le (c := c) (l := y :: r) fun z hz => h z (List.mem_cons_of_mem _ hz)
  show (x ++ c :: jn c (y :: r)).length ≤ _
  rw [List.length_append, List.length_cons]
  rw [List.length_cons, Nat.succ_mul]
  omega
theorem str_len (x : Str) : x.length = x.cps.toList.length := Array.length_toList.symm
theorem cj_len {ys : List Str} {B : Nat} (h : ∀ y ∈ ys, y.length ≤ B) : (cj ys).length ≤ ys.length * (B + 1) := by
 rw [str_len, cj_cps]
 have := jn_len_le (c := 44) (l := ys.map fun y => y.cps.toList) (B := B) fun x hx => by
  obtain ⟨y, hy, rfl⟩ := List.mem_map.mp hx
  rw [← str_len]
  exact h y hy
 rw [List.length_map] at this
 exact this
theorem jn_sub {c : Nat} : ∀ {l : List (List Nat)} {x : Nat}, x ∈ jn c l → x = c ∨ ∃ y ∈ l, x ∈ y
 | [], x, h => by cases h
 | [y], x, h => .inr ⟨y, by simp, h⟩
 | y :: z :: r, x, h => by
  have h' : x ∈ y ++ c :: jn c (z :: r) := h
  rcases List.mem_append.mp h' with w | w
  ·exact .inr ⟨y, by simp, w⟩
  ·rcases List.mem_cons.mp w with w | w
   ·exact .inl w
   ·rcases jn_sub w with q | ⟨u, hu, q⟩
    ·exact .inl q
    ·exact .inr ⟨u, List.mem_cons_of_mem _ hu, q⟩
def Sg (P : Nat → Prop) (x : Str) : Prop := ∀ c ∈ x.cps.toList, P c
def fr (c : Nat) : Prop := 45 ≤ c ∧ c < 128
def fr2 (c : Nat) : Prop := 44 ≤ c ∧ c < 128
theorem fr_fit {x : Str} (h : Sg fr2 x) : Fit x := fun c hc => by
 have := h c hc
 unfold fr2 at this
 omega
theorem fr_up {x : Str} (h : Sg fr x) : Sg fr2 x := fun c hc => by
 have := h c hc
 unfold fr at this
 unfold fr2
 omega
def Lay (k : Nat) (d : PyData) : Prop := d.canLay0 = true ∧ d.depth ≤ k
theorem lay_all {k : Nat} : ∀ {l : List PyData}, (∀ x ∈ l, Lay k x) → PyData.canLayAll0 l = true ∧ PyData.depthAll l ≤ k
 | [], _ => ⟨rfl, Nat.zero_le _⟩
 | x :: l, h => by
  obtain ⟨h1, h2⟩ := h x List.mem_cons_self
  obtain ⟨h3, h4⟩ := lay_all (l := l) fun y hy => h y (List.mem_cons_of_mem _ hy)
  refine ⟨by simp only [PyData.canLayAll0, h1, h3, Bool.and_self], ?_⟩
  simp only [PyData.depthAll]
  omega
theorem lay_tup {k : Nat} {l : List PyData} (h : ∀ x ∈ l, Lay k x) : Lay (k + 1) (.tuple l) := by
 obtain ⟨h1, h2⟩ := lay_all h
 refine ⟨by simp only [PyData.canLay0]; exact h1, ?_⟩
 simp only [PyData.depth]
 omega
theorem lay_int {i : Int} : Lay 0 (.int i) := ⟨rfl, Nat.le_refl _⟩
theorem lay_str {x : Str} (h : Fit x) : Lay 0 (.str x) := ⟨by simp only [PyData.canLay0]; exact fit_ok h, by simp only [PyData.depth]; omega⟩
theorem lay_up {k m : Nat} {d : PyData} (h : Lay k d) (hk : k ≤ m) : Lay m d := ⟨h.1, Nat.le_trans h.2 hk⟩
theorem lay_ints {r : List Int} : Lay 1 (dT PyData.int r) := lay_tup fun x hx => by
 obtain ⟨i, _, rfl⟩ := List.mem_map.mp hx
 exact lay_int
theorem lay_rows {n : List (List Int)} : Lay 2 (dT (dT PyData.int) n) := lay_tup fun x hx => by
 obtain ⟨i, _, rfl⟩ := List.mem_map.mp hx
 exact lay_ints
theorem ne_self {d : PyData} (h : Lay 60 d) : op2B gNe ((sF dA) d) ((sF dA) d) = .ok false := by
 have sh : SeqAt.shaped d = true := by
  unfold SeqAt.shaped
  rw [h.1, decide_eq_true (by have := h.2; omega)]
  rfl
 refine op2B_eq ?_
 show (if SeqAt.shaped d = true ∧ SeqAt.shaped d = true then some (SV.fz (.bool (!PyData.eqv d d))) else none) = _
 rw [if_pos ⟨sh, sh⟩, SeqAt.eqv_refl d h.1]
 rfl
section
variable {n : List (List Int)}
end
end U
set_option maxRecDepth 100000
set_option maxHeartbeats 4000000
namespace U
open PySem PySem.Spec Y
open L2 (atI ixN)
def nT (n : Nat) : Str := ⟨(TL.numL n).toArray⟩
theorem nT_cps {n : Nat} : (nT n).cps.toList = TL.numL n := rfl
theorem str_num {n : Nat} (h : n < 10 ^ 400) : strIR (n : Int) = .ok (nT n) := by
 unfold strIR
 rw [if_pos (by
  rw [Int.natAbs_natCast]
  refine log2_small (k := 1920) (Nat.lt_of_lt_of_le h (by decide +kernel)) (by decide))]
 exact congrArg R.ok (str_ext (TL.tl_num n))
theorem int_num57 {n k : Nat} (hk : 0 < k) (hk2 : k ≤ 640) (h : n < 10 ^ k) : intTR (nT n) = .ok (n : Int) := by
 have hl := TL.numL_len hk h
 have e : nT n = Str.ofString (toString ((n : Nat) : Int)) := str_ext (TL.tl_num n).symm
 have hi := TL.int_num (n := n) (by omega)
 unfold intTR
 rw [e, hi]
 dsimp only
 rw [if_pos (by rw [← e, str_len, nT_cps]; omega)]
theorem nT_sg {n : Nat} : Sg fr (nT n) := fun c hc => by
 rw [nT_cps] at hc
 have := TL.numL_digits n c hc
 unfold fr
 omega
theorem nT_fit {n : Nat} : Fit (nT n) := fr_fit (fr_up nT_sg)
theorem fig10_iff (k : Nat) : inStr ⟨#[k]⟩ ("0123456789" : Str) = decide (48 ≤ k ∧ k ≤ 57) := by
 have : inStr ⟨#[k]⟩ ("0123456789" : Str) = decide (k ∈ ("0123456789" : Str).cps.toList) := rfl
 rw [this]
 refine decide_eq_decide.mpr ?_
 show k ∈ [48, 49, 50, 51, 52, 53, 54, 55, 56, 57] ↔ _
 simp only [List.mem_cons, List.not_mem_nil, or_false]
 omega
theorem nT_len {n k : Nat} (hk : 0 < k) (h : n < 10 ^ k) : 1 ≤ (nT n).length ∧ (nT n).length ≤ k := by
 rw [str_len, nT_cps]
 exact ⟨List.length_pos_iff.mpr (TL.numL_ne n), TL.numL_len hk h⟩
end U
set_option maxRecDepth 100000
set_option maxHeartbeats 4000000
namespace U
open PySem PySem.Spec Y
open L2 (atI ixN)
def isB (sg : Str) (lo hi : Int) (y : Str) : Bool := (decide (lo ≤ (y.length : Int)) && decide ((y.length : Int) ≤ hi)) && (chars y).all fun c => inStr c sg
theorem writ64 {y sg : Str} {lo hi : Int} (hl : y.length ≤ 16777216) : t_is_written y sg lo hi = .ok (isB sg lo hi y) := by
 unfold t_is_written
 rw [bind_eq (slen62 hl), bind_id]
 unfold isB
 cases decide (lo ≤ (y.length : Int)) && decide ((y.length : Int) ≤ hi) with
 | false => rfl
 | true =>
  rw [if_pos rfl, Bool.true_and, bind_eq (lcR_eq (fun c => inStr c sg) (by rw [chars_len]; exact hl) fun _ _ => rfl)]
  refine congrArg R.ok ?_
  rw [List.all_map]
  rfl
theorem chars_fit {y : Str} (h : Fit y) : ∀ c ∈ chars y, Fit c := fun c hc => by
 unfold chars at hc
 obtain ⟨k, hk, rfl⟩ := List.mem_map.mp hc
 intro d hd
 have : d = k := by simpa using hd
 subst this
 exact h d hk
theorem filt_none {α : Type} {p : α → Bool} {l : List α} [DecidableEq α] : decide (l.filterMap (fun x => if (!p x) = true then some x else none) = []) = l.all p := by
 induction l with
 | nil => rfl
 | cons x l ih =>
  rw [List.filterMap_cons, List.all_cons]
  cases h : p x with
  | true => simpa [h] using ih
  | false => simp [h]
theorem isof64 {y sg : Str} {lo hi : Int} (hl : y.length ≤ 16777216) (hf : Fit y) : t__law_is_of y sg lo hi = .ok (isB sg lo hi y) := by
 unfold t__law_is_of
 rw [bind_eq (slen62 hl), bind_id]
 unfold isB
 cases decide (lo ≤ (y.length : Int)) && decide ((y.length : Int) ≤ hi) with
 | false => rfl
 | true =>
  rw [if_pos rfl, Bool.true_and, bind_eq (lcF_eq (fun c => if (!inStr c sg) = true then some c else none) (by rw [chars_len]; exact hl) fun c _ => by split <;> rfl)]
  have e1 : shaR ((dL PyData.str) ((chars y).filterMap fun c => if (!inStr c sg) = true then some c else none)) = .ok () := by
   unfold shaR
   rw [if_pos (sha_strs fun z hz => ?_)]
   obtain ⟨c, hc, e⟩ := List.mem_filterMap.mp hz
   split at e
   ·cases e
    exact chars_fit hf _ hc
   ·cases e
  rw [bind_eq e1, bind_eq (show shaR ((dL PyData.str) ([] : List Str)) = .ok () from by kernel_rfl)]
  exact congrArg R.ok filt_none
def numB (y : Str) : Bool := isB ("0123456789" : Str) 1 60 y && (!decide ((chars y).head? = some ("0" : Str)) || decide (y.length = 1))
def wdB (y : Str) : Bool := decide (y = ("-" : Str)) || isB ("abc" : Str) 1 2000 y
theorem word64 {y : Str} (hl : y.length ≤ 16777216) (hf : Fit y) : t_is_written_word y = .ok (wdB y) ∧ t__law_is_word_2 y = .ok (wdB y) := by
 have fd : shaR (PyData.str ("-" : Str)) = .ok () := by kernel_rfl
 unfold t_is_written_word t__law_is_word_2 wdB
 rw [bind_eq (shaR_of hf), bind_eq fd, bind_id, bind_eq (shaR_of hf), bind_eq fd, bind_id]
 by_cases z : y = ("-" : Str)
 ·rw [if_pos (decide_eq_true z), if_pos (decide_eq_true z), decide_eq_true z]
  exact ⟨rfl, rfl⟩
 ·rw [if_neg (by rw [decide_eq_false z]; simp), if_neg (by rw [decide_eq_false z]; simp), decide_eq_false z, Bool.false_or, bind_id, bind_id]
  exact ⟨writ64 hl, isof64 hl hf⟩
theorem head_six {y : Str} (h1 : 1 ≤ y.length) (hl : y.length ≤ 16777216) : ∃ c, sixR y (0 : Int) = .ok c ∧ (chars y).head? = some c := by
 have hc : 0 < (chars y).length := by rw [chars_len]; omega
 refine ⟨(chars y)[0], ?_, by rw [List.head?_eq_getElem?, List.getElem?_eq_getElem hc]⟩
 unfold sixR
 rw [if_pos (by rw [sizeLine_eq]; exact hl)]
 exact ixR_nat hc
theorem one_char {y c : Str} (h : (chars y).head? = some c) (h1 : y.length = 1) : y = c := by
 have hl : (chars y).length = 1 := by rw [chars_len]; exact h1
 unfold chars at h hl
 match q : y.cps.toList, h, hl with
 | [k], h, _ =>
  have : c = ⟨#[k]⟩ := by simpa using h.symm
  rw [this]
  exact str_ext (by rw [q])
theorem numb64 {y : Str} (hl : y.length ≤ 16777216) (hf : Fit y) : t_is_written_number y = .ok (numB y) ∧ t__law_is_number y = .ok (numB y) := by
 have fz : shaR (PyData.str ("0" : Str)) = .ok () := by kernel_rfl
 have e1 : t_is_written y ("0123456789" : Str) (1 : Int) (60 : Int) = .ok (isB ("0123456789" : Str) 1 60 y) := writ64 hl
 have e2 : t__law_is_of y ("0123456789" : Str) (1 : Int) (60 : Int) = .ok (isB ("0123456789" : Str) 1 60 y) := isof64 hl hf
 unfold t_is_written_number t__law_is_number
 rw [bind_eq e1, bind_eq e2, bind_id]
 unfold numB
 by_cases z : isB ("0123456789" : Str) 1 60 y = true
 ·have h1 : 1 ≤ y.length := by
   unfold isB at z
   simp only [Bool.and_eq_true, decide_eq_true_eq] at z
   omega
  obtain ⟨c, e3, hc⟩ := head_six h1 hl
  have fc : Fit c := chars_fit hf c (List.mem_of_mem_head? (by rw [hc]; rfl))
  rw [z, if_neg (by simp), if_pos rfl, Bool.true_and, bind_eq e3, bind_eq (shaR_of fc), bind_eq fz, bind_id, bind_eq e3, bind_eq (shaR_of fc), bind_eq fz, bind_id, hc]
  by_cases w : c = ("0" : Str)
  ·subst w
   rw [if_neg (by rw [decide_eq_true rfl]; simp), if_neg (by rw [decide_eq_true rfl]; simp), bind_eq (slen62 hl), bind_eq (shaR_of hf), bind_eq fz, decide_eq_true rfl]
   refine ⟨congrArg R.ok ?_, congrArg R.ok ?_⟩
   ·show decide ((y.length : Int) = 1) = (!true || decide (y.length = 1))
    rw [Bool.not_true, Bool.false_or]
    exact decide_eq_decide.mpr (by omega)
   ·show decide (y = ("0" : Str)) = (!true || decide (y.length = 1))
    rw [Bool.not_true, Bool.false_or]
    refine decide_eq_decide.mpr ⟨fun e => ?_, fun e => one_char hc e⟩
    rw [e]
    rfl
  ·rw [if_pos (by rw [decide_eq_false w]; rfl), if_pos (by rw [decide_eq_false w]; rfl), decide_eq_false (fun e => w (Option.some.inj e))]
   exact ⟨rfl, rfl⟩
 ·rw [Bool.not_eq_true] at z
  rw [z, Bool.false_and]
  exact ⟨rfl, rfl⟩
end U
set_option maxRecDepth 100000
set_option maxHeartbeats 4000000
namespace U
open PySem PySem.Spec Y
open L2 (atI ixN)
def dgT (y : Str) : List Int := y.cps.toList.map fun k : Nat => (k : Int) - 48
theorem in_figs9 (k : Nat) : inStr ⟨#[k]⟩ ("012345678" : Str) = decide (48 ≤ k ∧ k ≤ 56) := by
 have : inStr ⟨#[k]⟩ ("012345678" : Str) = decide (k ∈ ("012345678" : Str).cps.toList) := rfl
 rw [this]
 refine decide_eq_decide.mpr ?_
 show k ∈ [48, 49, 50, 51, 52, 53, 54, 55, 56] ↔ _
 simp only [List.mem_cons, List.not_mem_nil, or_false]
 omega
theorem isB_len {sg : Str} {lo hi : Int} {y : Str} (h : isB sg lo hi y = true) : lo ≤ (y.length : Int) ∧ (y.length : Int) ≤ hi ∧ ∀ k ∈ y.cps.toList, inStr ⟨#[k]⟩ sg = true := by
 unfold isB chars at h
 simp only [Bool.and_eq_true, decide_eq_true_eq, List.all_eq_true, List.mem_map] at h
 exact ⟨h.1.1, h.1.2, fun k hk => h.2 _ ⟨k, hk, rfl⟩⟩
theorem places64 {lo hi : Int} {y : Str} (hl : y.length ≤ 16777216) (h : isB ("012345678" : Str) lo hi y = true) : t_places_in y = .ok (dgT y) ∧ ∀ x ∈ dgT y, 0 ≤ x ∧ x < 9 := by
 obtain ⟨_, _, hk⟩ := isB_len h
 have hk' : ∀ k ∈ y.cps.toList, 48 ≤ k ∧ k ≤ 56 := fun k hk1 => by
  have := hk k hk1
  rw [in_figs9] at this
  exact of_decide_eq_true this
 refine ⟨?_, fun x hx => ?_⟩
 ·unfold t_places_in
  rw [bind_id]
  have key : ∀ c ∈ chars y, ((intTR c).bind fun v1 => R.ok v1) = .ok ((fun c : Str => (match c.cps.toList with | k :: _ => (k : Int) - 48 | [] => 0)) c) := fun c hc => by
   unfold chars at hc
   obtain ⟨k, hk1, rfl⟩ := List.mem_map.mp hc
   rw [bind_id]
   have := hk' k hk1
   rcases (show k = 48 ∨ k = 49 ∨ k = 50 ∨ k = 51 ∨ k = 52 ∨ k = 53 ∨ k = 54 ∨ k = 55 ∨ k = 56 by omega) with rfl | rfl | rfl | rfl | rfl | rfl | rfl | rfl | rfl <;> kernel_rfl
  rw [lcR_eq _ (by rw [chars_len]; exact hl) key]
  refine congrArg R.ok ?_
  unfold chars dgT
  rw [List.map_map]
  rfl
 ·unfold dgT at hx
  obtain ⟨k, hk1, rfl⟩ := List.mem_map.mp hx
  have := hk' k hk1
  omega
theorem digits_num : ∀ (m : Nat) (l : List Nat), l.length = m + 1 → (∀ d ∈ l, 48 ≤ d ∧ d ≤ 57) → (l.head? ≠ some 48 ∨ l.length = 1) → ∃ k : Nat, TL.numL k = l ∧ k < 10 ^ (m + 1) ∧ (l.head? ≠ some 48 → 1 ≤ k)
 | 0, l, hl, hd, _ => by
  match l, hl, hd with
  | [d], _, hd =>
   have := hd d (by simp)
   refine ⟨d - 48, ?_, by omega, fun h => ?_⟩
   ·rw [TL.numL_lt (by omega)]
    congr 1
    omega
   ·have : d ≠ 48 := fun e => h (by rw [e]; rfl)
    omega
 | m + 1, l, hl, hd, hz => by
  obtain ⟨l', d, rfl⟩ : ∃ l' d, l = l' ++ [d] := ⟨l.dropLast, l.getLast (fun e => by rw [e] at hl; simp at hl), (List.dropLast_concat_getLast _).symm⟩
  have hl' : l'.length = m + 1 := by simp at hl; omega
  have hne : l' ≠ [] := fun e => by rw [e] at hl'; simp at hl'
  have hh : (l' ++ [d]).head? = l'.head? := by cases l' with | nil => exact absurd rfl hne | cons _ _ => rfl
  have hz' : l'.head? ≠ some 48 := by
   rcases hz with h | h
   ·rwa [hh] at h
   ·rw [List.length_append, List.length_singleton] at h; omega
  obtain ⟨k, e, k1, k2⟩ := digits_num m l' hl' (fun x hx => hd x (by simp [hx])) (.inl hz')
  have hk := k2 hz'
  have hdd := hd d (by simp)
  refine ⟨10 * k + (d - 48), ?_, ?_, fun _ => by omega⟩
  ·rw [TL.numL_step (by omega), show (10 * k + (d - 48)) / 10 = k by omega, show (10 * k + (d - 48)) % 10 = d - 48 by omega, e]
   congr 2
   omega
  ·rw [Nat.pow_succ]
   omega
theorem int64 {y : Str} (h : numB y = true) : ∃ k : Nat, intTR y = .ok (k : Int) ∧ y = nT k := by
 unfold numB at h
 rw [Bool.and_eq_true] at h
 obtain ⟨h1, h2⟩ := h
 obtain ⟨a1, a2, hk⟩ := isB_len h1
 have hk' : ∀ k ∈ y.cps.toList, 48 ≤ k ∧ k ≤ 57 := fun k hk1 => by
  have := hk k hk1
  rw [fig10_iff] at this
  exact of_decide_eq_true this
 have hlen : y.cps.toList.length = y.length := (str_len y).symm
 have hz : y.cps.toList.head? ≠ some 48 ∨ y.cps.toList.length = 1 := by
  rw [Bool.or_eq_true] at h2
  rcases h2 with h2 | h2
  ·left
   intro e
   have : (chars y).head? = some ("0" : Str) := by
    unfold chars
    rw [List.head?_map, e]
    rfl
   rw [this] at h2
   simp at h2
  ·right
   have := of_decide_eq_true h2
   omega
 obtain ⟨k, e, k1, _⟩ := digits_num (y.length - 1) y.cps.toList (by omega) hk' hz
 have hy : y = nT k := str_ext (by rw [nT_cps, e])
 have hk60 : k < 10 ^ 60 := Nat.lt_of_lt_of_le k1 (Nat.pow_le_pow_right (by decide) (by omega))
 exact ⟨k, by rw [hy]; exact int_num57 (k := 60) (by decide) (by decide) hk60, hy⟩
end U
set_option maxRecDepth 100000
set_option maxHeartbeats 4000000
namespace U
open PySem PySem.Spec Y
open L2 (atI ixN)
structure Pcs (w : Str) (p : List Str) : Prop where
 sp : splitR w ("," : Str) = .ok p
 ne : p ≠ []
 ln : p.length ≤ 40010
 el : ∀ y ∈ p, Fit y ∧ y.length ≤ 40000
def figB (lo hi : Int) : Str → Bool := isB ("012345678" : Str) lo hi
def rowsB (p : List Str) : Bool := decide (p.length ≤ 9) && match p.head? with
 | some y => (decide ((y.length : Int) = 2) || decide ((y.length : Int) = 3)) && p.all (figB y.length y.length)
 | none => false
theorem ix_head {p : List Str} {y : Str} (h : p.head? = some y) : ixR p (0 : Int) = .ok y := by
 cases p with
 | nil => cases h
 | cons a r =>
  cases h
  exact ixR_nat (i := 0) (by simp)
theorem written_rows64 {w : Str} {p : List Str} (h : Pcs w p) : t_are_written_rows p = .ok (rowsB p) := by
 obtain ⟨y, hy⟩ : ∃ y, p.head? = some y := by
  cases q : p with
  | nil => exact absurd q h.ne
  | cons a r => exact ⟨a, rfl⟩
 have hmem : y ∈ p := List.mem_of_mem_head? (by rw [hy]; rfl)
 have hyl := (h.el y hmem).2
 have h1 : 0 < p.length := List.length_pos_iff.mpr h.ne
 have ln := h.ln
 have e0 := ix_head hy
 unfold t_are_written_rows rowsB
 rw [hy]
 dsimp only
 by_cases z : p.length ≤ 9
 ·rw [decide_eq_true (show (1 : Int) ≤ p.length by omega), decide_eq_true (show (p.length : Int) ≤ 9 by omega), if_neg (by simp), bind_eq e0, bind_eq (slen62 (by omega)), R.ok_bind, decide_eq_true z, Bool.true_and]
  have em : memB (y.length : Int) ([(2 : Int), (3 : Int)] : (List Int)) = (decide ((y.length : Int) = 2) || decide ((y.length : Int) = 3)) := by
   unfold memB
   by_cases a : (y.length : Int) = 2 <;> by_cases b : (y.length : Int) = 3 <;> simp [a, b]
  rw [em]
  cases decide ((y.length : Int) = 2) || decide ((y.length : Int) = 3) with
  | false => rfl
  | true =>
   rw [if_neg (by simp), Bool.true_and, bind_eq (lcR_eq (figB y.length y.length) (by omega) fun x hx => by
    rw [bind_eq e0, bind_eq (slen62 (by omega)), bind_eq e0, bind_eq (slen62 (by omega)), bind_id]
    exact writ64 (by have := (h.el x hx).2; omega))]
   refine congrArg R.ok ?_
   rw [List.all_map]
   rfl
 ·rw [decide_eq_false (show ¬ (p.length : Int) ≤ 9 by omega), Bool.and_false, if_pos (by simp), R.ok_bind, if_pos rfl, decide_eq_false z, Bool.false_and]
theorem tuples64 {p : List Str} {lo hi : Int} (hp : p.length ≤ 16777216) (hl : ∀ y ∈ p, y.length ≤ 16777216) (h : p.all (figB lo hi) = true) : t__law_tuples p = .ok (p.map dgT) ∧ ((lcR p fun (x1 : Str) => (t_places_in x1).bind fun v3 => R.ok v3).bind fun v4 => R.ok v4) = .ok (p.map dgT) := by
 have hf : ∀ y ∈ p, t_places_in y = .ok (dgT y) := fun y hy => (places64 (hl y hy) (List.all_eq_true.mp h y hy)).1
 refine ⟨?_, ?_⟩
 ·unfold t__law_tuples
  rw [bind_id, lcR_eq dgT hp fun y hy => ?_]
  exact hf y hy
 ·rw [bind_id, lcR_eq dgT hp fun y hy => by rw [bind_id]; exact hf y hy]
theorem rows_in64 {w : Str} {p : List Str} (h : Pcs w p) : (rowsB p = true → x_rows_in w ("," : Str) = .fail ∧ t_rows_in w ("," : Str) = .ok (p.map dgT)) ∧ (rowsB p = false → x_rows_in w ("," : Str) = .ok "NoText") := by
 have e := written_rows64 h
 have ln := h.ln
 refine ⟨fun z => ⟨?_, ?_⟩, fun z => ?_⟩
 ·unfold x_rows_in
  rw [bind_eq h.sp, bind_eq e, z]
  rfl
 ·unfold t_rows_in
  rw [bind_eq h.sp, bind_eq e, z, if_neg (by simp)]
  obtain ⟨lo, hi, ha⟩ : ∃ lo hi, p.all (figB lo hi) = true := by
   unfold rowsB at z
   rw [Bool.and_eq_true] at z
   have z2 := z.2
   split at z2
   ·rw [Bool.and_eq_true] at z2
    exact ⟨_, _, z2.2⟩
   ·cases z2
  exact (tuples64 (by omega) (fun y hy => by have := (h.el y hy).2; omega) ha).2
 ·unfold x_rows_in
  rw [bind_eq h.sp, bind_eq e, z]
  rfl
theorem pairs_in64 {w : Str} {p : List Str} (h : Pcs w p) : (p.all (figB 2 2) = true → x_pairs_in w = .fail ∧ t_pairs_in w = .ok (p.map dgT)) ∧ (p.all (figB 2 2) = false → x_pairs_in w = .ok "NoText") := by
 have ln := h.ln
 have e : (lcR p fun (x1 : Str) => (t_is_written x1 ("012345678" : Str) (2 : Int) (2 : Int)).bind fun v2 => R.ok v2) = .ok (p.map (figB 2 2)) := lcR_eq _ (by omega) fun y hy => by
  rw [bind_id]
  exact writ64 (by have := (h.el y hy).2; omega)
 have ea : (p.map (figB 2 2)).all id = p.all (figB 2 2) := by rw [List.all_map]; rfl
 refine ⟨fun z => ⟨?_, ?_⟩, fun z => ?_⟩
 ·unfold x_pairs_in
  rw [bind_eq h.sp, bind_eq e, ea, z]
  rfl
 ·unfold t_pairs_in
  rw [bind_eq h.sp, bind_eq e, ea, z, if_neg (by simp)]
  exact (tuples64 (by omega) (fun y hy => by have := (h.el y hy).2; omega) z).2
 ·unfold x_pairs_in
  rw [bind_eq h.sp, bind_eq e, ea, z]
  rfl
def wdT (y : Str) : Str := if y = ("-" : Str) then ("" : Str) else y
theorem word_in64 {y : Str} (hl : y.length ≤ 16777216) (hf : Fit y) : (wdB y = true → x_word_in y = .fail ∧ t_word_in y = .ok (wdT y)) ∧ (wdB y = false → x_word_in y = .ok "NoText") := by
 have e := (word64 hl hf).1
 refine ⟨fun z => ⟨?_, ?_⟩, fun z => ?_⟩
 ·unfold x_word_in
  rw [bind_eq e, z]
  rfl
 ·unfold t_word_in wdT
  rw [bind_eq e, z, if_neg (by simp), bind_eq (shaR_of hf), bind_eq (show shaR (PyData.str ("-" : Str)) = .ok () from by kernel_rfl), bind_id]
  by_cases q : y = ("-" : Str)
  ·rw [if_pos (decide_eq_true q), if_pos q]
  ·rw [if_neg (by rw [decide_eq_false q]; simp), if_neg q]
 ·unfold x_word_in
  rw [bind_eq e, z]
  rfl
theorem words64 {ys : List Str} (hl : ys.length ≤ 16777216) (h : ∀ y ∈ ys, Fit y) : t__law_words ys = .ok (ys.map wdT) := by
 unfold t__law_words
 rw [bind_id]
 refine lcR_eq wdT hl fun y hy => ?_
 rw [bind_eq (shaR_of (h y hy)), bind_eq (show shaR (PyData.str ("-" : Str)) = .ok () from by kernel_rfl), bind_id]
 unfold wdT
 by_cases q : y = ("-" : Str)
 ·rw [decide_eq_true q, if_pos q]
  rfl
 ·rw [decide_eq_false q, if_neg q]
  rfl
theorem number_in64 {y : Str} (hl : y.length ≤ 16777216) (hf : Fit y) : (numB y = true → x_number_in y = .fail ∧ ∃ k : Nat, t_number_in y = .ok (k : Int) ∧ intTR y = .ok (k : Int)) ∧ (numB y = false → x_number_in y = .ok "NoText") := by
 have e := (numb64 hl hf).1
 refine ⟨fun z => ⟨?_, ?_⟩, fun z => ?_⟩
 ·unfold x_number_in
  rw [bind_eq e, z]
  rfl
 ·obtain ⟨k, ek, _⟩ := int64 z
  refine ⟨k, ?_, ek⟩
  unfold t_number_in
  rw [bind_eq e, z, if_neg (by simp), bind_id, ek]
 ·unfold x_number_in
  rw [bind_eq e, z]
  rfl
theorem numbers_in64 {y : Str} (hl : y.length ≤ 16777216) : (figB 1 5000 y = true → x_numbers_in y = .fail ∧ t_numbers_in y = .ok (dgT y)) ∧ (figB 1 5000 y = false → x_numbers_in y = .ok "NoText") := by
 have e : t_is_written y ("012345678" : Str) (1 : Int) (5000 : Int) = .ok (figB 1 5000 y) := writ64 hl
 refine ⟨fun z => ⟨?_, ?_⟩, fun z => ?_⟩
 ·unfold x_numbers_in
  rw [bind_eq e, z]
  rfl
 ·unfold t_numbers_in
  rw [bind_eq e, z, if_neg (by simp), bind_id]
  exact (places64 hl z).1
 ·unfold x_numbers_in
  rw [bind_eq e, z]
  rfl
end U
set_option maxRecDepth 100000
set_option maxHeartbeats 4000000
namespace U
open PySem PySem.Spec Y
open L2 (atI ixN)
theorem piece_fitG {s : Nat} {x p : Str} (h : Fit x) (hp : p ∈ PySem.Txt.split x ⟨#[s]⟩) : Fit p := fun c hc => by
 have e := congrArg (fun z : Str => z.cps.toList) (StrLaws.join_split x ⟨#[s]⟩)
 simp only [join_jn] at e
 exact h c (by rw [← e]; exact jn_mem (List.mem_map.mpr ⟨p, hp, rfl⟩) hc)
theorem piece_lenG {s : Nat} {x p : Str} (hp : p ∈ PySem.Txt.split x ⟨#[s]⟩) : p.length ≤ x.length := by
 have e := congrArg (fun z : Str => z.cps.toList) (StrLaws.join_split x ⟨#[s]⟩)
 simp only [join_jn] at e
 have := jn_len (s := s) (l := (PySem.Txt.split x ⟨#[s]⟩).map fun y => y.cps.toList) (x := p.cps.toList) (List.mem_map.mpr ⟨p, hp, rfl⟩)
 rw [e, Array.length_toList, Array.length_toList] at this
 exact this
theorem split_some {s : Nat} {x : Str} (hs : (PySem.Txt.split (⟨#[]⟩ : Str) ⟨#[s]⟩) ≠ []) : PySem.Txt.split x ⟨#[s]⟩ ≠ [] := fun e => by
 have j := StrLaws.join_split x ⟨#[s]⟩
 rw [e] at j
 have : x = ⟨#[]⟩ := j.symm.trans rfl
 rw [this] at e
 exact hs e
def cS (w : Str) : List Str := PySem.Txt.split w ⟨#[44]⟩
theorem pcs_of {w : Str} (hf : Fit w) (hl : w.length ≤ 40000) : Pcs w (cS w) where
 sp := by
  unfold splitR
  rw [if_pos ⟨rfl, by rw [sizeLine_eq]; omega⟩]
  rfl
 ne := fun e => by
  exact split_some (s := 44) (by decide +kernel) e
 ln := by
  have := PyProof.Rows.split_le w ⟨#[44]⟩
  unfold cS
  omega
 el := fun y hy => ⟨piece_fitG hf hy, by have := piece_lenG hy; omega⟩
structure Wds (x : Str) (ws : List Str) : Prop where
 sp : splitR x (" " : Str) = .ok ws
 ne : ws ≠ []
 pc : lcR ws (fun (x1 : Str) => (splitR x1 ("," : Str)).bind fun v2 => R.ok v2) = .ok (ws.map cS)
 el : ∀ w ∈ ws, Fit w ∧ w.length ≤ 40000
theorem wds_of {x : Str} (hf : Fit x) (hl : x.length ≤ 40000) : Wds x (PySem.Txt.split x ⟨#[32]⟩) := by
 have el : ∀ w ∈ PySem.Txt.split x ⟨#[32]⟩, Fit w ∧ w.length ≤ 40000 := fun w hw => ⟨piece_fitG hf hw, by have := piece_lenG hw; omega⟩
 refine ⟨split62 (by omega), split_some (s := 32) (by decide +kernel), ?_, el⟩
 have := PyProof.Rows.split_le x ⟨#[32]⟩
 exact lcR_eq cS (by omega) fun w hw => by rw [bind_id]; exact (pcs_of (el w hw).1 (el w hw).2).sp
def pCall64 (w1 w2 : Str) (k : Int) : PyData := (dT dA) ([(PyData.str ("call" : Str)), ((dT (dT PyData.int)) ((cS w1).map dgT)), (PyData.str (wdT w2)), (PyData.int k)] : (List PyData))
theorem or_fl {β : Type} {b : R β} : orX R.fail b = b := rfl
theorem call64 {w1 w2 w3 : Str} (h1 : Fit w1 ∧ w1.length ≤ 40000) (h2 : Fit w2 ∧ w2.length ≤ 40000) (h3 : Fit w3 ∧ w3.length ≤ 40000) :
  ((rowsB (cS w1) && (wdB w2 && numB w3)) = true → ∃ k : Nat, x_paper_by [("call" : Str), w1, w2, w3] = .fail ∧ t_paper_by [("call" : Str), w1, w2, w3] = .ok (pCall64 w1 w2 k) ∧ intTR w3 = .ok (k : Int)) ∧
  ((rowsB (cS w1) && (wdB w2 && numB w3)) = false → x_paper_by [("call" : Str), w1, w2, w3] = .ok "NoText") := by
 have ex : x_paper_by [("call" : Str), w1, w2, w3] = orX (x_rows_in w1 ("," : Str)) (orX ((t_rows_in w1 ("," : Str)).bind fun v6 => x_word_in w2) (orX ((t_rows_in w1 ("," : Str)).bind fun v9 => (t_word_in w2).bind fun v11 => x_number_in w3) R.fail)) := by kernel_rfl
 have et : t_paper_by [("call" : Str), w1, w2, w3] = (t_rows_in w1 ("," : Str)).bind fun v5 => (t_word_in w2).bind fun v7 => (t_number_in w3).bind fun v9 => R.ok ((dT dA) ([(PyData.str ("call" : Str)), ((dT (dT PyData.int)) v5), (PyData.str v7), (PyData.int v9)] : (List PyData))) := by kernel_rfl
 obtain ⟨r1, r2⟩ := rows_in64 (pcs_of h1.1 h1.2)
 obtain ⟨a1, a2⟩ := word_in64 (y := w2) (by omega) h2.1
 obtain ⟨n1, n2⟩ := number_in64 (y := w3) (by omega) h3.1
 rw [ex, et]
 cases zr : rowsB (cS w1) with
 | false =>
  refine ⟨fun z => (by cases z), fun _ => ?_⟩
  rw [r2 zr]
  rfl
 | true =>
  obtain ⟨b1, b2⟩ := r1 zr
  rw [b1, or_fl, b2]
  cases zw : wdB w2 with
  | false =>
   refine ⟨fun z => (by cases z), fun _ => ?_⟩
   show orX (x_word_in w2) _ = _
   rw [a2 zw]
   rfl
  | true =>
   obtain ⟨c1, c2⟩ := a1 zw
   cases zn : numB w3 with
   | false =>
    refine ⟨fun z => (by cases z), fun _ => ?_⟩
    show orX (x_word_in w2) (orX ((t_word_in w2).bind fun _ => x_number_in w3) _) = _
    rw [c1, or_fl, c2]
    show orX (x_number_in w3) _ = _
    rw [n2 zn]
    rfl
   | true =>
    obtain ⟨d1, k, d2, d3⟩ := n1 zn
    refine ⟨fun _ => ⟨k, ?_, ?_, d3⟩, fun z => (by cases z)⟩
    ·show orX (x_word_in w2) (orX ((t_word_in w2).bind fun _ => x_number_in w3) _) = _
     rw [c1, or_fl, c2]
     show orX (x_number_in w3) _ = _
     rw [d1]
     rfl
    ·rw [R.ok_bind, c2, R.ok_bind, d2]
     rfl
end U
set_option maxRecDepth 100000
set_option maxHeartbeats 4000000
namespace U
open PySem PySem.Spec Y
open L2 (atI ixN)
def pBeat64 (w2 : Str) (k : Int) : PyData := (dQ PyData.str PyData.int (dT PyData.int)) (("beat" : Str), k, dgT w2)
theorem beat64 {w1 w2 : Str} (h1 : Fit w1 ∧ w1.length ≤ 40000) (h2 : Fit w2 ∧ w2.length ≤ 40000) :
  ((numB w1 && figB 1 5000 w2) = true → ∃ k : Nat, x_paper_by [("beat" : Str), w1, w2] = .fail ∧ t_paper_by [("beat" : Str), w1, w2] = .ok (pBeat64 w2 k) ∧ intTR w1 = .ok (k : Int)) ∧
  ((numB w1 && figB 1 5000 w2) = false → x_paper_by [("beat" : Str), w1, w2] = .ok "NoText") := by
 have ex : x_paper_by [("beat" : Str), w1, w2] = orX (x_number_in w1) (orX ((t_number_in w1).bind fun v6 => x_numbers_in w2) R.fail) := by kernel_rfl
 have et : t_paper_by [("beat" : Str), w1, w2] = (t_number_in w1).bind fun v13 => (t_numbers_in w2).bind fun v15 => R.ok ((dQ PyData.str PyData.int (dT PyData.int)) (("beat" : Str), v13, v15)) := by kernel_rfl
 obtain ⟨n1, n2⟩ := number_in64 (y := w1) (by omega) h1.1
 obtain ⟨a1, a2⟩ := numbers_in64 (y := w2) (by omega)
 rw [ex, et]
 cases zn : numB w1 with
 | false =>
  refine ⟨fun z => (by cases z), fun _ => ?_⟩
  rw [n2 zn]
  rfl
 | true =>
  obtain ⟨d1, k, d2, d3⟩ := n1 zn
  rw [d1, or_fl, d2]
  cases zw : figB 1 5000 w2 with
  | false =>
   refine ⟨fun z => (by cases z), fun _ => ?_⟩
   show orX (x_numbers_in w2) _ = _
   rw [a2 zw]
   rfl
  | true =>
   obtain ⟨c1, c2⟩ := a1 zw
   refine ⟨fun _ => ⟨k, ?_, ?_, d3⟩, fun z => (by cases z)⟩
   ·show orX (x_numbers_in w2) _ = _
    rw [c1]
    rfl
   ·rw [R.ok_bind, c2]
    rfl
def pNever64 (w1 : Str) : PyData := (dP PyData.str (dT (dT PyData.int))) (("never" : Str), (cS w1).map dgT)
theorem never64 {w1 : Str} (h1 : Fit w1 ∧ w1.length ≤ 40000) :
  ((cS w1).all (figB 2 2) = true → x_paper_by [("never" : Str), w1] = .fail ∧ t_paper_by [("never" : Str), w1] = .ok (pNever64 w1)) ∧
  ((cS w1).all (figB 2 2) = false → x_paper_by [("never" : Str), w1] = .ok "NoText") := by
 have ex : x_paper_by [("never" : Str), w1] = orX (x_pairs_in w1) R.fail := by kernel_rfl
 have et : t_paper_by [("never" : Str), w1] = (t_pairs_in w1).bind fun v21 => R.ok ((dP PyData.str (dT (dT PyData.int))) (("never" : Str), v21)) := by kernel_rfl
 obtain ⟨a1, a2⟩ := pairs_in64 (pcs_of h1.1 h1.2)
 rw [ex, et]
 refine ⟨fun z => ?_, fun z => ?_⟩
 ·obtain ⟨b1, b2⟩ := a1 z
  rw [b1, b2]
  exact ⟨rfl, rfl⟩
 ·rw [a2 z]
  rfl
theorem bad64 {p : List Str} {lo hi : Int} (hp : p.length ≤ 16777216) (hl : ∀ y ∈ p, Fit y ∧ y.length ≤ 40000) : ∃ l, (lcF p fun (x2 : Str) => (t__law_is_of x2 ("012345678" : Str) lo hi).bind fun v19 => if (!v19) = true then (R.ok (some x2)) else R.ok none) = .ok l ∧ shaR ((dL PyData.str) l) = .ok () ∧ decide (l = []) = p.all (figB lo hi) := by
 refine ⟨p.filterMap fun x => if (!figB lo hi x) = true then some x else none, lcF_eq _ hp fun y hy => ?_, ?_, filt_none⟩
 ·have := hl y hy
  rw [bind_eq (isof64 (by omega) this.1)]
  show (if (!figB lo hi y) = true then (R.ok (some y) : R (Option Str)) else R.ok none) = _
  split <;> rfl
 ·unfold shaR
  rw [if_pos (sha_strs fun z hz => ?_)]
  obtain ⟨c, hc, e⟩ := List.mem_filterMap.mp hz
  split at e
  ·cases e
   exact (hl _ hc).1
  ·cases e
end U
set_option maxRecDepth 100000
set_option maxHeartbeats 4000000
namespace U
open PySem PySem.Spec Y
open L2 (atI ixN)
theorem ix_n {α : Type} {xs : List α} {i : Nat} {a : α} (h : xs[i]? = some a) : ixR xs (i : Int) = .ok a := by
 have hi : i < xs.length := by
  rcases Nat.lt_or_ge i xs.length with z | z
  ·exact z
  ·rw [List.getElem?_eq_none z] at h; cases h
 have := ixR_nat hi
 rw [List.getElem?_eq_getElem hi] at h
 cases h
 exact this
theorem rowsB_parts {p : List Str} {y : Str} (hy : p.head? = some y) : rowsB p = (decide (p.length ≤ 9) && ((decide ((y.length : Int) = 2) || decide ((y.length : Int) = 3)) && p.all (figB y.length y.length))) := by
 unfold rowsB
 rw [hy]
theorem due_call64 {x w1 w2 w3 : Str} (h : Wds x [("call" : Str), w1, w2, w3]) :
  ((rowsB (cS w1) && (wdB w2 && numB w3)) = true → ∀ k : Int, intTR w3 = .ok k → t__law_due_11 x = .ok (pCall64 w1 w2 k)) ∧
  ((rowsB (cS w1) && (wdB w2 && numB w3)) = false → t__law_due_11 x = .ok (dN ())) := by
 have f1 := h.el w1 (by simp)
 have f2 := h.el w2 (by simp)
 have f3 := h.el w3 (by simp)
 have P := pcs_of f1.1 f1.2
 have hln := P.ln
 obtain ⟨y, hy⟩ : ∃ y, (cS w1).head? = some y := by
  cases q : cS w1 with
  | nil => exact absurd q P.ne
  | cons a r => exact ⟨a, rfl⟩
 have hym : y ∈ cS w1 := List.mem_of_mem_head? (by rw [hy]; rfl)
 have fy := P.el y hym
 have i1 : ixR ([("call" : Str), w1, w2, w3].map cS) (1 : Int) = .ok (cS w1) := ix_n (i := 1) rfl
 have j0 : ixR [("call" : Str), w1, w2, w3] (0 : Int) = .ok ("call" : Str) := ix_n (i := 0) rfl
 have j2 : ixR [("call" : Str), w1, w2, w3] (2 : Int) = .ok w2 := ix_n (i := 2) rfl
 have j3 : ixR [("call" : Str), w1, w2, w3] (3 : Int) = .ok w3 := ix_n (i := 3) rfl
 have fc : shaR (PyData.str ("call" : Str)) = .ok () := by kernel_rfl
 have ew := (word64 (y := w2) (by omega) f2.1).2
 have en := (numb64 (y := w3) (by omega) f3.1).2
 obtain ⟨l, el, sl, al⟩ := bad64 (p := cS w1) (lo := (y.length : Int)) (hi := (y.length : Int)) (by omega) P.el
 have em : memB (y.length : Int) [((2 : Int), (3 : Int)).1, ((2 : Int), (3 : Int)).2] = (decide ((y.length : Int) = 2) || decide ((y.length : Int) = 3)) := by
  unfold memB
  by_cases a : (y.length : Int) = 2 <;> by_cases b : (y.length : Int) = 3 <;> simp [a, b]
 unfold t__law_due_11
 rw [bind_eq h.sp, bind_eq h.pc, bind_eq j0, bind_eq fc, bind_eq fc, if_pos (show (decide (("call" : Str) = ("call" : Str)) && decide ((([("call" : Str), w1, w2, w3] : List Str).length : Int) = 4)) = true from by kernel_rfl), bind_eq i1, bind_eq (ix_head hy), bind_eq (slen62 (by omega)), em, rowsB_parts hy]
 cases hs : decide ((y.length : Int) = 2) || decide ((y.length : Int) = 3) with
 | false =>
  rw [if_pos (by rfl), R.ok_bind, if_pos rfl, Bool.false_and, Bool.and_false, Bool.false_and]
  exact ⟨fun z => (by cases z), fun _ => rfl⟩
 | true =>
  rw [if_neg (by simp), bind_eq i1, Bool.true_and]
  by_cases z9 : (cS w1).length ≤ 9
  ·rw [if_neg (by rw [decide_eq_false (by omega)]; simp), bind_eq j2, bind_eq ew, decide_eq_true z9, Bool.true_and]
   cases hw : wdB w2 with
   | false =>
    rw [if_pos (by rfl), R.ok_bind, R.ok_bind, R.ok_bind, if_pos rfl, Bool.false_and, Bool.and_false]
    exact ⟨fun z => (by cases z), fun _ => rfl⟩
   | true =>
    rw [if_neg (by simp), bind_eq j3, bind_eq en, R.ok_bind, R.ok_bind, R.ok_bind, Bool.true_and]
    cases hn : numB w3 with
    | false =>
     rw [if_pos (by rfl), Bool.and_false]
     exact ⟨fun z => (by cases z), fun _ => rfl⟩
    | true =>
     rw [if_neg (by simp), bind_eq i1, bind_eq el, bind_eq sl, bind_eq (show shaR ((dL PyData.str) ([] : List Str)) = .ok () from by kernel_rfl), al, Bool.and_true]
     cases ha : (cS w1).all (figB y.length y.length) with
     | false =>
      rw [if_pos (by rfl)]
      exact ⟨fun z => (by cases z), fun _ => rfl⟩
     | true =>
      refine ⟨fun _ k hk => ?_, fun z => (by cases z)⟩
      have et := (tuples64 (p := cS w1) (by omega) (fun y hy => by have := (P.el y hy).2; omega) ha).1
      have ews : t__law_words ([w2] : List Str) = .ok [wdT w2] := words64 (Nat.le_of_ble_eq_true rfl) fun y hy => by rw [List.mem_singleton.mp hy]; exact f2.1
      rw [if_neg (by simp), bind_eq i1, bind_eq et, bind_eq j2, bind_eq ews, bind_eq (show ixR [wdT w2] (0 : Int) = .ok (wdT w2) from ix_n (i := 0) rfl), bind_eq j3, bind_eq hk]
      rfl
  ·rw [if_pos (by rw [decide_eq_true (by omega)]), R.ok_bind, R.ok_bind, if_pos rfl, decide_eq_false z9, Bool.false_and, Bool.false_and]
   exact ⟨fun z => (by cases z), fun _ => rfl⟩
end U
set_option maxRecDepth 100000
set_option maxHeartbeats 4000000
namespace U
open PySem PySem.Spec Y
open L2 (atI ixN)
theorem nil_sha : shaR ((dL PyData.str) ([] : List Str)) = .ok () := by kernel_rfl
theorem due_beat64 {x w1 w2 : Str} (h : Wds x [("beat" : Str), w1, w2]) :
  ((numB w1 && figB 1 5000 w2) = true → ∀ k : Int, intTR w1 = .ok k → t__law_due_11 x = .ok (pBeat64 w2 k)) ∧
  ((numB w1 && figB 1 5000 w2) = false → t__law_due_11 x = .ok (dN ())) := by
 have f1 := h.el w1 (by simp)
 have f2 := h.el w2 (by simp)
 have j0 : ixR [("beat" : Str), w1, w2] (0 : Int) = .ok ("beat" : Str) := ix_n (i := 0) rfl
 have j1 : ixR [("beat" : Str), w1, w2] (1 : Int) = .ok w1 := ix_n (i := 1) rfl
 have j2 : ixR [("beat" : Str), w1, w2] (2 : Int) = .ok w2 := ix_n (i := 2) rfl
 have fb : shaR (PyData.str ("beat" : Str)) = .ok () := by kernel_rfl
 have fc : shaR (PyData.str ("call" : Str)) = .ok () := by kernel_rfl
 have en := (numb64 (y := w1) (by omega) f1.1).2
 have ef : t__law_is_of w2 ("012345678" : Str) (1 : Int) (5000 : Int) = .ok (figB 1 5000 w2) := isof64 (by omega) f2.1
 unfold t__law_due_11
 rw [bind_eq h.sp, bind_eq h.pc, bind_eq j0, bind_eq fb, bind_eq fc, if_neg (show ¬ (decide (("beat" : Str) = ("call" : Str)) && decide ((([("beat" : Str), w1, w2] : List Str).length : Int) = 4)) = true from by rw [show decide (("beat" : Str) = ("call" : Str)) = false from by kernel_rfl]; simp),
  bind_eq j0, bind_eq fb, bind_eq fb, if_pos (show (decide (("beat" : Str) = ("beat" : Str)) && decide ((([("beat" : Str), w1, w2] : List Str).length : Int) = 3)) = true from by kernel_rfl), bind_eq j1, bind_eq en]
 cases hn : numB w1 with
 | false =>
  rw [if_pos (by rfl), R.ok_bind, if_pos rfl, Bool.false_and]
  exact ⟨fun z => (by cases z), fun _ => rfl⟩
 | true =>
  rw [if_neg (by simp), bind_eq j2, bind_eq ef, R.ok_bind, Bool.true_and]
  cases hw : figB 1 5000 w2 with
  | false =>
   rw [if_pos (by rfl)]
   exact ⟨fun z => (by cases z), fun _ => rfl⟩
  | true =>
   refine ⟨fun _ k hk => ?_, fun z => (by cases z)⟩
   have et : t__law_tuples'2 ([w2] : List Str) = .ok [dgT w2] := (tuples64 (p := [w2]) (lo := 1) (hi := 5000) (Nat.le_of_ble_eq_true rfl) (fun y hy => by rw [List.mem_singleton.mp hy]; omega) (by rw [List.all_cons, hw]; rfl)).1
   rw [if_neg (by simp), bind_eq j1, bind_eq hk, bind_eq j2, bind_eq et, bind_eq (show ixR [dgT w2] (0 : Int) = .ok (dgT w2) from ix_n (i := 0) rfl)]
   rfl
theorem due_never64 {x w1 : Str} (h : Wds x [("never" : Str), w1]) :
  ((cS w1).all (figB 2 2) = true → t__law_due_11 x = .ok (pNever64 w1)) ∧ ((cS w1).all (figB 2 2) = false → t__law_due_11 x = .ok (dN ())) := by
 have f1 := h.el w1 (by simp)
 have P := pcs_of f1.1 f1.2
 have hln := P.ln
 have i1 : ixR ([("never" : Str), w1].map cS) (1 : Int) = .ok (cS w1) := ix_n (i := 1) rfl
 have j0 : ixR [("never" : Str), w1] (0 : Int) = .ok ("never" : Str) := ix_n (i := 0) rfl
 have fb : shaR (PyData.str ("beat" : Str)) = .ok () := by kernel_rfl
 have fc : shaR (PyData.str ("call" : Str)) = .ok () := by kernel_rfl
 have fn : shaR (PyData.str ("never" : Str)) = .ok () := by kernel_rfl
 have fs : shaR (PyData.str ("stable" : Str)) = .ok () := by kernel_rfl
 have f2 : shaR (dL PyData.str [(("never" : Str), ("stable" : Str)).1, (("never" : Str), ("stable" : Str)).2]) = .ok () := by kernel_rfl
 obtain ⟨l, el, sl, al⟩ := bad64 (p := cS w1) (lo := 2) (hi := 2) (by omega) P.el
 unfold t__law_due_11
 rw [bind_eq h.sp, bind_eq h.pc, bind_eq j0, bind_eq fn, bind_eq fc, if_neg (show ¬ (decide (("never" : Str) = ("call" : Str)) && decide ((([("never" : Str), w1] : List Str).length : Int) = 4)) = true from by rw [show decide (("never" : Str) = ("call" : Str)) = false from by kernel_rfl]; simp),
  bind_eq j0, bind_eq fn, bind_eq fb, if_neg (show ¬ (decide (("never" : Str) = ("beat" : Str)) && decide ((([("never" : Str), w1] : List Str).length : Int) = 3)) = true from by rw [show decide (("never" : Str) = ("beat" : Str)) = false from by kernel_rfl]; simp),
  bind_eq j0, bind_eq fn, bind_eq f2, if_neg (show ¬ (!(memB ("never" : Str) [(("never" : Str), ("stable" : Str)).1, (("never" : Str), ("stable" : Str)).2])) = true from by rw [show memB ("never" : Str) [(("never" : Str), ("stable" : Str)).1, (("never" : Str), ("stable" : Str)).2] = true from by kernel_rfl]; simp),
  bind_eq j0, bind_eq fn, bind_eq fs, bind_eq (show ixR ([(2 : Int), (3 : Int)] : (List Int)) (bI (decide (("never" : Str) = ("stable" : Str)))) = .ok 2 from by kernel_rfl), R.ok_bind,
  if_neg (show ¬ (!(decide ((([("never" : Str), w1] : List Str).length : Int) = 2))) = true from by simp), bind_eq i1, bind_eq el, bind_eq sl, bind_eq nil_sha, al]
 cases ha : (cS w1).all (figB 2 2) with
 | false =>
  rw [if_pos (by rfl)]
  exact ⟨fun z => (by cases z), fun _ => rfl⟩
 | true =>
  have et := (tuples64 (p := cS w1) (by omega) (fun y hy => by have := (P.el y hy).2; omega) ha).1
  rw [if_neg (by simp), bind_eq j0, bind_eq fn, bind_eq fn, if_pos (by kernel_rfl), bind_eq i1, bind_eq et]
  exact ⟨fun _ => rfl, fun z => (by cases z)⟩
end U
set_option maxRecDepth 100000
set_option maxHeartbeats 4000000
namespace U
open PySem PySem.Spec Y
open L2 (atI ixN)
def pStable64 (w1 w2 : Str) : PyData := (dQ PyData.str (dT (dT PyData.int)) (dT PyData.str)) (("stable" : Str), (cS w1).map dgT, (cS w2).map wdT)
theorem words_in64 {w : Str} {p : List Str} (h : Pcs w p) (ha : p.all wdB = true) : t_words_in w = .ok (p.map wdT) := by
 have ln := h.ln
 unfold t_words_in
 rw [bind_eq h.sp, bind_id]
 refine lcR_eq wdT (by omega) fun y hy => ?_
 have fy := h.el y hy
 rw [bind_id]
 exact ((word_in64 (y := y) (by omega) fy.1).1 (List.all_eq_true.mp ha y hy)).2
theorem stable64 {w1 w2 : Str} (h1 : Fit w1 ∧ w1.length ≤ 40000) (h2 : Fit w2 ∧ w2.length ≤ 40000)
  (hW : ((cS w2).all wdB = true → x_words_in w2 = .fail) ∧ ((cS w2).all wdB = false → x_words_in w2 = .ok "NoText")) :
  (((cS w1).all (figB 2 2) && (cS w2).all wdB) = true → x_paper_by [("stable" : Str), w1, w2] = .fail ∧ t_paper_by [("stable" : Str), w1, w2] = .ok (pStable64 w1 w2)) ∧
  (((cS w1).all (figB 2 2) && (cS w2).all wdB) = false → x_paper_by [("stable" : Str), w1, w2] = .ok "NoText") := by
 have ex : x_paper_by [("stable" : Str), w1, w2] = orX (x_pairs_in w1) (orX ((t_pairs_in w1).bind fun v26 => x_words_in w2) R.fail) := by kernel_rfl
 have et : t_paper_by [("stable" : Str), w1, w2] = (t_pairs_in w1).bind fun v25 => (t_words_in w2).bind fun v27 => R.ok ((dQ PyData.str (dT (dT PyData.int)) (dT PyData.str)) (("stable" : Str), v25, v27)) := by kernel_rfl
 obtain ⟨a1, a2⟩ := pairs_in64 (pcs_of h1.1 h1.2)
 rw [ex, et]
 cases zp : (cS w1).all (figB 2 2) with
 | false =>
  refine ⟨fun z => (by cases z), fun _ => ?_⟩
  rw [a2 zp]
  rfl
 | true =>
  obtain ⟨b1, b2⟩ := a1 zp
  rw [b1, or_fl, b2]
  cases zw : (cS w2).all wdB with
  | false =>
   refine ⟨fun z => (by cases z), fun _ => ?_⟩
   show orX (x_words_in w2) _ = _
   rw [hW.2 zw]
   rfl
  | true =>
   refine ⟨fun _ => ⟨?_, ?_⟩, fun z => (by cases z)⟩
   ·show orX (x_words_in w2) _ = _
    rw [hW.1 zw]
    rfl
   ·rw [R.ok_bind, words_in64 (pcs_of h2.1 h2.2) zw]
    rfl
theorem badw64 {p : List Str} (hp : p.length ≤ 16777216) (hl : ∀ y ∈ p, Fit y ∧ y.length ≤ 40000) : ∃ l, (lcF p fun (x4 : Str) => (t__law_is_word_2 x4).bind fun v62 => if (!v62) = true then (R.ok (some x4)) else R.ok none) = .ok l ∧ shaR ((dL PyData.str) l) = .ok () ∧ decide (l = []) = p.all wdB := by
 refine ⟨p.filterMap fun x => if (!wdB x) = true then some x else none, lcF_eq _ hp fun y hy => ?_, ?_, filt_none⟩
 ·have := hl y hy
  rw [bind_eq (word64 (y := y) (by omega) this.1).2]
  split <;> rfl
 ·unfold shaR
  rw [if_pos (sha_strs fun z hz => ?_)]
  obtain ⟨c, hc, e⟩ := List.mem_filterMap.mp hz
  split at e
  ·cases e
   exact (hl _ hc).1
  ·cases e
theorem due_stable64 {x w1 w2 : Str} (h : Wds x [("stable" : Str), w1, w2]) :
  (((cS w1).all (figB 2 2) && (cS w2).all wdB) = true → t__law_due_11 x = .ok (pStable64 w1 w2)) ∧ (((cS w1).all (figB 2 2) && (cS w2).all wdB) = false → t__law_due_11 x = .ok (dN ())) := by
 have f1 := h.el w1 (by simp)
 have f2' := h.el w2 (by simp)
 have P := pcs_of f1.1 f1.2
 have P2 := pcs_of f2'.1 f2'.2
 have hln := P.ln
 have hln2 := P2.ln
 have i1 : ixR ([("stable" : Str), w1, w2].map cS) (1 : Int) = .ok (cS w1) := ix_n (i := 1) rfl
 have i2 : ixR ([("stable" : Str), w1, w2].map cS) (2 : Int) = .ok (cS w2) := ix_n (i := 2) rfl
 have j0 : ixR [("stable" : Str), w1, w2] (0 : Int) = .ok ("stable" : Str) := ix_n (i := 0) rfl
 have fb : shaR (PyData.str ("beat" : Str)) = .ok () := by kernel_rfl
 have fc : shaR (PyData.str ("call" : Str)) = .ok () := by kernel_rfl
 have fn : shaR (PyData.str ("never" : Str)) = .ok () := by kernel_rfl
 have fs : shaR (PyData.str ("stable" : Str)) = .ok () := by kernel_rfl
 have f2 : shaR (dL PyData.str [(("never" : Str), ("stable" : Str)).1, (("never" : Str), ("stable" : Str)).2]) = .ok () := by kernel_rfl
 obtain ⟨l, el, sl, al⟩ := bad64 (p := cS w1) (lo := 2) (hi := 2) (by omega) P.el
 obtain ⟨m, em, sm, am⟩ := badw64 (p := cS w2) (by omega) P2.el
 unfold t__law_due_11
 rw [bind_eq h.sp, bind_eq h.pc, bind_eq j0, bind_eq fs, bind_eq fc, if_neg (show ¬ (decide (("stable" : Str) = ("call" : Str)) && decide ((([("stable" : Str), w1, w2] : List Str).length : Int) = 4)) = true from by rw [show decide (("stable" : Str) = ("call" : Str)) = false from by kernel_rfl]; simp),
  bind_eq j0, bind_eq fs, bind_eq fb, if_neg (show ¬ (decide (("stable" : Str) = ("beat" : Str)) && decide ((([("stable" : Str), w1, w2] : List Str).length : Int) = 3)) = true from by rw [show decide (("stable" : Str) = ("beat" : Str)) = false from by kernel_rfl]; simp),
  bind_eq j0, bind_eq fs, bind_eq f2, if_neg (show ¬ (!(memB ("stable" : Str) [(("never" : Str), ("stable" : Str)).1, (("never" : Str), ("stable" : Str)).2])) = true from by rw [show memB ("stable" : Str) [(("never" : Str), ("stable" : Str)).1, (("never" : Str), ("stable" : Str)).2] = true from by kernel_rfl]; simp),
  bind_eq j0, bind_eq fs, bind_eq fs, bind_eq (show ixR ([(2 : Int), (3 : Int)] : (List Int)) (bI (decide (("stable" : Str) = ("stable" : Str)))) = .ok 3 from by kernel_rfl), R.ok_bind,
  if_neg (show ¬ (!(decide ((([("stable" : Str), w1, w2] : List Str).length : Int) = 3))) = true from by simp), bind_eq i1, bind_eq el, bind_eq sl, bind_eq nil_sha, al]
 cases ha : (cS w1).all (figB 2 2) with
 | false =>
  rw [if_pos (by rfl)]
  exact ⟨fun z => (by cases z), fun _ => rfl⟩
 | true =>
  have et := (tuples64 (p := cS w1) (by omega) (fun y hy => by have := (P.el y hy).2; omega) ha).1
  have ew : t__law_words'2 (cS w2) = .ok ((cS w2).map wdT) := words64 (by omega) fun y hy => (P2.el y hy).1
  rw [if_neg (by simp), bind_eq j0, bind_eq fs, bind_eq fn, if_neg (show ¬ decide (("stable" : Str) = ("never" : Str)) = true from by rw [show decide (("stable" : Str) = ("never" : Str)) = false from by kernel_rfl]; simp), bind_eq i2, bind_eq em, bind_eq sm, bind_eq nil_sha, am]
  cases hw : (cS w2).all wdB with
  | false =>
   rw [if_pos (by rfl)]
   exact ⟨fun z => (by cases z), fun _ => rfl⟩
  | true =>
   rw [if_neg (by simp), bind_eq i1, bind_eq et, bind_eq i2, bind_eq ew]
   exact ⟨fun _ => rfl, fun z => (by cases z)⟩
end U
set_option maxRecDepth 100000
set_option maxHeartbeats 4000000
namespace U
open PySem PySem.Spec Y
open L2 (atI ixN)
theorem other64 {x : Str} {ws : List Str} (h : Wds x ws) {w0 : Str} (h0 : ws.head? = some w0)
  (a : ¬ (w0 = ("call" : Str) ∧ ws.length = 4)) (b : ¬ (w0 = ("beat" : Str) ∧ ws.length = 3)) (n : ¬ (w0 = ("never" : Str) ∧ ws.length = 2)) (s : ¬ (w0 = ("stable" : Str) ∧ ws.length = 3)) :
  t__law_due_11 x = .ok (dN ()) ∧ x_paper_by ws = .ok "NoText" := by
 have hm : w0 ∈ ws := List.mem_of_mem_head? (by rw [h0]; rfl)
 have f0 := shaR_of (h.el w0 hm).1
 have j0 := ix_head h0
 have fb : shaR (PyData.str ("beat" : Str)) = .ok () := by kernel_rfl
 have fc : shaR (PyData.str ("call" : Str)) = .ok () := by kernel_rfl
 have fn : shaR (PyData.str ("never" : Str)) = .ok () := by kernel_rfl
 have fs : shaR (PyData.str ("stable" : Str)) = .ok () := by kernel_rfl
 have f2 : shaR (dL PyData.str [(("never" : Str), ("stable" : Str)).1, (("never" : Str), ("stable" : Str)).2]) = .ok () := by kernel_rfl
 have neg : ∀ (t : Str) (k : Nat), ¬ (w0 = t ∧ ws.length = k) → ¬ (decide (w0 = t) && decide ((ws.length : Int) = (k : Int))) = true := fun t k hk z => by
  simp only [Bool.and_eq_true, decide_eq_true_eq] at z
  exact hk ⟨z.1, by omega⟩
 have na : ¬ (decide (w0 = ("call" : Str)) && decide ((ws.length : Int) = (4 : Int))) = true := neg _ 4 a
 have nb : ¬ (decide (w0 = ("beat" : Str)) && decide ((ws.length : Int) = (3 : Int))) = true := neg _ 3 b
 have nn : ¬ (decide (w0 = ("never" : Str)) && decide ((ws.length : Int) = (2 : Int))) = true := neg _ 2 n
 have ns : ¬ (decide (w0 = ("stable" : Str)) && decide ((ws.length : Int) = (3 : Int))) = true := neg _ 3 s
 refine ⟨?_, ?_⟩
 ·unfold t__law_due_11
  rw [bind_eq h.sp, bind_eq h.pc, bind_eq j0, bind_eq f0, bind_eq fc, if_neg na, bind_eq j0, bind_eq f0, bind_eq fb, if_neg nb, bind_eq j0, bind_eq f0, bind_eq f2]
  have em : memB w0 [(("never" : Str), ("stable" : Str)).1, (("never" : Str), ("stable" : Str)).2] = (decide (w0 = ("never" : Str)) || decide (w0 = ("stable" : Str))) := by
   unfold memB
   by_cases p : w0 = ("never" : Str) <;> by_cases q : w0 = ("stable" : Str) <;> simp [p, q]
  rw [em]
  by_cases p : w0 = ("never" : Str)
  ·have hl : ws.length ≠ 2 := fun e => n ⟨p, e⟩
   subst p
   rw [if_neg (by rw [decide_eq_true rfl]; simp), bind_eq j0, bind_eq f0, bind_eq fs, bind_eq (show ixR ([(2 : Int), (3 : Int)] : (List Int)) (bI (decide (("never" : Str) = ("stable" : Str)))) = .ok 2 from by kernel_rfl), R.ok_bind, if_pos (by rw [decide_eq_false (show ¬ (ws.length : Int) = 2 by omega)]; rfl)]
  ·by_cases q : w0 = ("stable" : Str)
   ·have hl : ws.length ≠ 3 := fun e => s ⟨q, e⟩
    subst q
    rw [if_neg (by rw [decide_eq_true (rfl : ("stable" : Str) = "stable")]; simp), bind_eq j0, bind_eq f0, bind_eq fs, bind_eq (show ixR ([(2 : Int), (3 : Int)] : (List Int)) (bI (decide (("stable" : Str) = ("stable" : Str)))) = .ok 3 from by kernel_rfl), R.ok_bind, if_pos (by rw [decide_eq_false (show ¬ (ws.length : Int) = 3 by omega)]; rfl)]
   ·rw [if_pos (by rw [decide_eq_false p, decide_eq_false q]; rfl), R.ok_bind, if_pos rfl]
 ·unfold x_paper_by
  rw [bind_eq j0, bind_eq f0, bind_eq fc, if_neg na, bind_eq j0, bind_eq f0, bind_eq fb, if_neg nb, bind_eq j0, bind_eq f0, bind_eq fn, if_neg nn, bind_eq j0, bind_eq f0, bind_eq fs, if_neg ns]
def WIn : Prop := ∀ w : Str, Fit w → w.length ≤ 40000 → ((cS w).all wdB = true → x_words_in w = .fail) ∧ ((cS w).all wdB = false → x_words_in w = .ok "NoText")
def One64 (x : Str) : Prop := (t__law_due_11 x = .ok (dN ()) ∧ x_read_paper x = .ok "NoText") ∨ ∃ d, t__law_due_11 x = .ok d ∧ x_read_paper x = .fail ∧ t_read_paper x = .ok d ∧ Lay 60 d ∧ op2B gNotN ((sF dA) d) ((sF dN) ()) = .ok true
theorem read64 {x : Str} {ws : List Str} (h : Wds x ws) : x_read_paper x = orX (x_paper_by ws) R.fail ∧ t_read_paper x = t_paper_by ws := by
 unfold x_read_paper t_read_paper
 rw [if_neg (by simp), bind_eq h.sp, bind_eq h.sp, bind_id]
 exact ⟨rfl, rfl⟩
theorem lay_strs {l : List Str} (h : ∀ y ∈ l, Fit y) : Lay 1 (dT PyData.str l) := lay_tup fun x hx => by
 obtain ⟨y, hy, rfl⟩ := List.mem_map.mp hx
 exact lay_str (h y hy)
theorem wdT_fit {y : Str} (h : Fit y) : Fit (wdT y) := by
 unfold wdT
 split
 ·unfold Fit; decide +kernel
 ·exact h
theorem one64 (hW : WIn) {x : Str} (hf : Fit x) (hl : x.length ≤ 40000) : One64 x := by
 have h := wds_of hf hl
 generalize PySem.Txt.split x ⟨#[32]⟩ = ws at h
 obtain ⟨r1, r2⟩ := read64 h
 obtain ⟨w0, h0⟩ : ∃ w, ws.head? = some w := by
  cases q : ws with
  | nil => exact absurd q h.ne
  | cons a r => exact ⟨a, rfl⟩
 unfold One64
 rw [r1, r2]
 by_cases a : w0 = ("call" : Str) ∧ ws.length = 4
 ·obtain ⟨a1, a2⟩ := a
  subst a1
  match ws, h, h0, a2 with
  | [v0, w1, w2, w3], h, h0, _ =>
   cases h0
   have f1 := h.el w1 (by simp)
   have f2 := h.el w2 (by simp)
   have f3 := h.el w3 (by simp)
   obtain ⟨c1, c2⟩ := call64 f1 f2 f3
   obtain ⟨d1, d2⟩ := due_call64 h
   by_cases z : (rowsB (cS w1) && (wdB w2 && numB w3)) = true
   ·obtain ⟨k, e1, e2, e3⟩ := c1 z
    rw [e1, e2]
    refine .inr ⟨_, d1 z k e3, rfl, rfl, ?_, by kernel_rfl⟩
    refine lay_up (k := 3) (lay_tup fun y hy => ?_) (by decide)
    simp only [dA, List.map_cons, List.map_nil, List.mem_cons, List.not_mem_nil, or_false] at hy
    rcases hy with rfl | rfl | rfl | rfl
    ·exact lay_up (lay_str (by unfold Fit; decide +kernel)) (by decide)
    ·exact lay_rows
    ·exact lay_up (lay_str (wdT_fit f2.1)) (by decide)
    ·exact lay_up lay_int (by decide)
   ·have z := Bool.eq_false_iff.mpr z
    rw [c2 z]
    exact .inl ⟨d2 z, rfl⟩
 by_cases b : w0 = ("beat" : Str) ∧ ws.length = 3
 ·obtain ⟨a1, a2⟩ := b
  subst a1
  match ws, h, h0, a2 with
  | [v0, w1, w2], h, h0, _ =>
   cases h0
   have f1 := h.el w1 (by simp)
   have f2 := h.el w2 (by simp)
   obtain ⟨c1, c2⟩ := beat64 f1 f2
   obtain ⟨d1, d2⟩ := due_beat64 h
   by_cases z : (numB w1 && figB 1 5000 w2) = true
   ·obtain ⟨k, e1, e2, e3⟩ := c1 z
    rw [e1, e2]
    refine .inr ⟨_, d1 z k e3, rfl, rfl, ?_, by kernel_rfl⟩
    refine lay_up (k := 3) (lay_tup fun y hy => ?_) (by decide)
    simp only [List.mem_cons, List.not_mem_nil, or_false] at hy
    rcases hy with rfl | rfl | rfl
    ·exact lay_up (lay_str (by unfold Fit; decide +kernel)) (by decide)
    ·exact lay_up lay_int (by decide)
    ·exact lay_up lay_ints (by decide)
   ·have z := Bool.eq_false_iff.mpr z
    rw [c2 z]
    exact .inl ⟨d2 z, rfl⟩
 by_cases n : w0 = ("never" : Str) ∧ ws.length = 2
 ·obtain ⟨a1, a2⟩ := n
  subst a1
  match ws, h, h0, a2 with
  | [v0, w1], h, h0, _ =>
   cases h0
   have f1 := h.el w1 (by simp)
   obtain ⟨c1, c2⟩ := never64 f1
   obtain ⟨d1, d2⟩ := due_never64 h
   by_cases z : (cS w1).all (figB 2 2) = true
   ·obtain ⟨e1, e2⟩ := c1 z
    rw [e1, e2]
    refine .inr ⟨_, d1 z, rfl, rfl, ?_, by kernel_rfl⟩
    refine lay_up (k := 3) (lay_tup fun y hy => ?_) (by decide)
    simp only [List.mem_cons, List.not_mem_nil, or_false] at hy
    rcases hy with rfl | rfl
    ·exact lay_up (lay_str (by unfold Fit; decide +kernel)) (by decide)
    ·exact lay_rows
   ·have z := Bool.eq_false_iff.mpr z
    rw [c2 z]
    exact .inl ⟨d2 z, rfl⟩
 by_cases s : w0 = ("stable" : Str) ∧ ws.length = 3
 ·obtain ⟨a1, a2⟩ := s
  subst a1
  match ws, h, h0, a2 with
  | [v0, w1, w2], h, h0, _ =>
   cases h0
   have f1 := h.el w1 (by simp)
   have f2 := h.el w2 (by simp)
   obtain ⟨c1, c2⟩ := stable64 f1 f2 (hW w2 f2.1 f2.2)
   obtain ⟨d1, d2⟩ := due_stable64 h
   by_cases z : ((cS w1).all (figB 2 2) && (cS w2).all wdB) = true
   ·obtain ⟨e1, e2⟩ := c1 z
    rw [e1, e2]
    refine .inr ⟨_, d1 z, rfl, rfl, ?_, by kernel_rfl⟩
    refine lay_up (k := 3) (lay_tup fun y hy => ?_) (by decide)
    simp only [List.mem_cons, List.not_mem_nil, or_false] at hy
    rcases hy with rfl | rfl | rfl
    ·exact lay_up (lay_str (by unfold Fit; decide +kernel)) (by decide)
    ·exact lay_rows
    ·exact lay_up (lay_strs fun y hy => by
      obtain ⟨v, hv, rfl⟩ := List.mem_map.mp hy
      exact wdT_fit ((pcs_of f2.1 f2.2).el v hv).1) (by decide)
   ·have z := Bool.eq_false_iff.mpr z
    rw [c2 z]
    exact .inl ⟨d2 z, rfl⟩
 obtain ⟨o1, o2⟩ := other64 h h0 a b n s
 rw [o2]
 exact .inl ⟨o1, rfl⟩
end U
set_option maxRecDepth 100000
set_option maxHeartbeats 4000000
namespace U
open PySem PySem.Spec Y
open L2 (atI ixN)
theorem take_huge {b : List Int} {many : Int} (hb : IsBag b) (h1 : 1 ≤ many) (h2 : many ≤ 1000000000000000000000000000000000000000000000000000000000000) : (t__law_take b many).sat (TakeP many) := by
 obtain ⟨c, m, rfl, h3, h4, h5⟩ := hb
 unfold t__law_take
 rw [bind_eq ix0]
 have pm : many.natAbs < 2 ^ 4000 := by
  have : many.natAbs < 2 ^ 256 := by
   have : (2 : Nat) ^ 256 = 115792089237316195423570985008687907853269984665640564039457584007913129639936 := by decide
   rw [this]; omega
  exact Nat.lt_of_lt_of_le this (Nat.pow_le_pow_right (by decide) (by decide))
 refine sat_ite (fun hc => ?_) (fun hc => ?_)
 ·rw [bind_eq ix0, bind_eq (modR_eq (by omega)), bind_eq ix0, bind_eq (fdivR_big (by omega) pm), bind_eq set0]
  exact sat_ok ⟨Int.emod_nonneg _ (by omega), Int.emod_lt_of_pos _ (by omega), _, _, rfl, Int.ediv_nonneg h3 (by omega), h4, h5⟩
 ·refine sat_bind (P := fun s => 0 ≤ s.1 ∧ ∃ m', s.2.2 = [c, m'] ∧ 0 ≤ m' ∧ m' < 2147483648) ?_ ?_
  ·have key : ∀ (k : Nat) (f : Nat) (s1 s2 m : Int), 0 ≤ s1 → s1 < s2 → 0 ≤ m ∧ m < 2147483648 → (k ≤ 7 ∧ s2 * 1073741789 ^ k = 1073741789 ^ 7) → (whileR (t__law_take_L1_c many) (t__law_take_L1 many) (f + k + 1) (s1, s2, [c, m])).sat fun s => 0 ≤ s.1 ∧ ∃ m', s.2.2 = [c, m'] ∧ 0 ≤ m' ∧ m' < 2147483648 := by
    intro k
    induction k with
    | zero =>
     intro f s1 s2 m a1 a2 a3 a4
     have e : s2 = 1073741789 ^ 7 := by have := a4.2; rw [Int.pow_zero, Int.mul_one] at this; exact this
     have e4 : (1073741789 : Int) ^ 7 = 1645504181859835245957099072884113268910989955632293793125121429 := by decide
     rw [e4] at e
     rw [Nat.add_zero, whileR_step, show t__law_take_L1_c many (s1, s2, [c, m]) = .ok (decide (s2 < many)) from rfl, R.ok_bind, if_neg (by rw [decide_eq_false (by omega)]; simp)]
     exact sat_ok ⟨a1, m, rfl, a3⟩
    | succ k ih =>
     intro f s1 s2 m a1 a2 a3 a4
     rw [show f + (k + 1) + 1 = (f + k + 1) + 1 by omega, whileR_step, show t__law_take_L1_c many (s1, s2, [c, m]) = .ok (decide (s2 < many)) from rfl, R.ok_bind]
     refine sat_ite (fun hm => ?_) (fun hm => sat_ok ⟨a1, m, rfl, a3⟩)
     have hm := of_decide_eq_true hm
     refine sat_bind (take_more a3 a1 a2 (by omega)) ?_
     rintro ⟨t1, t2, t3⟩ ⟨q1, q2, q3, m', q4, q5⟩
     dsimp only at q1 q2 q3 q4
     subst q4
     refine ih f t1 t2 m' q1 q2 q5 ⟨by omega, ?_⟩
     rw [q3, Int.mul_assoc, ← a4.2]
     congr 1
     rw [Int.pow_succ, Int.mul_comm]
   exact key 7 999992 0 1 m (by omega) (by omega) ⟨h4, h5⟩ ⟨by omega, by rw [Int.one_mul]⟩
  ·rintro ⟨s1, s2, s3⟩ ⟨q1, m', q3, q4, q5⟩
   dsimp only at q1 q3 ⊢
   subst q3
   rw [bind_eq (modR_eq (by omega))]
   exact sat_ok ⟨Int.emod_nonneg _ (by omega), Int.emod_lt_of_pos _ (by omega), _, _, rfl, h3, q4, q5⟩
theorem scat_fit {a b : Str} (ha : Fit a) (hb : Fit b) (h : a.length + b.length ≤ 16777216) : scatR a b = .ok (a ++ b) ∧ Fit (a ++ b) ∧ (a ++ b).length = a.length + b.length := ⟨scat63 h, fit_app ha hb, app_len⟩
theorem six_fit {t : Str} {i : Int} (hf : Fit t) (hl : t.length ≤ 1000) (h0 : 0 ≤ i) (h1 : i < t.length) : ∃ c, sixR t i = .ok c ∧ Fit c ∧ c.length = 1 := by
 have hc : (chars t).length = t.length := chars_len
 refine ⟨(chars t)[i.toNat]'(by omega), ?_, chars_fit hf _ (List.getElem_mem _), ?_⟩
 ·unfold sixR
  rw [if_pos (by rw [sizeLine_eq]; omega)]
  exact ixR_pos h0 (by omega)
 ·unfold chars
  rw [List.getElem_map]
  rfl
theorem fit_nil64 : Fit ("" : Str) := by unfold Fit; decide +kernel
theorem fit_dash64 : Fit ("-" : Str) := by unfold Fit; decide +kernel
def Drawn64 (lo hi : Nat) (r : Str × List Int) : Prop := Fit r.1 ∧ lo ≤ r.1.length ∧ r.1.length ≤ hi ∧ IsBag r.2
theorem figures64 {b : List Int} (hb : IsBag b) {many most : Int} (h1 : 0 ≤ many) (h2 : many ≤ 20) (m1 : 1 ≤ most) (m2 : most ≤ 10) : (t__law_figures b many most).sat (Drawn64 many.toNat many.toNat) := by
 unfold t__law_figures
 rw [bind_eq (rngR_eq (by omega) (by omega))]
 refine sat_bind (P := fun r => Drawn64 many.toNat many.toNat r) ?_ fun r hr => sat_ok hr
 have key := sat_forR (body := t__law_figures_L1 many most) (iota many.toNat) (fun i s => Fit s.1 ∧ s.1.length = i ∧ IsBag s.2) (fun i s x hx hs => by
  obtain ⟨f, l, hb'⟩ := hs
  have hi : i < many.toNat := by
   have := (List.getElem?_eq_some_iff.mp hx).1
   rwa [iota_len] at this
  obtain ⟨⟨d, b1⟩, et, d0, d1, hb1⟩ := take_ok hb' (many := most) m1 (by omega)
  dsimp only at d0 d1 hb1
  obtain ⟨c, ec, fc, lc⟩ := six_fit (t := ("0123456789" : Str)) (i := d) (by unfold Fit; decide +kernel) (by decide +kernel) d0 (by have : ("0123456789" : Str).length = 10 := rfl; omega)
  obtain ⟨e1, e2, e3⟩ := scat_fit f fc (by omega)
  unfold t__law_figures_L1
  rw [bind_eq et]
  dsimp only
  rw [bind_eq ec, bind_eq e1]
  exact sat_ok ⟨e2, by rw [e3, l, lc], hb1⟩) (("" : Str), b) ⟨fit_nil64, rfl, hb⟩
 rw [iota_len] at key
 obtain ⟨r, er, f, l, hb'⟩ := key
 exact ⟨r, er, f, by omega, by omega, hb'⟩
theorem said64 {b : List Int} (hb : IsBag b) : (t__law_said b).sat (Drawn64 1 2001) := by
 unfold t__law_said
 obtain ⟨⟨d, b1⟩, et, d0, d1, hb1⟩ := take_ok hb (many := (6 : Int)) (by omega) (by omega)
 dsimp only at d0 d1 hb1
 rw [bind_eq et]
 dsimp only
 rw [bind_eq (rngR_eq (by omega) (by omega))]
 refine sat_bind (P := fun s => Fit s.1 ∧ s.1.length ≤ 5 ∧ IsBag s.2) ?_ ?_
 ·have key := sat_forR (body := t__law_said_L1) (iota d.toNat) (fun i s => Fit s.1 ∧ s.1.length = i ∧ IsBag s.2) (fun i s x hx hs => by
   obtain ⟨f, l, hb'⟩ := hs
   have hi : i < d.toNat := by
    have := (List.getElem?_eq_some_iff.mp hx).1
    rwa [iota_len] at this
   obtain ⟨⟨e, b2⟩, et, e0, e1, hb2⟩ := take_ok hb' (many := 3) (by omega) (by omega)
   dsimp only at e0 e1 hb2
   obtain ⟨c, ec, fc, lc⟩ := six_fit (t := ("abc" : Str)) (i := e) (by unfold Fit; decide +kernel) (by decide +kernel) e0 (by have : ("abc" : Str).length = 3 := rfl; omega)
   obtain ⟨q1, q2, q3⟩ := scat_fit f fc (by omega)
   unfold t__law_said_L1
   rw [bind_eq et]
   dsimp only
   rw [bind_eq ec, bind_eq q1]
   exact sat_ok ⟨q2, by rw [q3, l, lc], hb2⟩) (("" : Str), b1) ⟨fit_nil64, rfl, hb1⟩
  rw [iota_len] at key
  obtain ⟨r, er, f, l, hb'⟩ := key
  exact ⟨r, er, f, by omega, hb'⟩
 ·rintro ⟨w, b2⟩ ⟨f, l, hb2⟩
  dsimp only at f l hb2 ⊢
  obtain ⟨⟨e, b3⟩, et3, e0, e1, hb3⟩ := take_ok hb2 (many := 32) (by omega) (by omega)
  dsimp only at e0 e1 hb3
  rw [bind_eq et3]
  dsimp only
  have fin : ∀ (w : Str) (b : List Int), Fit w → w.length ≤ 2001 → IsBag b → ((shaR (PyData.str w)).bind fun v10 => (shaR (PyData.str ("" : Str))).bind fun v11 => (if (!(decide (w = ("" : Str)))) = true then (R.ok w) else (R.ok ("-" : Str))).bind fun v12 => R.ok (v12, b)).sat (Drawn64 1 2001) := fun w b fw lw hb => by
   rw [bind_eq (shaR_of fw), bind_eq (show shaR (PyData.str ("" : Str)) = .ok () from by kernel_rfl)]
   by_cases z : w = ("" : Str)
   ·rw [if_neg (by rw [decide_eq_true z]; simp), R.ok_bind]
    exact sat_ok ⟨fit_dash64, Nat.le_of_ble_eq_true rfl, Nat.le_of_ble_eq_true rfl, hb⟩
   ·rw [if_pos (by rw [decide_eq_false z]; rfl), R.ok_bind]
    refine sat_ok ⟨fw, ?_, lw, hb⟩
    show 1 ≤ w.length
    rcases Nat.lt_or_ge 0 w.length with q | q
    ·exact q
    ·refine absurd (str_ext ?_) z
     have : w.cps.toList.length = 0 := by rw [← str_len]; omega
     rw [List.length_eq_zero_iff.mp this]
     rfl
  by_cases z : e = 3
  ·obtain ⟨⟨g, b4⟩, et4, g0, g1, hb4⟩ := take_ok hb3 (many := 3) (by omega) (by omega)
   dsimp only at g0 g1 hb4
   have er : srepR ("b" : Str) ((1999 : Int) + g) = .ok (mkW (List.replicate (1999 + g.toNat) 1)) := by
    rcases (show g = 0 ∨ g = 1 ∨ g = 2 by omega) with rfl | rfl | rfl <;> kernel_rfl
   rw [if_pos (decide_eq_true z), bind_eq et4]
   dsimp only
   rw [bind_eq er, R.ok_bind]
   exact fin _ _ (fit_mkW fun x hx => by rw [List.eq_of_mem_replicate hx]; omega) (by rw [mkW_len, List.length_replicate]; omega) hb4
  ·rw [if_neg (by rw [decide_eq_false z]; simp), R.ok_bind]
   exact fin _ _ f (by show w.length ≤ 2001; omega) hb3
theorem pow60_64 : powR (10 : Int) (60 : Int) = .ok 1000000000000000000000000000000000000000000000000000000000000 := by kernel_rfl
theorem number64 {b : List Int} (hb : IsBag b) : (t__law_number_2 b).sat (Drawn64 1 60) := by
 obtain ⟨⟨d1, b1⟩, e1, p1, q1, hb1⟩ := take_ok hb (many := (10 : Int)) (by omega) (by omega)
 obtain ⟨⟨d2, b2⟩, e2, p2, q2, hb2⟩ := take_huge hb1 (many := 1000000000000000000000000000000000000000000000000000000000000) (by omega) (by omega)
 obtain ⟨⟨d3, b3⟩, e3, p3, q3, hb3⟩ := take_ok hb2 (many := (9 : Int)) (by omega) (by omega)
 obtain ⟨⟨d4, b4⟩, e4, p4, q4, hb4⟩ := take_ok hb3 (many := (4 : Int)) (by omega) (by omega)
 dsimp only at p1 q1 hb1 p2 q2 hb2 p3 q3 hb3 p4 q4 hb4
 unfold t__law_number_2
 rw [bind_eq e1]
 dsimp only
 rw [bind_eq pow60_64, bind_eq e2]
 dsimp only
 rw [bind_eq e3]
 dsimp only
 rw [bind_eq e4]
 dsimp only
 have big : (10 : Nat) ^ 60 = 1000000000000000000000000000000000000000000000000000000000000 := by decide +kernel
 have fin : ∀ v : Int, 0 ≤ v → v < 1000000000000000000000000000000000000000000000000000000000000 → ((strIR v).bind fun v7 => R.ok (v7, b4)).sat (Drawn64 1 60) := fun v v0 v1 => by
  obtain ⟨n, rfl⟩ : ∃ n : Nat, v = n := ⟨v.toNat, by omega⟩
  have hn : n < 10 ^ 60 := by rw [big]; omega
  have hl := nT_len (n := n) (k := 60) (by decide) hn
  rw [bind_eq (str_num (Nat.lt_of_lt_of_le hn (Nat.pow_le_pow_right (by decide) (by decide))))]
  exact sat_ok ⟨nT_fit, hl.1, hl.2, hb4⟩
 rcases (show d4 = 0 ∨ d4 = 1 ∨ d4 = 2 ∨ d4 = 3 by omega) with rfl | rfl | rfl | rfl
 ·rw [bind_eq (show ixR ([d1, d2, (0 : Int), d3] : List Int) 0 = .ok d1 from rfl)]
  exact fin _ p1 (by omega)
 ·rw [bind_eq (show ixR ([d1, d2, (0 : Int), d3] : List Int) 1 = .ok d2 from rfl)]
  exact fin _ p2 (by omega)
 ·rw [bind_eq (show ixR ([d1, d2, (0 : Int), d3] : List Int) 2 = .ok 0 from rfl)]
  exact fin _ (by omega) (by omega)
 ·rw [bind_eq (show ixR ([d1, d2, (0 : Int), d3] : List Int) 3 = .ok d3 from rfl)]
  exact fin _ p3 (by omega)
end U
set_option maxRecDepth 100000
set_option maxHeartbeats 4000000
namespace U
open PySem PySem.Spec Y
open L2 (atI ixN)
theorem cj_fit64 {ys : List Str} (h : ∀ y ∈ ys, Fit y) : Fit (cj ys) := fun c hc => by
 rw [cj_cps] at hc
 rcases jn_sub hc with rfl | ⟨y, hy, hc'⟩
 ·omega
 ·obtain ⟨z, hz, rfl⟩ := List.mem_map.mp hy
  exact h z hz c hc'
theorem joined64 {ys : List Str} {B : Nat} (hB : B ≤ 3000) (hl : ys.length ≤ 20) (h : ∀ y ∈ ys, Fit y ∧ y.length ≤ B) : joinR ("," : Str) ys = .ok (cj ys) ∧ Fit (cj ys) ∧ (cj ys).length ≤ 20 * (B + 1) := by
 have h1 := Nat.mul_le_mul hl (Nat.le_refl B)
 have h2 := Nat.mul_le_mul hl (Nat.le_refl (B + 1))
 have h3 := cj_len fun y hy => (h y hy).2
 exact ⟨joinc_ok (fun y hy => (h y hy).2) (by omega), cj_fit64 fun y hy => (h y hy).1, by omega⟩
theorem lit64 {t : Str} (h : t.cps.toList.all (fun c => decide (c < 0x110000)) = true) : Fit t := fun c hc => of_decide_eq_true (List.all_eq_true.mp h c hc)
theorem drawn_ok {w : Str} {b : List Int} {lo hi : Nat} (f : Fit w) (h1 : lo ≤ w.length) (h2 : w.length ≤ hi) (hb : IsBag b) : (R.ok (w, b)).sat (Drawn64 lo hi) := sat_ok ⟨f, h1, h2, hb⟩
theorem text64 {b : List Int} (hb : IsBag b) : (t__law_text_2 b).sat (Drawn64 5 39000) := by
 obtain ⟨⟨v1, b1⟩, e1, p1, q1, hb1⟩ := take_ok hb (many := (4 : Int)) (by omega) (by omega)
 obtain ⟨⟨v2, b2⟩, e2, p2, q2, hb2⟩ := take_ok hb1 (many := (9 : Int)) (by omega) (by omega)
 obtain ⟨⟨v3, b3⟩, e3, p3, q3, hb3⟩ := take_ok hb2 (many := (8 : Int)) (by omega) (by omega)
 dsimp only at p1 q1 hb1 p2 q2 hb2 p3 q3 hb3
 have lc : ("call " : Str).length = 5 := rfl
 have lb : ("beat " : Str).length = 5 := rfl
 have ln : ("never " : Str).length = 6 := rfl
 have ls : ("stable " : Str).length = 7 := rfl
 have l1 : (" " : Str).length = 1 := rfl
 have fc : Fit ("call " : Str) := lit64 (by kernel_rfl)
 have fb : Fit ("beat " : Str) := lit64 (by kernel_rfl)
 have fn : Fit ("never " : Str) := lit64 (by kernel_rfl)
 have fs : Fit ("stable " : Str) := lit64 (by kernel_rfl)
 have f1 : Fit (" " : Str) := lit64 (by kernel_rfl)
 have hm : 1 ≤ (1 : Int) + v2 + bI (decide (v3 = (1 : Int))) ∧ (1 : Int) + v2 + bI (decide (v3 = (1 : Int))) ≤ 10 := by
  have : bI (decide (v3 = (1 : Int))) = 0 ∨ bI (decide (v3 = (1 : Int))) = 1 := by
   cases decide (v3 = (1 : Int))
   ·exact .inl rfl
   ·exact .inr rfl
  omega
 unfold t__law_text_2
 rw [bind_eq e1]
 dsimp only
 rw [bind_eq e2]
 dsimp only
 rw [bind_eq e3]
 dsimp only
 generalize (1 : Int) + v2 + bI (decide (v3 = (1 : Int))) = many at hm
 have iM : (iota many.toNat).length ≤ 16777216 := by rw [iota_len]; omega
 by_cases z0 : v1 = 0
 ·obtain ⟨⟨v4, b4⟩, e4, p4, q4, hb4⟩ := take_ok hb3 (many := (2 : Int)) (by omega) (by omega)
  dsimp only at p4 q4 hb4
  rw [if_pos (decide_eq_true z0), bind_eq e4]
  dsimp only
  rw [bind_eq (rngR_eq (by omega) (by omega))]
  refine sat_bind (sat_lcS IsBag (fun _ y => Fit y ∧ y.length ≤ 3) iM (fun s x _ hs => by
   obtain ⟨r, er, g1, g2, g3, g4⟩ := figures64 hs (many := (2 : Int) + v4) (most := 9) (by omega) (by omega) (by omega) (by omega)
   rw [bind_eq er]
   exact sat_ok ⟨g4, g1, by show r.1.length ≤ 3; omega⟩) hb4) ?_
  rintro ⟨b5, ys⟩ ⟨hb5, hys, hy⟩
  dsimp only at hb5 hys hy ⊢
  rw [iota_len] at hys
  have hy' : ∀ y ∈ ys, Fit y ∧ y.length ≤ 3 := fun y hy1 => (hy y hy1).elim fun _ w => w.2
  obtain ⟨⟨v8, b8⟩, e8, p8, q8, hb8⟩ := take_ok hb5 (many := (8 : Int)) (by omega) (by omega)
  dsimp only at p8 q8 hb8
  rw [bind_eq e8]
  dsimp only
  refine sat_bind (P := fun s => s.1.length ≤ 11 ∧ (∀ y ∈ s.1, Fit y ∧ y.length ≤ 3) ∧ IsBag s.2) ?_ ?_
  ·by_cases z8 : v8 = 1
   ·obtain ⟨r, er, g1, g2, g3, g4⟩ := figures64 hb8 (many := (5 : Int) - ((2 : Int) + v4)) (most := 9) (by omega) (by omega) (by omega) (by omega)
    rw [if_pos (decide_eq_true z8), bind_eq er, bind_eq (appR_eq (by omega))]
    refine sat_ok ⟨by show (ys ++ [r.1]).length ≤ 11; rw [List.length_append, List.length_singleton]; omega, fun y hy1 => ?_, g4⟩
    rcases List.mem_append.mp hy1 with q | q
    ·exact hy' y q
    ·rw [List.mem_singleton.mp q]
     exact ⟨g1, by omega⟩
   ·rw [if_neg (by rw [decide_eq_false z8]; simp)]
    exact sat_ok ⟨by show ys.length ≤ 11; omega, hy', hb8⟩
  ·rintro ⟨zs, b9⟩ ⟨hz, hz2, hb9⟩
   dsimp only at hz hz2 hb9 ⊢
   obtain ⟨j1, j2, j3⟩ := joined64 (by omega) (by omega) hz2
   obtain ⟨s1, s2, s3⟩ := scat_fit fc j2 (by omega)
   obtain ⟨t1, t2, t3⟩ := scat_fit s2 f1 (by omega)
   obtain ⟨⟨w, b10⟩, ew, w1, w2, w3, hb10⟩ := said64 hb9
   dsimp only at w1 w2 w3 hb10
   obtain ⟨u1, u2, u3⟩ := scat_fit t2 w1 (by omega)
   obtain ⟨x1, x2, x3⟩ := scat_fit u2 f1 (by omega)
   obtain ⟨⟨n, b11⟩, en, n1, n2, n3, hb11⟩ := number64 hb10
   dsimp only at n1 n2 n3 hb11
   obtain ⟨y1, y2, y3⟩ := scat_fit x2 n1 (by omega)
   rw [bind_eq j1, bind_eq s1, bind_eq t1, bind_eq ew]
   dsimp only
   rw [bind_eq u1, bind_eq x1, bind_eq en]
   dsimp only
   rw [bind_eq y1]
   exact drawn_ok y2 (by omega) (by omega) hb11
 rw [if_neg (by rw [decide_eq_false z0]; simp)]
 by_cases z1 : v1 = 1
 ·obtain ⟨⟨n, b4⟩, en, n1, n2, n3, hb4⟩ := number64 hb3
  dsimp only at n1 n2 n3 hb4
  obtain ⟨s1, s2, s3⟩ := scat_fit fb n1 (by omega)
  obtain ⟨t1, t2, t3⟩ := scat_fit s2 f1 (by omega)
  obtain ⟨⟨w, b5⟩, ew, g1, g2, g3, hb5⟩ := figures64 hb4 (many := many) (most := 9) (by omega) (by omega) (by omega) (by omega)
  dsimp only at g1 g2 g3 hb5
  obtain ⟨y1, y2, y3⟩ := scat_fit t2 g1 (by omega)
  rw [if_pos (decide_eq_true z1), bind_eq en]
  dsimp only
  rw [bind_eq s1, bind_eq t1, bind_eq ew]
  dsimp only
  rw [bind_eq y1]
  exact drawn_ok y2 (by omega) (by omega) hb5
 rw [if_neg (by rw [decide_eq_false z1]; simp), bind_eq (rngR_eq (by omega) (by omega))]
 refine sat_bind (sat_lcS IsBag (fun _ y => Fit y ∧ y.length ≤ 2) iM (fun s x _ hs => by
  obtain ⟨r, er, g1, g2, g3, g4⟩ := figures64 hs (many := (2 : Int)) (most := 9) (by omega) (by omega) (by omega) (by omega)
  rw [bind_eq er]
  exact sat_ok ⟨g4, g1, by show r.1.length ≤ 2; have : (2 : Int).toNat = 2 := rfl; omega⟩) hb3) ?_
 rintro ⟨b5, ys⟩ ⟨hb5, hys, hy⟩
 dsimp only at hb5 hys hy ⊢
 rw [iota_len] at hys
 have hy' : ∀ y ∈ ys, Fit y ∧ y.length ≤ 2 := fun y hy1 => (hy y hy1).elim fun _ w => w.2
 obtain ⟨j1, j2, j3⟩ := joined64 (by omega) (by omega) hy'
 rw [bind_eq j1]
 by_cases z2 : v1 = 2
 ·obtain ⟨s1, s2, s3⟩ := scat_fit fn j2 (by omega)
  rw [if_pos (decide_eq_true z2), bind_eq s1]
  exact drawn_ok s2 (by omega) (by omega) hb5
 ·obtain ⟨⟨v4, b6⟩, e4, p4, q4, hb6⟩ := take_ok hb5 (many := (2 : Int)) (by omega) (by omega)
  dsimp only at p4 q4 hb6
  obtain ⟨s1, s2, s3⟩ := scat_fit fs j2 (by omega)
  obtain ⟨t1, t2, t3⟩ := scat_fit s2 f1 (by omega)
  rw [if_neg (by rw [decide_eq_false z2]; simp), bind_eq e4]
  dsimp only
  rw [bind_eq s1, bind_eq t1, bind_eq (rngR_eq (by omega) (by omega))]
  refine sat_bind (sat_lcS IsBag (fun _ y => Fit y ∧ y.length ≤ 2001) (by rw [iota_len]; omega) (fun s x _ hs => by
   obtain ⟨r, er, g1, g2, g3, g4⟩ := said64 hs
   rw [bind_eq er]
   exact sat_ok ⟨g4, g1, g3⟩) hb6) ?_
  rintro ⟨b7, ws⟩ ⟨hb7, hws, hw⟩
  dsimp only at hb7 hws hw ⊢
  rw [iota_len] at hws
  have hw' : ∀ y ∈ ws, Fit y ∧ y.length ≤ 2001 := fun y hy1 => (hw y hy1).elim fun _ w => w.2
  have hwl : ws.length ≤ 11 := by omega
  have k3 := cj_len fun y hy => (hw' y hy).2
  have k4 := Nat.mul_le_mul hwl (Nat.le_refl (2001 + 1))
  obtain ⟨k1, k2, _⟩ := joined64 (by omega) (by omega) hw'
  obtain ⟨y1, y2, y3⟩ := scat_fit t2 k2 (by omega)
  rw [bind_eq k1, bind_eq y1]
  exact drawn_ok y2 (by omega) (by omega) hb7
end U
set_option maxRecDepth 100000
set_option maxHeartbeats 4000000
namespace U
open PySem PySem.Spec Y
open L2 (atI ixN)
theorem xgo64 {β : Type} {b : Str → R β} : ∀ p : List Str, (∀ y ∈ p, Fit y ∧ y.length ≤ 40000) → (∀ y ∈ p, wdB y = true → ∃ z, b y = .ok z) → (p.all wdB = true → xgoR x_word_in b p = .fail) ∧ (p.all wdB = false → xgoR x_word_in b p = .ok "NoText")
 | [], _, _ => ⟨fun _ => rfl, fun h => by cases h⟩
 | y :: p, hp, hb => by
  have fy := hp y (by simp)
  have w := word_in64 (y := y) (by omega) fy.1
  have ih := xgo64 (b := b) p (fun z hz => hp z (by simp [hz])) fun z hz => hb z (by simp [hz])
  cases q : wdB y with
  | true =>
   obtain ⟨z, hz⟩ := hb y (by simp) q
   have e : xgoR x_word_in b (y :: p) = xgoR x_word_in b p := by
    rw [xgoR, (w.1 q).1]
    dsimp only
    rw [hz]
   rw [e, List.all_cons, q, Bool.true_and]
   exact ih
  | false =>
   have e : xgoR x_word_in b (y :: p) = .ok "NoText" := by
    rw [xgoR, w.2 q]
   rw [e, List.all_cons, q, Bool.false_and]
   exact ⟨fun h => (by cases h), fun _ => rfl⟩
theorem win64 : WIn := fun w hf hl => by
 have h := pcs_of hf hl
 have ln := h.ln
 have key := xgo64 (b := fun x1 => (t_word_in x1).bind fun v2 => R.ok v2) (cS w) h.el fun y hy hw => ⟨wdT y, by
  have fy := h.el y hy
  show (t_word_in y).bind (fun v2 => R.ok v2) = _
  rw [((word_in64 (y := y) (by omega) fy.1).1 hw).2]
  rfl⟩
 have e : x_words_in w = orX (xgoR x_word_in (fun x1 => (t_word_in x1).bind fun v2 => R.ok v2) (cS w)) R.fail := by
  unfold x_words_in
  rw [bind_eq h.sp]
  unfold lcX
  rw [if_pos (by unfold sizeLine; omega)]
 rw [e]
 exact ⟨fun a => by rw [key.1 a]; rfl, fun a => by rw [key.2 a]; rfl⟩
end U
set_option maxRecDepth 100000
set_option maxHeartbeats 4000000
namespace U
open PySem PySem.Spec Y
open L2 (atI ixN)
theorem cut_tail {x : Str} {i : Int} (h0 : 0 ≤ i) : (L2.cutS x (some i) none).length = x.length - i.toNat := by
 show (((x.cps.toList.drop (HT.sIx x.length 0 (some i))).take (HT.sIx x.length x.length none - HT.sIx x.length 0 (some i))).toArray).size = _
 have e1 : HT.sIx x.length x.length none = x.length := rfl
 have e2 : HT.sIx x.length 0 (some i) = min i.toNat x.length := by
  unfold HT.sIx
  dsimp only
  rw [if_neg (by omega)]
 rw [e1, e2, List.size_toArray, List.length_take, List.length_drop, Array.length_toList]
 have : x.cps.size = x.length := rfl
 omega
theorem scut64 {x : Str} {lo hi : Option Int} (h : x.length ≤ 16777216) : scutR x lo hi = .ok (L2.cutS x lo hi) := by
 unfold scutR
 rw [if_pos (by rw [sizeLine_eq]; exact h)]
theorem changed64 {x : Str} (h1 : 1 ≤ x.length) (hl : x.length ≤ 39900) (hf : Fit x) {b : List Int} (hb : IsBag b) : (t__law_changed_4 b x).sat (Drawn64 (x.length - 1) (x.length + 1)) := by
 obtain ⟨⟨i, b1⟩, e1, p1, q1, hb1⟩ := take_ok hb (many := (x.length : Int)) (by omega) (by omega)
 obtain ⟨⟨j, b2⟩, e2, p2, q2, hb2⟩ := take_ok hb1 (many := (17 : Int)) (by omega) (by omega)
 obtain ⟨⟨k, b3⟩, e3, p3, q3, hb3⟩ := take_ok hb2 (many := (4 : Int)) (by omega) (by omega)
 dsimp only at p1 q1 hb1 p2 q2 hb2 p3 q3 hb3
 have ls : (" ,-0189abcdx\n; +_" : Str).length = 17 := by kernel_rfl
 obtain ⟨c, ec, fc, lc⟩ := six_fit (t := (" ,-0189abcdx\n; +_" : Str)) (i := j) (lit64 (by kernel_rfl)) (by rw [ls]; decide) p2 (by rw [ls]; omega)
 have lh := cut_exact (x := x) p1 (by omega)
 have lt1 := cut_tail (x := x) (i := i + 1) (by omega)
 have lt0 := cut_tail (x := x) (i := i) p1
 have fh : Fit (L2.cutS x none (some i)) := fit_cut hf
 have ft1 : Fit (L2.cutS x (some (i + 1)) none) := fit_cut hf
 have ft0 : Fit (L2.cutS x (some i) none) := fit_cut hf
 unfold t__law_changed_4
 rw [bind_eq (slen62 (by omega)), bind_eq e1]
 dsimp only
 rw [bind_eq e2]
 dsimp only
 rw [bind_eq ec, bind_eq e3]
 dsimp only
 by_cases z0 : k = 0
 ·obtain ⟨s1, s2, s3⟩ := scat_fit fh ft1 (by omega)
  rw [if_pos (decide_eq_true z0), bind_eq (scut64 (by omega)), bind_eq (scut64 (by omega)), bind_eq s1]
  exact drawn_ok s2 (by omega) (by omega) hb3
 rw [if_neg (by rw [decide_eq_false z0]; simp)]
 obtain ⟨s1, s2, s3⟩ := scat_fit fh fc (by omega)
 by_cases z1 : k = 1
 ·obtain ⟨t1, t2, t3⟩ := scat_fit s2 ft1 (by omega)
  rw [if_pos (decide_eq_true z1), bind_eq (scut64 (by omega)), bind_eq s1, bind_eq (scut64 (by omega)), bind_eq t1]
  exact drawn_ok t2 (by omega) (by omega) hb3
 ·obtain ⟨t1, t2, t3⟩ := scat_fit s2 ft0 (by omega)
  rw [if_neg (by rw [decide_eq_false z1]; simp), bind_eq (scut64 (by omega)), bind_eq s1, bind_eq (scut64 (by omega)), bind_eq t1]
  exact drawn_ok t2 (by omega) (by omega) hb3
theorem ref_str : t__law_told_9 ("" : Str) = .ok (.str "refused") := by kernel_rfl
theorem ne_ref : op2B gNe ((sF dA) (.str "refused")) ((sF PyData.str) ("refused" : Str)) = .ok false := by kernel_rfl
theorem ne_ref2 : op2B gNe ((sF dA) (.str "refused")) ((sF dA) (.str "refused")) = .ok false := by kernel_rfl
theorem turn64 {ns : List Int} {k : Int} {b : List Int} {t x : Str} (h : One64 x) (hl : x.length ≤ 40000) : t_law_59_L2 ns k b t () x = .ok (.nx ()) := by
 unfold t_law_59_L2
 rcases h with ⟨h1, h2⟩ | ⟨d, h1, h2, h3, h4, h5⟩
 ·rw [bind_eq h1, bind_eq (slen62 (by omega))]
  by_cases z : (x.length : Int) ≤ 5000
  ·have et : t__law_told_9 x = .ok (.str "refused") := by
    unfold t__law_told_9
    rw [h2]
    kernel_rfl
   rw [if_pos (decide_eq_true z), bind_eq et, bind_eq (show op2B gNotN ((sF dA) (dN ())) ((sF dN) ()) = .ok false from by kernel_rfl), if_neg (by simp), R.ok_bind, bind_eq ne_ref2]
   rfl
  ·rw [if_neg (by rw [decide_eq_false z]; simp)]
   rfl
 ·rw [bind_eq h1, bind_eq (slen62 (by omega))]
  by_cases z : (x.length : Int) ≤ 5000
  ·have et : t__law_told_9 x = .ok d := by
    unfold t__law_told_9
    rw [h2, or_fl, bind_eq h3]
    rfl
   rw [if_pos (decide_eq_true z), bind_eq et, bind_eq h5, if_pos rfl, R.ok_bind, bind_eq (ne_self h4)]
   rfl
  ·rw [if_neg (by rw [decide_eq_false z]; simp)]
   rfl
theorem odd64 {t : Str} {d : PyData} (hd : d ∈ ([(dN ()), (PyData.int (0 : Int)), (PyData.bool true), ((dL PyData.str) ([t] : (List Str))), ((dT PyData.str) ([t] : (List Str))), ((dT dA) ([(PyData.str ("call" : Str)), ((dT (dP PyData.int PyData.int)) ([((0 : Int), (0 : Int))] : (List (Int × Int)))), (PyData.str ("" : Str)), (PyData.int (1 : Int))] : (List PyData)))] : (List PyData))) : t__law_told_9'a d = .ok (.str "refused") := by
 simp only [List.mem_cons, List.not_mem_nil, or_false] at hd
 rcases hd with rfl | rfl | rfl | rfl | rfl | rfl <;> kernel_rfl
theorem law59_of (hW : WIn) {ns : List Int} (hn : ns.length ≤ 63) : t_law_59 ns = .ok true := by
 unfold t_law_59
 have hmin : 0 ≤ iMax 1 (iMin 4 (ns.length : Int)) ∧ iMax 1 (iMin 4 (ns.length : Int)) ≤ 4 := by unfold iMax iMin; split <;> split <;> omega
 rw [bind_eq (rngR_eq (by omega) (by omega))]
 have : forC (t_law_59_L1 ns) (iota (iMax 1 (iMin 4 (ns.length : Int))).toNat) () = .ok (.nx ()) := forC_unit fun k hk => by
  obtain ⟨k0, k1⟩ := iota_mem.mp hk
  obtain ⟨b, eb, hb⟩ := bag_ok hn (k := k) k0 (by omega)
  obtain ⟨⟨t, b1⟩, e1, f1, l1, u1, hb1⟩ := text64 hb
  dsimp only at f1 l1 u1 hb1
  obtain ⟨⟨t2, b2⟩, e2, f2, l2, u2, hb2⟩ := changed64 (by omega) (by omega) f1 hb1
  dsimp only at f2 l2 u2 hb2
  obtain ⟨⟨t3, b3⟩, e3, f3, l3, u3, hb3⟩ := changed64 (x := t) (by omega) (by omega) f1 hb2
  dsimp only at f3 l3 u3 hb3
  obtain ⟨⟨t4, b4⟩, e4, f4, l4, u4, hb4⟩ := changed64 (x := t3) (by omega) (by omega) f3 hb3
  dsimp only at f4 l4 u4 hb4
  obtain ⟨⟨j, b5⟩, e5, j0, j1, hb5⟩ := take_ok hb4 (many := (6 : Int)) (by omega) (by omega)
  dsimp only at j0 j1
  have e6 := ixR_pos (xs := ([(dN ()), (PyData.int (0 : Int)), (PyData.bool true), ((dL PyData.str) ([t] : (List Str))), ((dT PyData.str) ([t] : (List Str))), ((dT dA) ([(PyData.str ("call" : Str)), ((dT (dP PyData.int PyData.int)) ([((0 : Int), (0 : Int))] : (List (Int × Int)))), (PyData.str ("" : Str)), (PyData.int (1 : Int))] : (List PyData)))] : (List PyData))) (i := j) j0 j1
  have em := List.getElem_mem (l := ([(dN ()), (PyData.int (0 : Int)), (PyData.bool true), ((dL PyData.str) ([t] : (List Str))), ((dT PyData.str) ([t] : (List Str))), ((dT dA) ([(PyData.str ("call" : Str)), ((dT (dP PyData.int PyData.int)) ([((0 : Int), (0 : Int))] : (List (Int × Int)))), (PyData.str ("" : Str)), (PyData.int (1 : Int))] : (List PyData)))] : (List PyData))) (n := j.toNat) (by show j.toNat < 6; omega)
  unfold t_law_59_L1
  rw [bind_eq eb, bind_eq e1]
  dsimp only
  rw [bind_eq e2]
  dsimp only
  rw [bind_eq e3]
  dsimp only
  rw [bind_eq e4]
  dsimp only
  rw [bind_eq (forC_unit fun x hx => by
   simp only [List.mem_cons, List.not_mem_nil, or_false] at hx
   rcases hx with rfl | rfl | rfl
   ·exact turn64 (one64 hW f1 (by omega)) (by omega)
   ·exact turn64 (one64 hW f2 (by omega)) (by omega)
   ·exact turn64 (one64 hW f4 (by omega)) (by omega))]
  show ((t__law_take b4 6).bind _) = _
  rw [bind_eq e5]
  dsimp only
  rw [bind_eq e6, bind_eq (odd64 em), bind_eq ne_ref, if_neg (by simp), bind_eq ref_str, bind_eq ne_ref]
  rfl
 rw [bind_eq this]
 rfl
theorem law59_true {ns : List Int} (hn : ns.length ≤ 63) : t_law_59 ns = .ok true := law59_of win64 hn
end U
set_option maxHeartbeats 4000000
namespace Q64
open PySem PySem.Spec L2 Y D
def top (i : Nat) : Stmt := PySem.Challenge.pw_roadcall_k64_papers_read.main.body.getD i (.Pass ⟨0, 0, 0, 0⟩)
structure Fx (K : PySem.W.Frag) (mg : Str → Option Value) where
 f_is_written : Addr
 fd_is_written : FuncData
 F_is_written : FunD K "is_written" "is_written" (defArgs (top 18)) (defBody (top 18)) (defScope (top 18)) [] [] f_is_written fd_is_written
 g_is_written : mg "is_written" = some (.ref f_is_written)
 f_is_written_word : Addr
 fd_is_written_word : FuncData
 F_is_written_word : FunD K "is_written_word" "is_written_word" (defArgs (top 19)) (defBody (top 19)) (defScope (top 19)) [] [] f_is_written_word fd_is_written_word
 g_is_written_word : mg "is_written_word" = some (.ref f_is_written_word)
 f_is_written_number : Addr
 fd_is_written_number : FuncData
 F_is_written_number : FunD K "is_written_number" "is_written_number" (defArgs (top 20)) (defBody (top 20)) (defScope (top 20)) [] [] f_is_written_number fd_is_written_number
 g_is_written_number : mg "is_written_number" = some (.ref f_is_written_number)
 f_places_in : Addr
 fd_places_in : FuncData
 F_places_in : FunD K "places_in" "places_in" (defArgs (top 21)) (defBody (top 21)) (defScope (top 21)) [] [] f_places_in fd_places_in
 g_places_in : mg "places_in" = some (.ref f_places_in)
 f_are_written_rows : Addr
 fd_are_written_rows : FuncData
 F_are_written_rows : FunD K "are_written_rows" "are_written_rows" (defArgs (top 22)) (defBody (top 22)) (defScope (top 22)) [] [] f_are_written_rows fd_are_written_rows
 g_are_written_rows : mg "are_written_rows" = some (.ref f_are_written_rows)
 f_rows_in : Addr
 fd_rows_in : FuncData
 F_rows_in : FunD K "rows_in" "rows_in" (defArgs (top 23)) (defBody (top 23)) (defScope (top 23)) [] [] f_rows_in fd_rows_in
 g_rows_in : mg "rows_in" = some (.ref f_rows_in)
 f_word_in : Addr
 fd_word_in : FuncData
 F_word_in : FunD K "word_in" "word_in" (defArgs (top 24)) (defBody (top 24)) (defScope (top 24)) [] [] f_word_in fd_word_in
 g_word_in : mg "word_in" = some (.ref f_word_in)
 f_number_in : Addr
 fd_number_in : FuncData
 F_number_in : FunD K "number_in" "number_in" (defArgs (top 27)) (defBody (top 27)) (defScope (top 27)) [] [] f_number_in fd_number_in
 g_number_in : mg "number_in" = some (.ref f_number_in)
 f_numbers_in : Addr
 fd_numbers_in : FuncData
 F_numbers_in : FunD K "numbers_in" "numbers_in" (defArgs (top 28)) (defBody (top 28)) (defScope (top 28)) [] [] f_numbers_in fd_numbers_in
 g_numbers_in : mg "numbers_in" = some (.ref f_numbers_in)
 f_pairs_in : Addr
 fd_pairs_in : FuncData
 F_pairs_in : FunD K "pairs_in" "pairs_in" (defArgs (top 29)) (defBody (top 29)) (defScope (top 29)) [] [] f_pairs_in fd_pairs_in
 g_pairs_in : mg "pairs_in" = some (.ref f_pairs_in)
 f_words_in : Addr
 fd_words_in : FuncData
 F_words_in : FunD K "words_in" "words_in" (defArgs (top 30)) (defBody (top 30)) (defScope (top 30)) [] [] f_words_in fd_words_in
 g_words_in : mg "words_in" = some (.ref f_words_in)
 f_paper_by : Addr
 fd_paper_by : FuncData
 F_paper_by : FunD K "paper_by" "paper_by" (defArgs (top 31)) (defBody (top 31)) (defScope (top 31)) [] [] f_paper_by fd_paper_by
 g_paper_by : mg "paper_by" = some (.ref f_paper_by)
 f_read_paper : Addr
 fd_read_paper : FuncData
 F_read_paper : FunD K "read_paper" "read_paper" (defArgs (top 32)) (defBody (top 32)) (defScope (top 32)) [] [] f_read_paper fd_read_paper
 g_read_paper : mg "read_paper" = some (.ref f_read_paper)
 f__law_bag : Addr
 fd__law_bag : FuncData
 F__law_bag : FunD K "_law_bag" "_law_bag" (defArgs (top 34)) (defBody (top 34)) (defScope (top 34)) [] [] f__law_bag fd__law_bag
 g__law_bag : mg "_law_bag" = some (.ref f__law_bag)
 f__law_take : Addr
 fd__law_take : FuncData
 F__law_take : FunD K "_law_take" "_law_take" (defArgs (top 35)) (defBody (top 35)) (defScope (top 35)) [] [] f__law_take fd__law_take
 g__law_take : mg "_law_take" = some (.ref f__law_take)
 f__law_figures : Addr
 fd__law_figures : FuncData
 F__law_figures : FunD K "_law_figures" "_law_figures" (defArgs (top 36)) (defBody (top 36)) (defScope (top 36)) [] [] f__law_figures fd__law_figures
 g__law_figures : mg "_law_figures" = some (.ref f__law_figures)
 f__law_said : Addr
 fd__law_said : FuncData
 F__law_said : FunD K "_law_said" "_law_said" (defArgs (top 37)) (defBody (top 37)) (defScope (top 37)) [] [] f__law_said fd__law_said
 g__law_said : mg "_law_said" = some (.ref f__law_said)
 f__law_number : Addr
 fd__law_number : FuncData
 F__law_number : FunD K "_law_number" "_law_number" (defArgs (top 38)) (defBody (top 38)) (defScope (top 38)) [] [] f__law_number fd__law_number
 g__law_number : mg "_law_number" = some (.ref f__law_number)
 f__law_text : Addr
 fd__law_text : FuncData
 F__law_text : FunD K "_law_text" "_law_text" (defArgs (top 39)) (defBody (top 39)) (defScope (top 39)) [] [] f__law_text fd__law_text
 g__law_text : mg "_law_text" = some (.ref f__law_text)
 f__law_changed : Addr
 fd__law_changed : FuncData
 F__law_changed : FunD K "_law_changed" "_law_changed" (defArgs (top 40)) (defBody (top 40)) (defScope (top 40)) [] [] f__law_changed fd__law_changed
 g__law_changed : mg "_law_changed" = some (.ref f__law_changed)
 f__law_is_of : Addr
 fd__law_is_of : FuncData
 F__law_is_of : FunD K "_law_is_of" "_law_is_of" (defArgs (top 41)) (defBody (top 41)) (defScope (top 41)) [] [] f__law_is_of fd__law_is_of
 g__law_is_of : mg "_law_is_of" = some (.ref f__law_is_of)
 f__law_is_number : Addr
 fd__law_is_number : FuncData
 F__law_is_number : FunD K "_law_is_number" "_law_is_number" (defArgs (top 42)) (defBody (top 42)) (defScope (top 42)) [] [] f__law_is_number fd__law_is_number
 g__law_is_number : mg "_law_is_number" = some (.ref f__law_is_number)
 f__law_is_word : Addr
 fd__law_is_word : FuncData
 F__law_is_word : FunD K "_law_is_word" "_law_is_word" (defArgs (top 43)) (defBody (top 43)) (defScope (top 43)) [] [] f__law_is_word fd__law_is_word
 g__law_is_word : mg "_law_is_word" = some (.ref f__law_is_word)
 f__law_tuples : Addr
 fd__law_tuples : FuncData
 F__law_tuples : FunD K "_law_tuples" "_law_tuples" (defArgs (top 44)) (defBody (top 44)) (defScope (top 44)) [] [] f__law_tuples fd__law_tuples
 g__law_tuples : mg "_law_tuples" = some (.ref f__law_tuples)
 f__law_words : Addr
 fd__law_words : FuncData
 F__law_words : FunD K "_law_words" "_law_words" (defArgs (top 45)) (defBody (top 45)) (defScope (top 45)) [] [] f__law_words fd__law_words
 g__law_words : mg "_law_words" = some (.ref f__law_words)
 f__law_due : Addr
 fd__law_due : FuncData
 F__law_due : FunD K "_law_due" "_law_due" (defArgs (top 46)) (defBody (top 46)) (defScope (top 46)) [] [] f__law_due fd__law_due
 g__law_due : mg "_law_due" = some (.ref f__law_due)
 f__law_told : Addr
 fd__law_told : FuncData
 F__law_told : FunD K "_law_told" "_law_told" (defArgs (top 47)) (defBody (top 47)) (defScope (top 47)) [] [] f__law_told fd__law_told
 g__law_told : mg "_law_told" = some (.ref f__law_told)
 f_law : Addr
 fd_law : FuncData
 F_law : FunD K "law" "law" (defArgs (top 48)) (defBody (top 48)) (defScope (top 48)) [] [] f_law fd_law
 g_law : mg "law" = some (.ref f_law)
 n_abs : mg "abs" = none
 n_all : mg "all" = none
 n_int : mg "int" = none
 n_isinstance : mg "isinstance" = none
 n_len : mg "len" = none
 n_max : mg "max" = none
 n_min : mg "min" = none
 n_range : mg "range" = none
 n_str : mg "str" = none
 n_tuple : mg "tuple" = none
 c_FIGURES : ∃ t, mg "FIGURES" = some (.str "0123456789" t)
 c_LONGEST : ∃ t, mg "LONGEST" = some (.int 5000 t)
 c_MOST_FIGURES : ∃ t, mg "MOST_FIGURES" = some (.int 60 t)
 c_MOST_PLACES : ∃ t, mg "MOST_PLACES" = some (.int 9 t)
 c_MOST_SIGNS : ∃ t, mg "MOST_SIGNS" = some (.int 2000 t)
 c_NO_SIGNS : ∃ t, mg "NO_SIGNS" = some (.str "-" t)
 c_PLACES : ∃ t, mg "PLACES" = some (.str "012345678" t)
 c_SIGNS : ∃ t, mg "SIGNS" = some (.str "abc" t)
 a_WAYS : Addr
 g_WAYS : mg "WAYS" = some (.ref a_WAYS)
 c_WAYS : ∀ F, Dp K F (.ref a_WAYS) (.tuple [(.int 2), (.int 3)])
 g_NoDeed : mg "NoDeed" = some (.ref (He.ga K "NoDeed"))
 g_NoNet : mg "NoNet" = some (.ref (He.ga K "NoNet"))
 g_NoPaper : mg "NoPaper" = some (.ref (He.ga K "NoPaper"))
 g_NoPlace : mg "NoPlace" = some (.ref (He.ga K "NoPlace"))
 g_NoRow : mg "NoRow" = some (.ref (He.ga K "NoRow"))
 g_NoText : mg "NoText" = some (.ref (He.ga K "NoText"))
 g_NoWord : mg "NoWord" = some (.ref (He.ga K "NoWord"))
 g_RoadError : mg "RoadError" = some (.ref (He.ga K "RoadError"))
 r_NoText : RzOk K mg "NoText"
 ct_RoadError : CtTab K mg [("NoText", true)] (.ref (He.ga K "RoadError"))
 it_0 : IsTab K mg [("NoText", true)] (.ref (He.ga K "NoText"))
 it_1 : IsTabs K mg [("NoText", false)] [.ref (He.ga K "NoDeed"), .ref (He.ga K "NoNet"), .ref (He.ga K "NoPaper"), .ref (He.ga K "NoPlace"), .ref (He.ga K "NoRow"), .ref (He.ga K "NoWord")]
section
variable {P : Program} {w : World} {K : PySem.W.Frag} {mg : Str → Option Value} {base : Heap} (Y : Fx K mg)
include Y
theorem k_is_written : PySem.W.keepIn K (.ref Y.f_is_written) = true := Y.F_is_written.kp
theorem b_is_written_ : Binds K Y.fd_is_written ["text", "signs", "least", "most"] [] := Y.F_is_written.bindsN fun _ _ _ _ _ _ us hl => match us, hl with | [_, _, _, _], _ => rfl
theorem s_is_written : FnScope ["text", "signs", "least", "most", "sign"] ["text", "signs", "least", "most"] (defScope (top 18)) := ⟨rfl, rfl, rfl, by decide +kernel, rfl, by decide +kernel, by decide +kernel⟩
theorem w_is_written : FnOk P w K mg base (L2.CX P w) 1 Y.f_is_written Y.fd_is_written ["text", "signs", "least", "most"] (spOf K mg m_is_written) := by
 have hN : (["text", "signs", "least", "most", "sign"] : List Str).Nodup := (s_is_written Y).nd
 refine fn_ok Y.F_is_written (s_is_written Y) (fun _ _ _ _ => False) fun cdv A outer s H E hr => ?_
 have tk := takes_of (X := CxF P w K mg base ["text", "signs", "least", "most", "sign"] "is_written" (defScope (top 18)) Y.f_is_written cdv A outer s H E) (E := E) rfl rfl rfl rfl
 exact (ds_one (ds_ret (de_and (de_chain (og_le hr.units) (og_le hr.units) (yv 2) (de_callB cb_len rfl Y.n_len (by with_unfolding_all rfl) (da_cons (yv 0) da_nil)) (yv 3)) (de_one (de_view 0 (de_callB (cb_all rfl) rfl Y.n_all (by with_unfolding_all rfl) (da_cons (de_lc (own := [("sign", 4)]) ct_name rfl hN (di_seq (yv 0)) (blkOk_by (by kernel_rfl)) (fun _ _ _ _ _ => yg 4 hN) (fun _ _ _ _ _ => dts_nil) (fun _ _ _ _ _ => (de_cmp (og_in (hu65 hr :)) (yv 4) (yv 1) rfl))) da_nil)))))))
theorem k_is_written_word : PySem.W.keepIn K (.ref Y.f_is_written_word) = true := Y.F_is_written_word.kp
theorem b_is_written_word_ : Binds K Y.fd_is_written_word ["text"] [] := Y.F_is_written_word.bindsN fun _ _ _ _ _ _ us hl => match us, hl with | [_], _ => rfl
theorem s_is_written_word : FnScope ["text"] ["text"] (defScope (top 19)) := ⟨rfl, rfl, rfl, by decide +kernel, rfl, by decide +kernel, by decide +kernel⟩
theorem w_is_written_word : FnOk P w K mg base (L2.CX P w) 2 Y.f_is_written_word Y.fd_is_written_word ["text"] (spOf K mg m_is_written_word) := by
 have hN : (["text"] : List Str).Nodup := (s_is_written_word Y).nd
 refine fn_ok Y.F_is_written_word (s_is_written_word Y) (fun _ _ _ _ => False) fun cdv A outer s H E hr => ?_
 have tk := takes_of (X := CxF P w K mg base ["text"] "is_written_word" (defScope (top 19)) Y.f_is_written_word cdv A outer s H E) (E := E) rfl rfl rfl rfl
 exact (ds_one (ds_ret (de_or (de_cmp (og_eq hr.units) (yv 0) (yglobS Y.c_NO_SIGNS) (nomark _)) (de_one (de_fn ((w_is_written Y).mono (by decide)) hr rfl Y.g_is_written (k_is_written Y) (b_is_written_ Y) tk (da_cons (yv 0) (da_cons (yglobS Y.c_SIGNS) (da_cons de_int (da_cons (yglobI Y.c_MOST_SIGNS) da_nil)))))))))
theorem k_is_written_number : PySem.W.keepIn K (.ref Y.f_is_written_number) = true := Y.F_is_written_number.kp
theorem b_is_written_number_ : Binds K Y.fd_is_written_number ["text"] [] := Y.F_is_written_number.bindsN fun _ _ _ _ _ _ us hl => match us, hl with | [_], _ => rfl
theorem s_is_written_number : FnScope ["text"] ["text"] (defScope (top 20)) := ⟨rfl, rfl, rfl, by decide +kernel, rfl, by decide +kernel, by decide +kernel⟩
theorem w_is_written_number : FnOk P w K mg base (L2.CX P w) 2 Y.f_is_written_number Y.fd_is_written_number ["text"] (spOf K mg m_is_written_number) := by
 have hN : (["text"] : List Str).Nodup := (s_is_written_number Y).nd
 refine fn_ok Y.F_is_written_number (s_is_written_number Y) (fun _ _ _ _ => False) fun cdv A outer s H E hr => ?_
 have tk := takes_of (X := CxF P w K mg base ["text"] "is_written_number" (defScope (top 20)) Y.f_is_written_number cdv A outer s H E) (E := E) rfl rfl rfl rfl
 exact (ds_cons (ds_if (dt_not (dt_val (de_fn ((w_is_written Y).mono (by decide)) hr rfl Y.g_is_written (k_is_written Y) (b_is_written_ Y) tk (da_cons (yv 0) (da_cons (yglobS Y.c_FIGURES) (da_cons de_int (da_cons (yglobI Y.c_MOST_FIGURES) da_nil))))))) (ds_one (ds_ret de_bl)) ds_nil) (ds_one (ds_ret (de_or (de_cmp (og_ne hr.units) (de_ix (hu1 hr :) (yv 0) de_int) de_str (nomark _)) (de_one (de_cmp (og_eq hr.units) (de_callB cb_len rfl Y.n_len (by with_unfolding_all rfl) (da_cons (yv 0) da_nil)) de_int (nomark _)))))))
theorem k_places_in : PySem.W.keepIn K (.ref Y.f_places_in) = true := Y.F_places_in.kp
theorem b_places_in_ : Binds K Y.fd_places_in ["text"] [] := Y.F_places_in.bindsN fun _ _ _ _ _ _ us hl => match us, hl with | [_], _ => rfl
theorem s_places_in : FnScope ["text", "sign"] ["text"] (defScope (top 21)) := ⟨rfl, rfl, rfl, by decide +kernel, rfl, by decide +kernel, by decide +kernel⟩
theorem w_places_in : FnOk P w K mg base (L2.CX P w) 1 Y.f_places_in Y.fd_places_in ["text"] (spOf K mg m_places_in) := by
 have hN : (["text", "sign"] : List Str).Nodup := (s_places_in Y).nd
 refine fn_ok Y.F_places_in (s_places_in Y) (fun _ _ _ _ => False) fun cdv A outer s H E hr => ?_
 have tk := takes_of (X := CxF P w K mg base ["text", "sign"] "places_in" (defScope (top 21)) Y.f_places_in cdv A outer s H E) (E := E) rfl rfl rfl rfl
 exact (ds_one (ds_ret (de_callTy ct_tuple rfl Y.n_tuple (by with_unfolding_all rfl) (da_cons (de_lc (own := [("sign", 1)]) ct_name rfl hN (di_seq (yv 0)) (blkOk_by (by kernel_rfl)) (fun _ _ _ _ _ => yg 1 hN) (fun _ _ _ _ _ => dts_nil) (fun _ _ _ _ _ => (de_callTy ct_int rfl Y.n_int (by with_unfolding_all rfl) (da_cons (yv 1) da_nil)))) da_nil))))
theorem k_are_written_rows : PySem.W.keepIn K (.ref Y.f_are_written_rows) = true := Y.F_are_written_rows.kp
theorem b_are_written_rows_ : Binds K Y.fd_are_written_rows ["rows"] [] := Y.F_are_written_rows.bindsN fun _ _ _ _ _ _ us hl => match us, hl with | [_], _ => rfl
theorem s_are_written_rows : FnScope ["rows", "row"] ["rows"] (defScope (top 22)) := ⟨rfl, rfl, rfl, by decide +kernel, rfl, by decide +kernel, by decide +kernel⟩
theorem w_are_written_rows : FnOk P w K mg base (L2.CX P w) 2 Y.f_are_written_rows Y.fd_are_written_rows ["rows"] (spOf K mg m_are_written_rows) := by
 have hN : (["rows", "row"] : List Str).Nodup := (s_are_written_rows Y).nd
 refine fn_ok Y.F_are_written_rows (s_are_written_rows Y) (fun _ _ _ _ => False) fun cdv A outer s H E hr => ?_
 have tk := takes_of (X := CxF P w K mg base ["rows", "row"] "are_written_rows" (defScope (top 22)) Y.f_are_written_rows cdv A outer s H E) (E := E) rfl rfl rfl rfl
 exact (ds_cons (ds_if (dt_w (dw_or (dt_not (dt_chain (og_le hr.units) (og_le hr.units) de_int (de_callB cb_len rfl Y.n_len (by with_unfolding_all rfl) (da_cons (yv 0) da_nil)) (yglobI Y.c_MOST_PLACES))) (dw_or1 (dt_cmp (og_notIn (hu65 hr :)) (de_callB cb_len rfl Y.n_len (by with_unfolding_all rfl) (da_cons (de_ix (hu1 hr :) (yv 0) de_int) da_nil)) (yglobT Y.g_WAYS Y.c_WAYS) rfl)))) (ds_one (ds_ret de_bl)) ds_nil) (ds_one (ds_ret (de_view 0 (de_callB (cb_all rfl) rfl Y.n_all (by with_unfolding_all rfl) (da_cons (de_lc (own := [("row", 1)]) ct_name rfl hN (di_seq (yv 0)) (blkOk_by (by kernel_rfl)) (fun _ _ _ _ _ => yg 1 hN) (fun _ _ _ _ _ => dts_nil) (fun _ _ _ _ _ => (de_fn ((w_is_written Y).mono (by decide)) hr rfl Y.g_is_written (k_is_written Y) (b_is_written_ Y) takes_never (da_cons (yv 1) (da_cons (yglobS Y.c_PLACES) (da_cons (de_callB cb_len rfl Y.n_len (by with_unfolding_all rfl) (da_cons (de_ix (hu1 hr :) (yv 0) de_int) da_nil)) (da_cons (de_callB cb_len rfl Y.n_len (by with_unfolding_all rfl) (da_cons (de_ix (hu1 hr :) (yv 0) de_int) da_nil)) da_nil))))))) da_nil))))))
theorem k_rows_in : PySem.W.keepIn K (.ref Y.f_rows_in) = true := Y.F_rows_in.kp
theorem b_rows_in_ : Binds K Y.fd_rows_in ["text", "between"] [] := Y.F_rows_in.bindsN fun _ _ _ _ _ _ us hl => match us, hl with | [_, _], _ => rfl
theorem s_rows_in : FnScope ["text", "between", "rows", "row"] ["text", "between"] (defScope (top 23)) := ⟨rfl, rfl, rfl, by decide +kernel, rfl, by decide +kernel, by decide +kernel⟩
theorem w_rows_in : FnOk P w K mg base (L2.CX P w) 3 Y.f_rows_in Y.fd_rows_in ["text", "between"] (spOf K mg m_rows_in) := by
 have hN : (["text", "between", "rows", "row"] : List Str).Nodup := (s_rows_in Y).nd
 refine fn_ok Y.F_rows_in (s_rows_in Y) (fun _ _ _ _ => False) fun cdv A outer s H E hr => ?_
 have tk := takes_of (X := CxF P w K mg base ["text", "between", "rows", "row"] "rows_in" (defScope (top 23)) Y.f_rows_in cdv A outer s H E) (E := E) rfl rfl rfl rfl
 exact (ds_cons (yset 2 hN (de_met (T := .str) mm_split PySem.F.plainAttrs_str PySem.F.slot_str_split (by with_unfolding_all rfl) (yv 0) (by exact (da_cons (yv 1) da_nil)))) (ds_cons (ds_if (dt_not (dt_val (de_fn ((w_are_written_rows Y).mono (by decide)) hr rfl Y.g_are_written_rows (k_are_written_rows Y) (b_are_written_rows_ Y) tk (da_cons (yv 2) da_nil)))) (ds_one (ds_raiseY Y.r_NoText rfl tk)) ds_nil) (ds_one (ds_ret (de_callTy ct_tuple rfl Y.n_tuple (by with_unfolding_all rfl) (da_cons (de_lc (own := [("row", 3)]) ct_name rfl hN (di_seq (yv 2)) (blkOk_by (by kernel_rfl)) (fun _ _ _ _ _ => yg 3 hN) (fun _ _ _ _ _ => dts_nil) (fun _ _ _ _ _ => (de_fn ((w_places_in Y).mono (by decide)) hr rfl Y.g_places_in (k_places_in Y) (b_places_in_ Y) takes_never (da_cons (yv 3) da_nil)))) da_nil))))))
theorem k_word_in : PySem.W.keepIn K (.ref Y.f_word_in) = true := Y.F_word_in.kp
theorem b_word_in_ : Binds K Y.fd_word_in ["text"] [] := Y.F_word_in.bindsN fun _ _ _ _ _ _ us hl => match us, hl with | [_], _ => rfl
theorem s_word_in : FnScope ["text"] ["text"] (defScope (top 24)) := ⟨rfl, rfl, rfl, by decide +kernel, rfl, by decide +kernel, by decide +kernel⟩
theorem w_word_in : FnOk P w K mg base (L2.CX P w) 3 Y.f_word_in Y.fd_word_in ["text"] (spOf K mg m_word_in) := by
 have hN : (["text"] : List Str).Nodup := (s_word_in Y).nd
 refine fn_ok Y.F_word_in (s_word_in Y) (fun _ _ _ _ => False) fun cdv A outer s H E hr => ?_
 have tk := takes_of (X := CxF P w K mg base ["text"] "word_in" (defScope (top 24)) Y.f_word_in cdv A outer s H E) (E := E) rfl rfl rfl rfl
 exact (ds_cons (ds_if (dt_not (dt_val (de_fn ((w_is_written_word Y).mono (by decide)) hr rfl Y.g_is_written_word (k_is_written_word Y) (b_is_written_word_ Y) tk (da_cons (yv 0) da_nil)))) (ds_one (ds_raiseY Y.r_NoText rfl tk)) ds_nil) (ds_one (ds_ret (de_fz (de_if (dt_cmp (og_eq hr.units) (yv 0) (yglobS Y.c_NO_SIGNS) (nomark _)) de_str (de_fz (yv 0)))))))
theorem k_number_in : PySem.W.keepIn K (.ref Y.f_number_in) = true := Y.F_number_in.kp
theorem b_number_in_ : Binds K Y.fd_number_in ["text"] [] := Y.F_number_in.bindsN fun _ _ _ _ _ _ us hl => match us, hl with | [_], _ => rfl
theorem s_number_in : FnScope ["text"] ["text"] (defScope (top 27)) := ⟨rfl, rfl, rfl, by decide +kernel, rfl, by decide +kernel, by decide +kernel⟩
theorem w_number_in : FnOk P w K mg base (L2.CX P w) 3 Y.f_number_in Y.fd_number_in ["text"] (spOf K mg m_number_in) := by
 have hN : (["text"] : List Str).Nodup := (s_number_in Y).nd
 refine fn_ok Y.F_number_in (s_number_in Y) (fun _ _ _ _ => False) fun cdv A outer s H E hr => ?_
 have tk := takes_of (X := CxF P w K mg base ["text"] "number_in" (defScope (top 27)) Y.f_number_in cdv A outer s H E) (E := E) rfl rfl rfl rfl
 exact (ds_cons (ds_if (dt_not (dt_val (de_fn ((w_is_written_number Y).mono (by decide)) hr rfl Y.g_is_written_number (k_is_written_number Y) (b_is_written_number_ Y) tk (da_cons (yv 0) da_nil)))) (ds_one (ds_raiseY Y.r_NoText rfl tk)) ds_nil) (ds_one (ds_ret (de_callTy ct_int rfl Y.n_int (by with_unfolding_all rfl) (da_cons (yv 0) da_nil)))))
theorem k_numbers_in : PySem.W.keepIn K (.ref Y.f_numbers_in) = true := Y.F_numbers_in.kp
theorem b_numbers_in_ : Binds K Y.fd_numbers_in ["text"] [] := Y.F_numbers_in.bindsN fun _ _ _ _ _ _ us hl => match us, hl with | [_], _ => rfl
theorem s_numbers_in : FnScope ["text"] ["text"] (defScope (top 28)) := ⟨rfl, rfl, rfl, by decide +kernel, rfl, by decide +kernel, by decide +kernel⟩
theorem w_numbers_in : FnOk P w K mg base (L2.CX P w) 2 Y.f_numbers_in Y.fd_numbers_in ["text"] (spOf K mg m_numbers_in) := by
 have hN : (["text"] : List Str).Nodup := (s_numbers_in Y).nd
 refine fn_ok Y.F_numbers_in (s_numbers_in Y) (fun _ _ _ _ => False) fun cdv A outer s H E hr => ?_
 have tk := takes_of (X := CxF P w K mg base ["text"] "numbers_in" (defScope (top 28)) Y.f_numbers_in cdv A outer s H E) (E := E) rfl rfl rfl rfl
 exact (ds_cons (ds_if (dt_not (dt_val (de_fn ((w_is_written Y).mono (by decide)) hr rfl Y.g_is_written (k_is_written Y) (b_is_written_ Y) tk (da_cons (yv 0) (da_cons (yglobS Y.c_PLACES) (da_cons de_int (da_cons (yglobI Y.c_LONGEST) da_nil))))))) (ds_one (ds_raiseY Y.r_NoText rfl tk)) ds_nil) (ds_one (ds_ret (de_fn ((w_places_in Y).mono (by decide)) hr rfl Y.g_places_in (k_places_in Y) (b_places_in_ Y) tk (da_cons (yv 0) da_nil)))))
theorem k_pairs_in : PySem.W.keepIn K (.ref Y.f_pairs_in) = true := Y.F_pairs_in.kp
theorem b_pairs_in_ : Binds K Y.fd_pairs_in ["text"] [] := Y.F_pairs_in.bindsN fun _ _ _ _ _ _ us hl => match us, hl with | [_], _ => rfl
theorem s_pairs_in : FnScope ["text", "pairs", "pair"] ["text"] (defScope (top 29)) := ⟨rfl, rfl, rfl, by decide +kernel, rfl, by decide +kernel, by decide +kernel⟩
theorem w_pairs_in : FnOk P w K mg base (L2.CX P w) 2 Y.f_pairs_in Y.fd_pairs_in ["text"] (spOf K mg m_pairs_in) := by
 have hN : (["text", "pairs", "pair"] : List Str).Nodup := (s_pairs_in Y).nd
 refine fn_ok Y.F_pairs_in (s_pairs_in Y) (fun _ _ _ _ => False) fun cdv A outer s H E hr => ?_
 have tk := takes_of (X := CxF P w K mg base ["text", "pairs", "pair"] "pairs_in" (defScope (top 29)) Y.f_pairs_in cdv A outer s H E) (E := E) rfl rfl rfl rfl
 exact (ds_cons (yset 1 hN (de_met (T := .str) mm_split PySem.F.plainAttrs_str PySem.F.slot_str_split (by with_unfolding_all rfl) (yv 0) (by exact (da_cons de_str da_nil)))) (ds_cons (ds_if (dt_not (dt_val (de_view 1 (de_callB (cb_all rfl) rfl Y.n_all (by with_unfolding_all rfl) (da_cons (de_lc (own := [("pair", 2)]) ct_name rfl hN (di_seq (yv 1)) (blkOk_by (by kernel_rfl)) (fun _ _ _ _ _ => yg 2 hN) (fun _ _ _ _ _ => dts_nil) (fun _ _ _ _ _ => (de_fn ((w_is_written Y).mono (by decide)) hr rfl Y.g_is_written (k_is_written Y) (b_is_written_ Y) takes_never (da_cons (yv 2) (da_cons (yglobS Y.c_PLACES) (da_cons de_int (da_cons de_int da_nil))))))) da_nil))))) (ds_one (ds_raiseY Y.r_NoText rfl tk)) ds_nil) (ds_one (ds_ret (de_callTy ct_tuple rfl Y.n_tuple (by with_unfolding_all rfl) (da_cons (de_lc (own := [("pair", 2)]) ct_name rfl hN (di_seq (yv 1)) (blkOk_by (by kernel_rfl)) (fun _ _ _ _ _ => yg 2 hN) (fun _ _ _ _ _ => dts_nil) (fun _ _ _ _ _ => (de_fn ((w_places_in Y).mono (by decide)) hr rfl Y.g_places_in (k_places_in Y) (b_places_in_ Y) takes_never (da_cons (yv 2) da_nil)))) da_nil))))))
theorem k_words_in : PySem.W.keepIn K (.ref Y.f_words_in) = true := Y.F_words_in.kp
theorem b_words_in_ : Binds K Y.fd_words_in ["text"] [] := Y.F_words_in.bindsN fun _ _ _ _ _ _ us hl => match us, hl with | [_], _ => rfl
theorem s_words_in : FnScope ["text", "word"] ["text"] (defScope (top 30)) := ⟨rfl, rfl, rfl, by decide +kernel, rfl, by decide +kernel, by decide +kernel⟩
theorem w_words_in : FnOk P w K mg base (L2.CX P w) 4 Y.f_words_in Y.fd_words_in ["text"] (spOf K mg m_words_in) := by
 have hN : (["text", "word"] : List Str).Nodup := (s_words_in Y).nd
 refine fn_ok Y.F_words_in (s_words_in Y) (fun _ _ _ _ => False) fun cdv A outer s H E hr => ?_
 have tk := takes_of (X := CxF P w K mg base ["text", "word"] "words_in" (defScope (top 30)) Y.f_words_in cdv A outer s H E) (E := E) rfl rfl rfl rfl
 exact (ds_one (ds_ret (de_callTy ct_tuple rfl Y.n_tuple (by with_unfolding_all rfl) (da_cons (de_lcX (own := [("word", 1)]) ct_name tk rfl rfl rfl hN (di_seq (de_met (T := .str) mm_split PySem.F.plainAttrs_str PySem.F.slot_str_split (by with_unfolding_all rfl) (yv 0) (by exact (da_cons de_str da_nil)))) (blkOk_by (by kernel_rfl)) (fun _ _ _ _ _ => yg 1 hN) (fun W _ _ _ _ _ xe tk => (de_fn ((w_word_in Y).mono (by decide)) hr rfl Y.g_word_in (k_word_in Y) (b_word_in_ Y) tk (da_cons (yv 1) da_nil)))) da_nil))))
theorem k_paper_by : PySem.W.keepIn K (.ref Y.f_paper_by) = true := Y.F_paper_by.kp
theorem b_paper_by_ : Binds K Y.fd_paper_by ["words"] [] := Y.F_paper_by.bindsN fun _ _ _ _ _ _ us hl => match us, hl with | [_], _ => rfl
theorem s_paper_by : FnScope ["words"] ["words"] (defScope (top 31)) := ⟨rfl, rfl, rfl, by decide +kernel, rfl, by decide +kernel, by decide +kernel⟩
theorem w_paper_by : FnOk P w K mg base (L2.CX P w) 5 Y.f_paper_by Y.fd_paper_by ["words"] (spOf K mg m_paper_by) := by
 have hN : (["words"] : List Str).Nodup := (s_paper_by Y).nd
 refine fn_ok Y.F_paper_by (s_paper_by Y) (fun _ _ _ _ => False) fun cdv A outer s H E hr => ?_
 have tk := takes_of (X := CxF P w K mg base ["words"] "paper_by" (defScope (top 31)) Y.f_paper_by cdv A outer s H E) (E := E) rfl rfl rfl rfl
 exact (ds_cons (ds_if (dt_w (dw_and (dt_cmp (og_eq hr.units) (de_ix (hu1 hr :) (yv 0) de_int) de_str (nomark _)) (dw_and1 (dt_cmp (og_eq hr.units) (de_callB cb_len rfl Y.n_len (by with_unfolding_all rfl) (da_cons (yv 0) da_nil)) de_int (nomark _))))) (ds_one (ds_ret (de_tup (da_cons de_str (da_cons (de_fz (de_fn ((w_rows_in Y).mono (by decide)) hr rfl Y.g_rows_in (k_rows_in Y) (b_rows_in_ Y) tk (da_cons (de_ix (hu1 hr :) (yv 0) de_int) (da_cons de_str da_nil)))) (da_cons (de_fz (de_fn ((w_word_in Y).mono (by decide)) hr rfl Y.g_word_in (k_word_in Y) (b_word_in_ Y) tk (da_cons (de_ix (hu1 hr :) (yv 0) de_int) da_nil))) (da_cons (de_fz (de_fn ((w_number_in Y).mono (by decide)) hr rfl Y.g_number_in (k_number_in Y) (b_number_in_ Y) tk (da_cons (de_ix (hu1 hr :) (yv 0) de_int) da_nil))) da_nil))))))) ds_nil) (ds_cons (ds_if (dt_w (dw_and (dt_cmp (og_eq hr.units) (de_ix (hu1 hr :) (yv 0) de_int) de_str (nomark _)) (dw_and1 (dt_cmp (og_eq hr.units) (de_callB cb_len rfl Y.n_len (by with_unfolding_all rfl) (da_cons (yv 0) da_nil)) de_int (nomark _))))) (ds_one (ds_ret (de_tup (da_cons de_str (da_cons (de_fz (de_fn ((w_number_in Y).mono (by decide)) hr rfl Y.g_number_in (k_number_in Y) (b_number_in_ Y) tk (da_cons (de_ix (hu1 hr :) (yv 0) de_int) da_nil))) (da_cons (de_fz (de_fn ((w_numbers_in Y).mono (by decide)) hr rfl Y.g_numbers_in (k_numbers_in Y) (b_numbers_in_ Y) tk (da_cons (de_ix (hu1 hr :) (yv 0) de_int) da_nil))) da_nil)))))) ds_nil) (ds_cons (ds_if (dt_w (dw_and (dt_cmp (og_eq hr.units) (de_ix (hu1 hr :) (yv 0) de_int) de_str (nomark _)) (dw_and1 (dt_cmp (og_eq hr.units) (de_callB cb_len rfl Y.n_len (by with_unfolding_all rfl) (da_cons (yv 0) da_nil)) de_int (nomark _))))) (ds_one (ds_ret (de_tup (da_cons de_str (da_cons (de_fz (de_fn ((w_pairs_in Y).mono (by decide)) hr rfl Y.g_pairs_in (k_pairs_in Y) (b_pairs_in_ Y) tk (da_cons (de_ix (hu1 hr :) (yv 0) de_int) da_nil))) da_nil))))) ds_nil) (ds_cons (ds_if (dt_w (dw_and (dt_cmp (og_eq hr.units) (de_ix (hu1 hr :) (yv 0) de_int) de_str (nomark _)) (dw_and1 (dt_cmp (og_eq hr.units) (de_callB cb_len rfl Y.n_len (by with_unfolding_all rfl) (da_cons (yv 0) da_nil)) de_int (nomark _))))) (ds_one (ds_ret (de_tup (da_cons de_str (da_cons (de_fz (de_fn ((w_pairs_in Y).mono (by decide)) hr rfl Y.g_pairs_in (k_pairs_in Y) (b_pairs_in_ Y) tk (da_cons (de_ix (hu1 hr :) (yv 0) de_int) da_nil))) (da_cons (de_fz (de_fn ((w_words_in Y).mono (by decide)) hr rfl Y.g_words_in (k_words_in Y) (b_words_in_ Y) tk (da_cons (de_ix (hu1 hr :) (yv 0) de_int) da_nil))) da_nil)))))) ds_nil) (ds_one (ds_raiseY Y.r_NoText rfl tk))))))
theorem k_read_paper : PySem.W.keepIn K (.ref Y.f_read_paper) = true := Y.F_read_paper.kp
theorem b_read_paper_ : Binds K Y.fd_read_paper ["text"] [] := Y.F_read_paper.bindsN fun _ _ _ _ _ _ us hl => match us, hl with | [_], _ => rfl
theorem s_read_paper : FnScope ["text"] ["text"] (defScope (top 32)) := ⟨rfl, rfl, rfl, by decide +kernel, rfl, by decide +kernel, by decide +kernel⟩
theorem w_read_paper : FnOk P w K mg base (L2.CX P w) 6 Y.f_read_paper Y.fd_read_paper ["text"] (spOf K mg m_read_paper) := by
 have hN : (["text"] : List Str).Nodup := (s_read_paper Y).nd
 refine fn_ok Y.F_read_paper (s_read_paper Y) (fun _ _ _ _ => False) fun cdv A outer s H E hr => ?_
 have tk := takes_of (X := CxF P w K mg base ["text"] "read_paper" (defScope (top 32)) Y.f_read_paper cdv A outer s H E) (E := E) rfl rfl rfl rfl
 exact (ds_cons (ds_if (dt_not (dt_val (de_isi .str (yv 0) rfl Y.n_isinstance rfl Y.n_str (by with_unfolding_all rfl)))) (ds_one (ds_raiseY Y.r_NoText rfl tk)) ds_nil) (ds_one (ds_ret (de_fn ((w_paper_by Y).mono (by decide)) hr rfl Y.g_paper_by (k_paper_by Y) (b_paper_by_ Y) tk (da_cons (de_met (T := .str) mm_split PySem.F.plainAttrs_str PySem.F.slot_str_split (by with_unfolding_all rfl) (yv 0) (by exact (da_cons de_str da_nil))) da_nil)))))
theorem k__law_bag : PySem.W.keepIn K (.ref Y.f__law_bag) = true := Y.F__law_bag.kp
theorem b__law_bag_ : Binds K Y.fd__law_bag ["_law_script", "_law_at"] [] := Y.F__law_bag.bindsN fun _ _ _ _ _ _ us hl => match us, hl with | [_, _], _ => rfl
theorem s__law_bag : FnScope ["_law_script", "_law_at", "_law_cell", "_law_mix", "_law_k"] ["_law_script", "_law_at"] (defScope (top 34)) := ⟨rfl, rfl, rfl, by decide +kernel, rfl, by decide +kernel, by decide +kernel⟩
theorem w__law_bag : FnOk P w K mg base (L2.CX P w) 1 Y.f__law_bag Y.fd__law_bag ["_law_script", "_law_at"] (spOf K mg m__law_bag) := by
 have hN : (["_law_script", "_law_at", "_law_cell", "_law_mix", "_law_k"] : List Str).Nodup := (s__law_bag Y).nd
 refine fn_ok Y.F__law_bag (s__law_bag Y) (fun _ _ _ _ => False) fun cdv A outer s H E hr => ?_
 have tk := takes_of (X := CxF P w K mg base ["_law_script", "_law_at", "_law_cell", "_law_mix", "_law_k"] "_law_bag" (defScope (top 34)) Y.f__law_bag cdv A outer s H E) (E := E) rfl rfl rfl rfl
 exact (ds_cons (yset 2 hN de_int) (ds_cons (ds_if (dt_cmp (og_lt hr.units) (yv 1) (de_callB cb_len rfl Y.n_len (by with_unfolding_all rfl) (da_cons (yv 0) da_nil)) (nomark _)) (ds_one (yset 2 hN (de_callB cb_abs rfl Y.n_abs (by with_unfolding_all rfl) (da_cons (de_ix (hu1 hr :) (yv 0) (yv 1)) da_nil)))) ds_nil) (ds_cons (yset 3 hN (de_op og_add (de_op og_mul de_int (yv 1)) de_int)) (ds_cons (ds_for (passes_of rfl) rfl (di_rng1 rfl Y.n_range (da_cons (de_callB (cb_min rfl) rfl Y.n_min (by with_unfolding_all rfl) (da_cons (de_callB cb_len rfl Y.n_len (by with_unfolding_all rfl) (da_cons (yv 0) da_nil)) (da_cons de_int da_nil))) da_nil)) (ysetg 4 hN) (ds_one (yset 3 hN (de_op og_mod (de_op og_add (de_op og_add (de_op og_mul (yv 3) de_int) (de_op og_mod (de_ix (hu1 hr :) (yv 0) (yv 4)) de_int)) (yv 4)) de_int)))) (ds_cons (ds_if (dt_cmp (og_lt hr.units) (yv 2) (de_op og_pow de_int de_int) (nomark _)) (ds_one (yset 2 hN de_int)) ds_nil) (ds_one (ds_ret (de_lst (da_cons (de_fz (yv 2)) (da_cons (de_fz (yv 3)) da_nil))))))))))
theorem k__law_take : PySem.W.keepIn K (.ref Y.f__law_take) = true := Y.F__law_take.kp
theorem b__law_take_ : Binds K Y.fd__law_take ["_law_bag_here", "_law_many"] [] := Y.F__law_take.bindsN fun _ _ _ _ _ _ us hl => match us, hl with | [_, _], _ => rfl
theorem s__law_take : FnScope ["_law_bag_here", "_law_many", "_law_digit", "_law_number_here", "_law_room"] ["_law_bag_here", "_law_many"] (defScope (top 35)) := ⟨rfl, rfl, rfl, by decide +kernel, rfl, by decide +kernel, by decide +kernel⟩
theorem w__law_take : FnOk P w K mg base (L2.CX P w) 1 Y.f__law_take Y.fd__law_take ["_law_bag_here", "_law_many"] (spOf K mg m__law_take) := by
 have hN : (["_law_bag_here", "_law_many", "_law_digit", "_law_number_here", "_law_room"] : List Str).Nodup := (s__law_take Y).nd
 refine fn_ok Y.F__law_take (s__law_take Y) (fun _ _ _ _ => False) fun cdv A outer s H E hr => ?_
 have tk := takes_of (X := CxF P w K mg base ["_law_bag_here", "_law_many", "_law_digit", "_law_number_here", "_law_room"] "_law_take" (defScope (top 35)) Y.f__law_take cdv A outer s H E) (E := E) rfl rfl rfl rfl
 exact (ds_cons (ds_if (dt_cmp (og_gt hr.units) (de_ix (hu1 hr :) (yv 0) de_int) de_int (nomark _)) (ds_cons (yset 2 hN (de_op og_mod (de_ix (hu1 hr :) (yv 0) de_int) (yv 1))) (ds_cons (ds_asg (de_op og_fdiv (de_ix (hu1 hr :) (yv 0) de_int) (yv 1)) (dg_st (hu1 hr :) (yv 0) de_int)) (ds_one (ds_ret (de_mv (yv 2)))))) ds_nil) (ds_cons (yset 3 hN de_int) (ds_cons (yset 4 hN de_int) (ds_cons (ds_while (passes_of rfl) (dt_cmp (og_lt hr.units) (yv 4) (yv 1) (nomark _)) (ds_cons (ds_asg (de_op og_mod (de_op og_add (de_op og_mul (de_ix (hu1 hr :) (yv 0) de_int) de_int) de_int) de_int) (dg_st (hu1 hr :) (yv 0) de_int)) (ds_cons (yset 3 hN (de_op og_add (de_op og_mul (yv 3) de_int) (de_op og_mod (de_op og_mul (de_op og_fdiv (de_ix (hu1 hr :) (yv 0) de_int) de_int) de_int) de_int))) (ds_one (yset 4 hN (de_op og_mul (yv 4) de_int)))))) (ds_one (ds_ret (de_op og_mod (yv 3) (yv 1))))))))
theorem k__law_figures : PySem.W.keepIn K (.ref Y.f__law_figures) = true := Y.F__law_figures.kp
theorem b__law_figures_ : Binds K Y.fd__law_figures ["_law_bag_here", "_law_many", "_law_most"] [] := Y.F__law_figures.bindsN fun _ _ _ _ _ _ us hl => match us, hl with | [_, _, _], _ => rfl
theorem s__law_figures : FnScope ["_law_bag_here", "_law_many", "_law_most", "_law_text_here", "_law_k"] ["_law_bag_here", "_law_many", "_law_most"] (defScope (top 36)) := ⟨rfl, rfl, rfl, by decide +kernel, rfl, by decide +kernel, by decide +kernel⟩
theorem w__law_figures : FnOk P w K mg base (L2.CX P w) 2 Y.f__law_figures Y.fd__law_figures ["_law_bag_here", "_law_many", "_law_most"] (spOf K mg m__law_figures) := by
 have hN : (["_law_bag_here", "_law_many", "_law_most", "_law_text_here", "_law_k"] : List Str).Nodup := (s__law_figures Y).nd
 refine fn_ok Y.F__law_figures (s__law_figures Y) (fun _ _ _ _ => False) fun cdv A outer s H E hr => ?_
 have tk := takes_of (X := CxF P w K mg base ["_law_bag_here", "_law_many", "_law_most", "_law_text_here", "_law_k"] "_law_figures" (defScope (top 36)) Y.f__law_figures cdv A outer s H E) (E := E) rfl rfl rfl rfl
 exact (ds_cons (yset 3 hN de_str) (ds_cons (ds_for (passes_of rfl) rfl (di_rng1 rfl Y.n_range (da_cons (yv 1) da_nil)) (ysetg 4 hN) (ds_one (yset 3 hN (de_op og_add (yv 3) (de_ix (hu1 hr :) de_str (de_fn ((w__law_take Y).mono (by decide)) hr rfl Y.g__law_take (k__law_take Y) (b__law_take_ Y) tk (da_cons (yv 0) (da_cons (yv 2) da_nil)))))))) (ds_one (ds_ret (de_mv (yv 3))))))
theorem k__law_said : PySem.W.keepIn K (.ref Y.f__law_said) = true := Y.F__law_said.kp
theorem b__law_said_ : Binds K Y.fd__law_said ["_law_bag_here"] [] := Y.F__law_said.bindsN fun _ _ _ _ _ _ us hl => match us, hl with | [_], _ => rfl
theorem s__law_said : FnScope ["_law_bag_here", "_law_word", "_law_k"] ["_law_bag_here"] (defScope (top 37)) := ⟨rfl, rfl, rfl, by decide +kernel, rfl, by decide +kernel, by decide +kernel⟩
theorem w__law_said : FnOk P w K mg base (L2.CX P w) 2 Y.f__law_said Y.fd__law_said ["_law_bag_here"] (spOf K mg m__law_said) := by
 have hN : (["_law_bag_here", "_law_word", "_law_k"] : List Str).Nodup := (s__law_said Y).nd
 refine fn_ok Y.F__law_said (s__law_said Y) (fun _ _ _ _ => False) fun cdv A outer s H E hr => ?_
 have tk := takes_of (X := CxF P w K mg base ["_law_bag_here", "_law_word", "_law_k"] "_law_said" (defScope (top 37)) Y.f__law_said cdv A outer s H E) (E := E) rfl rfl rfl rfl
 exact (ds_cons (yset 1 hN de_str) (ds_cons (ds_for (passes_of rfl) rfl (di_rng1 rfl Y.n_range (da_cons (de_fn ((w__law_take Y).mono (by decide)) hr rfl Y.g__law_take (k__law_take Y) (b__law_take_ Y) tk (da_cons (yv 0) (da_cons de_int da_nil))) da_nil)) (ysetg 2 hN) (ds_one (yset 1 hN (de_op og_add (yv 1) (de_ix (hu1 hr :) de_str (de_fn ((w__law_take Y).mono (by decide)) hr rfl Y.g__law_take (k__law_take Y) (b__law_take_ Y) tk (da_cons (yv 0) (da_cons de_int da_nil)))))))) (ds_cons (ds_if (dt_cmp (og_eq hr.units) (de_fn ((w__law_take Y).mono (by decide)) hr rfl Y.g__law_take (k__law_take Y) (b__law_take_ Y) tk (da_cons (yv 0) (da_cons de_int da_nil))) de_int (nomark _)) (ds_one (yset 1 hN (de_op og_mul de_str (de_op og_add de_int (de_fn ((w__law_take Y).mono (by decide)) hr rfl Y.g__law_take (k__law_take Y) (b__law_take_ Y) tk (da_cons (yv 0) (da_cons de_int da_nil))))))) ds_nil) (ds_one (ds_ret (de_fz (de_if (dt_cmp (og_ne hr.units) (yv 1) de_str (nomark _)) (de_fz (yv 1)) de_str)))))))
theorem k__law_number : PySem.W.keepIn K (.ref Y.f__law_number) = true := Y.F__law_number.kp
theorem b__law_number_ : Binds K Y.fd__law_number ["_law_bag_here"] [] := Y.F__law_number.bindsN fun _ _ _ _ _ _ us hl => match us, hl with | [_], _ => rfl
theorem s__law_number : FnScope ["_law_bag_here"] ["_law_bag_here"] (defScope (top 38)) := ⟨rfl, rfl, rfl, by decide +kernel, rfl, by decide +kernel, by decide +kernel⟩
theorem w__law_number : FnOk P w K mg base (L2.CX P w) 2 Y.f__law_number Y.fd__law_number ["_law_bag_here"] (spOf K mg m__law_number_2) := by
 have hN : (["_law_bag_here"] : List Str).Nodup := (s__law_number Y).nd
 refine fn_ok Y.F__law_number (s__law_number Y) (fun _ _ _ _ => False) fun cdv A outer s H E hr => ?_
 have tk := takes_of (X := CxF P w K mg base ["_law_bag_here"] "_law_number" (defScope (top 38)) Y.f__law_number cdv A outer s H E) (E := E) rfl rfl rfl rfl
 exact (ds_one (ds_ret (de_callTy ct_str rfl Y.n_str (by with_unfolding_all rfl) (da_cons (de_ix (hu1 hr :) (de_lst (da_cons (de_fn ((w__law_take Y).mono (by decide)) hr rfl Y.g__law_take (k__law_take Y) (b__law_take_ Y) tk (da_cons (yv 0) (da_cons de_int da_nil))) (da_cons (de_fn ((w__law_take Y).mono (by decide)) hr rfl Y.g__law_take (k__law_take Y) (b__law_take_ Y) tk (da_cons (yv 0) (da_cons (de_op og_pow de_int de_int) da_nil))) (da_cons de_int (da_cons (de_fn ((w__law_take Y).mono (by decide)) hr rfl Y.g__law_take (k__law_take Y) (b__law_take_ Y) tk (da_cons (yv 0) (da_cons de_int da_nil))) da_nil))))) (de_fn ((w__law_take Y).mono (by decide)) hr rfl Y.g__law_take (k__law_take Y) (b__law_take_ Y) tk (da_cons (yv 0) (da_cons de_int da_nil)))) da_nil))))
theorem k__law_text : PySem.W.keepIn K (.ref Y.f__law_text) = true := Y.F__law_text.kp
theorem b__law_text_ : Binds K Y.fd__law_text ["_law_bag_here"] [] := Y.F__law_text.bindsN fun _ _ _ _ _ _ us hl => match us, hl with | [_], _ => rfl
theorem s__law_text : FnScope ["_law_bag_here", "_law_kind", "_law_many", "_law_ways", "_law_rows", "_law_k", "_law_pairs", "_law_said_here"] ["_law_bag_here"] (defScope (top 39)) := ⟨rfl, rfl, rfl, by decide +kernel, rfl, by decide +kernel, by decide +kernel⟩
theorem w__law_text : FnOk P w K mg base (L2.CX P w) 3 Y.f__law_text Y.fd__law_text ["_law_bag_here"] (spOf K mg m__law_text_2) := by
 have hN : (["_law_bag_here", "_law_kind", "_law_many", "_law_ways", "_law_rows", "_law_k", "_law_pairs", "_law_said_here"] : List Str).Nodup := (s__law_text Y).nd
 refine fn_ok Y.F__law_text (s__law_text Y) (fun _ _ _ _ => False) fun cdv A outer s H E hr => ?_
 have tk := takes_of (X := CxF P w K mg base ["_law_bag_here", "_law_kind", "_law_many", "_law_ways", "_law_rows", "_law_k", "_law_pairs", "_law_said_here"] "_law_text" (defScope (top 39)) Y.f__law_text cdv A outer s H E) (E := E) rfl rfl rfl rfl
 exact (ds_cons (yset 1 hN (de_fn ((w__law_take Y).mono (by decide)) hr rfl Y.g__law_take (k__law_take Y) (b__law_take_ Y) tk (da_cons (yv 0) (da_cons de_int da_nil)))) (ds_cons (yset 2 hN (de_op og_add (de_op og_add de_int (de_fn ((w__law_take Y).mono (by decide)) hr rfl Y.g__law_take (k__law_take Y) (b__law_take_ Y) tk (da_cons (yv 0) (da_cons de_int da_nil)))) (de_callTy ct_int rfl Y.n_int (by with_unfolding_all rfl) (da_cons (de_cmp (og_eq hr.units) (de_fn ((w__law_take Y).mono (by decide)) hr rfl Y.g__law_take (k__law_take Y) (b__law_take_ Y) tk (da_cons (yv 0) (da_cons de_int da_nil))) de_int (nomark _)) da_nil)))) (ds_cons (ds_if (dt_cmp (og_eq hr.units) (yv 1) de_int (nomark _)) (ds_cons (yset 3 hN (de_op og_add de_int (de_fn ((w__law_take Y).mono (by decide)) hr rfl Y.g__law_take (k__law_take Y) (b__law_take_ Y) tk (da_cons (yv 0) (da_cons de_int da_nil))))) (ds_cons (ds_setLc (own := [("_law_k", 5)]) ct_name rfl hN rfl rfl rfl (di_rng1 rfl Y.n_range (da_cons (yv 2) da_nil)) (blkOk_by (by kernel_rfl)) (fun _ _ _ _ _ => yg 5 hN) (fun _ _ _ _ _ => dts_nil) (fun _ _ _ _ _ => (de_fn ((w__law_figures Y).mono (by decide)) hr rfl Y.g__law_figures (k__law_figures Y) (b__law_figures_ Y) takes_never (da_cons (yv 0) (da_cons (yv 3) (da_cons de_int da_nil)))))) (ds_cons (ds_if (dt_cmp (og_eq hr.units) (de_fn ((w__law_take Y).mono (by decide)) hr rfl Y.g__law_take (k__law_take Y) (b__law_take_ Y) tk (da_cons (yv 0) (da_cons de_int da_nil))) de_int (nomark _)) (ds_one (ds_expr (de_append (yv 4) (de_fn ((w__law_figures Y).mono (by decide)) hr rfl Y.g__law_figures (k__law_figures Y) (b__law_figures_ Y) tk (da_cons (yv 0) (da_cons (de_op og_sub de_int (yv 3)) (da_cons de_int da_nil))))))) ds_nil) (ds_one (ds_ret (de_op og_add (de_op og_add (de_op og_add (de_op og_add (de_op og_add de_str (de_met (T := .str) mm_join PySem.F.plainAttrs_str PySem.F.slot_str_join (by with_unfolding_all rfl) de_str (by exact (da_cons (yv 4) da_nil)))) de_str) (de_fn ((w__law_said Y).mono (by decide)) hr rfl Y.g__law_said (k__law_said Y) (b__law_said_ Y) tk (da_cons (yv 0) da_nil))) de_str) (de_fn ((w__law_number Y).mono (by decide)) hr rfl Y.g__law_number (k__law_number Y) (b__law_number_ Y) tk (da_cons (yv 0) da_nil)))))))) ds_nil) (ds_cons (ds_if (dt_cmp (og_eq hr.units) (yv 1) de_int (nomark _)) (ds_one (ds_ret (de_op og_add (de_op og_add (de_op og_add de_str (de_fn ((w__law_number Y).mono (by decide)) hr rfl Y.g__law_number (k__law_number Y) (b__law_number_ Y) tk (da_cons (yv 0) da_nil))) de_str) (de_fn ((w__law_figures Y).mono (by decide)) hr rfl Y.g__law_figures (k__law_figures Y) (b__law_figures_ Y) tk (da_cons (yv 0) (da_cons (yv 2) (da_cons de_int da_nil))))))) ds_nil) (ds_cons (yset 6 hN (de_met (T := .str) mm_join PySem.F.plainAttrs_str PySem.F.slot_str_join (by with_unfolding_all rfl) de_str (by exact (da_cons (de_lc (own := [("_law_k", 5)]) ct_name rfl hN (di_rng1 rfl Y.n_range (da_cons (yv 2) da_nil)) (blkOk_by (by kernel_rfl)) (fun _ _ _ _ _ => yg 5 hN) (fun _ _ _ _ _ => dts_nil) (fun _ _ _ _ _ => (de_fn ((w__law_figures Y).mono (by decide)) hr rfl Y.g__law_figures (k__law_figures Y) (b__law_figures_ Y) takes_never (da_cons (yv 0) (da_cons de_int (da_cons de_int da_nil)))))) da_nil)))) (ds_cons (ds_if (dt_cmp (og_eq hr.units) (yv 1) de_int (nomark _)) (ds_one (ds_ret (de_op og_add de_str (yv 6)))) ds_nil) (ds_cons (yset 7 hN (de_op og_add (yv 2) (de_fn ((w__law_take Y).mono (by decide)) hr rfl Y.g__law_take (k__law_take Y) (b__law_take_ Y) tk (da_cons (yv 0) (da_cons de_int da_nil))))) (ds_one (ds_ret (de_op og_add (de_op og_add (de_op og_add de_str (yv 6)) de_str) (de_met (T := .str) mm_join PySem.F.plainAttrs_str PySem.F.slot_str_join (by with_unfolding_all rfl) de_str (by exact (da_cons (de_lc (own := [("_law_k", 5)]) ct_name rfl hN (di_rng1 rfl Y.n_range (da_cons (yv 7) da_nil)) (blkOk_by (by kernel_rfl)) (fun _ _ _ _ _ => yg 5 hN) (fun _ _ _ _ _ => dts_nil) (fun _ _ _ _ _ => (de_fn ((w__law_said Y).mono (by decide)) hr rfl Y.g__law_said (k__law_said Y) (b__law_said_ Y) takes_never (da_cons (yv 0) da_nil)))) da_nil)))))))))))))
theorem k__law_changed : PySem.W.keepIn K (.ref Y.f__law_changed) = true := Y.F__law_changed.kp
theorem b__law_changed_ : Binds K Y.fd__law_changed ["_law_bag_here", "_law_text_here"] [] := Y.F__law_changed.bindsN fun _ _ _ _ _ _ us hl => match us, hl with | [_, _], _ => rfl
theorem s__law_changed : FnScope ["_law_bag_here", "_law_text_here", "_law_at", "_law_sign", "_law_how"] ["_law_bag_here", "_law_text_here"] (defScope (top 40)) := ⟨rfl, rfl, rfl, by decide +kernel, rfl, by decide +kernel, by decide +kernel⟩
theorem w__law_changed : FnOk P w K mg base (L2.CX P w) 2 Y.f__law_changed Y.fd__law_changed ["_law_bag_here", "_law_text_here"] (spOf K mg m__law_changed_4) := by
 have hN : (["_law_bag_here", "_law_text_here", "_law_at", "_law_sign", "_law_how"] : List Str).Nodup := (s__law_changed Y).nd
 refine fn_ok Y.F__law_changed (s__law_changed Y) (fun _ _ _ _ => False) fun cdv A outer s H E hr => ?_
 have tk := takes_of (X := CxF P w K mg base ["_law_bag_here", "_law_text_here", "_law_at", "_law_sign", "_law_how"] "_law_changed" (defScope (top 40)) Y.f__law_changed cdv A outer s H E) (E := E) rfl rfl rfl rfl
 exact (ds_cons (yset 2 hN (de_fn ((w__law_take Y).mono (by decide)) hr rfl Y.g__law_take (k__law_take Y) (b__law_take_ Y) tk (da_cons (yv 0) (da_cons (de_callB cb_len rfl Y.n_len (by with_unfolding_all rfl) (da_cons (yv 1) da_nil)) da_nil)))) (ds_cons (yset 3 hN (de_fz (de_ix (hu1 hr :) de_str (de_fn ((w__law_take Y).mono (by decide)) hr rfl Y.g__law_take (k__law_take Y) (b__law_take_ Y) tk (da_cons (yv 0) (da_cons de_int da_nil)))))) (ds_cons (yset 4 hN (de_fn ((w__law_take Y).mono (by decide)) hr rfl Y.g__law_take (k__law_take Y) (b__law_take_ Y) tk (da_cons (yv 0) (da_cons de_int da_nil)))) (ds_cons (ds_if (dt_cmp (og_eq hr.units) (yv 4) de_int (nomark _)) (ds_one (ds_ret (de_fz (de_op og_add (de_sl (yv 1) do_none (do_some (yv 2))) (de_sl (yv 1) (do_some (de_op og_add (yv 2) de_int)) do_none))))) ds_nil) (ds_cons (ds_if (dt_cmp (og_eq hr.units) (yv 4) de_int (nomark _)) (ds_one (ds_ret (de_fz (de_op og_add (de_op og_add (de_sl (yv 1) do_none (do_some (yv 2))) (yv 3)) (de_sl (yv 1) (do_some (de_op og_add (yv 2) de_int)) do_none))))) ds_nil) (ds_one (ds_ret (de_fz (de_op og_add (de_op og_add (de_sl (yv 1) do_none (do_some (yv 2))) (yv 3)) (de_sl (yv 1) (do_some (yv 2)) do_none))))))))))
theorem k__law_is_of : PySem.W.keepIn K (.ref Y.f__law_is_of) = true := Y.F__law_is_of.kp
theorem b__law_is_of_ : Binds K Y.fd__law_is_of ["_law_text_here", "_law_signs", "_law_least", "_law_most"] [] := Y.F__law_is_of.bindsN fun _ _ _ _ _ _ us hl => match us, hl with | [_, _, _, _], _ => rfl
theorem s__law_is_of : FnScope ["_law_text_here", "_law_signs", "_law_least", "_law_most", "_law_sign"] ["_law_text_here", "_law_signs", "_law_least", "_law_most"] (defScope (top 41)) := ⟨rfl, rfl, rfl, by decide +kernel, rfl, by decide +kernel, by decide +kernel⟩
theorem w__law_is_of : FnOk P w K mg base (L2.CX P w) 1 Y.f__law_is_of Y.fd__law_is_of ["_law_text_here", "_law_signs", "_law_least", "_law_most"] (spOf K mg m__law_is_of) := by
 have hN : (["_law_text_here", "_law_signs", "_law_least", "_law_most", "_law_sign"] : List Str).Nodup := (s__law_is_of Y).nd
 refine fn_ok Y.F__law_is_of (s__law_is_of Y) (fun _ _ _ _ => False) fun cdv A outer s H E hr => ?_
 have tk := takes_of (X := CxF P w K mg base ["_law_text_here", "_law_signs", "_law_least", "_law_most", "_law_sign"] "_law_is_of" (defScope (top 41)) Y.f__law_is_of cdv A outer s H E) (E := E) rfl rfl rfl rfl
 exact (ds_one (ds_ret (de_and (de_chain (og_le hr.units) (og_le hr.units) (yv 2) (de_callB cb_len rfl Y.n_len (by with_unfolding_all rfl) (da_cons (yv 0) da_nil)) (yv 3)) (de_one (de_cmp (og_eq hr.units) (de_lc (own := [("_law_sign", 4)]) ct_name rfl hN (di_seq (yv 0)) (blkOk_by (by kernel_rfl)) (fun _ _ _ _ _ => yg 4 hN) (fun _ _ _ _ _ => dts_one (dt_cmp (og_notIn (hu65 hr :)) (yv 4) (yv 1) rfl)) (fun _ _ _ _ _ => (de_fz (yv 4)))) (de_lst da_nil) (nomark _))))))
theorem k__law_is_number : PySem.W.keepIn K (.ref Y.f__law_is_number) = true := Y.F__law_is_number.kp
theorem b__law_is_number_ : Binds K Y.fd__law_is_number ["_law_text_here"] [] := Y.F__law_is_number.bindsN fun _ _ _ _ _ _ us hl => match us, hl with | [_], _ => rfl
theorem s__law_is_number : FnScope ["_law_text_here"] ["_law_text_here"] (defScope (top 42)) := ⟨rfl, rfl, rfl, by decide +kernel, rfl, by decide +kernel, by decide +kernel⟩
theorem w__law_is_number : FnOk P w K mg base (L2.CX P w) 2 Y.f__law_is_number Y.fd__law_is_number ["_law_text_here"] (spOf K mg m__law_is_number) := by
 have hN : (["_law_text_here"] : List Str).Nodup := (s__law_is_number Y).nd
 refine fn_ok Y.F__law_is_number (s__law_is_number Y) (fun _ _ _ _ => False) fun cdv A outer s H E hr => ?_
 have tk := takes_of (X := CxF P w K mg base ["_law_text_here"] "_law_is_number" (defScope (top 42)) Y.f__law_is_number cdv A outer s H E) (E := E) rfl rfl rfl rfl
 exact (ds_one (ds_ret (de_and (de_fn ((w__law_is_of Y).mono (by decide)) hr rfl Y.g__law_is_of (k__law_is_of Y) (b__law_is_of_ Y) tk (da_cons (yv 0) (da_cons de_str (da_cons de_int (da_cons de_int da_nil))))) (de_one (de_or (de_cmp (og_ne hr.units) (de_ix (hu1 hr :) (yv 0) de_int) de_str (nomark _)) (de_one (de_cmp (og_eq hr.units) (yv 0) de_str (nomark _))))))))
theorem k__law_is_word : PySem.W.keepIn K (.ref Y.f__law_is_word) = true := Y.F__law_is_word.kp
theorem b__law_is_word_ : Binds K Y.fd__law_is_word ["_law_text_here"] [] := Y.F__law_is_word.bindsN fun _ _ _ _ _ _ us hl => match us, hl with | [_], _ => rfl
theorem s__law_is_word : FnScope ["_law_text_here"] ["_law_text_here"] (defScope (top 43)) := ⟨rfl, rfl, rfl, by decide +kernel, rfl, by decide +kernel, by decide +kernel⟩
theorem w__law_is_word : FnOk P w K mg base (L2.CX P w) 2 Y.f__law_is_word Y.fd__law_is_word ["_law_text_here"] (spOf K mg m__law_is_word_2) := by
 have hN : (["_law_text_here"] : List Str).Nodup := (s__law_is_word Y).nd
 refine fn_ok Y.F__law_is_word (s__law_is_word Y) (fun _ _ _ _ => False) fun cdv A outer s H E hr => ?_
 have tk := takes_of (X := CxF P w K mg base ["_law_text_here"] "_law_is_word" (defScope (top 43)) Y.f__law_is_word cdv A outer s H E) (E := E) rfl rfl rfl rfl
 exact (ds_one (ds_ret (de_or (de_cmp (og_eq hr.units) (yv 0) de_str (nomark _)) (de_one (de_fn ((w__law_is_of Y).mono (by decide)) hr rfl Y.g__law_is_of (k__law_is_of Y) (b__law_is_of_ Y) tk (da_cons (yv 0) (da_cons de_str (da_cons de_int (da_cons de_int da_nil)))))))))
theorem k__law_tuples : PySem.W.keepIn K (.ref Y.f__law_tuples) = true := Y.F__law_tuples.kp
theorem b__law_tuples_ : Binds K Y.fd__law_tuples ["_law_texts"] [] := Y.F__law_tuples.bindsN fun _ _ _ _ _ _ us hl => match us, hl with | [_], _ => rfl
theorem s__law_tuples : FnScope ["_law_texts", "_law_sign", "_law_text_here"] ["_law_texts"] (defScope (top 44)) := ⟨rfl, rfl, rfl, by decide +kernel, rfl, by decide +kernel, by decide +kernel⟩
theorem w__law_tuples : FnOk P w K mg base (L2.CX P w) 1 Y.f__law_tuples Y.fd__law_tuples ["_law_texts"] (spOf K mg m__law_tuples) := by
 have hN : (["_law_texts", "_law_sign", "_law_text_here"] : List Str).Nodup := (s__law_tuples Y).nd
 refine fn_ok Y.F__law_tuples (s__law_tuples Y) (fun _ _ _ _ => False) fun cdv A outer s H E hr => ?_
 have tk := takes_of (X := CxF P w K mg base ["_law_texts", "_law_sign", "_law_text_here"] "_law_tuples" (defScope (top 44)) Y.f__law_tuples cdv A outer s H E) (E := E) rfl rfl rfl rfl
 exact (ds_one (ds_ret (de_callTy ct_tuple rfl Y.n_tuple (by with_unfolding_all rfl) (da_cons (de_lc (own := [("_law_text_here", 2)]) ct_name rfl hN (di_seq (yv 0)) (blkOk_by (by kernel_rfl)) (fun _ _ _ _ _ => yg 2 hN) (fun _ _ _ _ _ => dts_nil) (fun _ _ _ _ _ => (de_callTy ct_tuple rfl Y.n_tuple (by with_unfolding_all rfl) (da_cons (de_lc (own := [("_law_sign", 1)]) ct_name rfl hN (di_seq (yv 2)) (blkOk_by (by kernel_rfl)) (fun _ _ _ _ _ => yg 1 hN) (fun _ _ _ _ _ => dts_nil) (fun _ _ _ _ _ => (de_callTy ct_int rfl Y.n_int (by with_unfolding_all rfl) (da_cons (yv 1) da_nil)))) da_nil)))) da_nil))))
theorem k__law_words : PySem.W.keepIn K (.ref Y.f__law_words) = true := Y.F__law_words.kp
theorem b__law_words_ : Binds K Y.fd__law_words ["_law_texts"] [] := Y.F__law_words.bindsN fun _ _ _ _ _ _ us hl => match us, hl with | [_], _ => rfl
theorem s__law_words : FnScope ["_law_texts", "_law_text_here"] ["_law_texts"] (defScope (top 45)) := ⟨rfl, rfl, rfl, by decide +kernel, rfl, by decide +kernel, by decide +kernel⟩
theorem w__law_words : FnOk P w K mg base (L2.CX P w) 1 Y.f__law_words Y.fd__law_words ["_law_texts"] (spOf K mg m__law_words) := by
 have hN : (["_law_texts", "_law_text_here"] : List Str).Nodup := (s__law_words Y).nd
 refine fn_ok Y.F__law_words (s__law_words Y) (fun _ _ _ _ => False) fun cdv A outer s H E hr => ?_
 have tk := takes_of (X := CxF P w K mg base ["_law_texts", "_law_text_here"] "_law_words" (defScope (top 45)) Y.f__law_words cdv A outer s H E) (E := E) rfl rfl rfl rfl
 exact (ds_one (ds_ret (de_callTy ct_tuple rfl Y.n_tuple (by with_unfolding_all rfl) (da_cons (de_lc (own := [("_law_text_here", 1)]) ct_name rfl hN (di_seq (yv 0)) (blkOk_by (by kernel_rfl)) (fun _ _ _ _ _ => yg 1 hN) (fun _ _ _ _ _ => dts_nil) (fun _ _ _ _ _ => (de_fz (de_ix (hu1 hr :) (de_lst (da_cons de_str (da_cons (de_fz (yv 1)) da_nil))) (de_callTy ct_int rfl Y.n_int (by with_unfolding_all rfl) (da_cons (de_cmp (og_ne hr.units) (yv 1) de_str (nomark _)) da_nil)))))) da_nil))))
theorem k__law_due : PySem.W.keepIn K (.ref Y.f__law_due) = true := Y.F__law_due.kp
theorem b__law_due_ : Binds K Y.fd__law_due ["_law_text_here"] [] := Y.F__law_due.bindsN fun _ _ _ _ _ _ us hl => match us, hl with | [_], _ => rfl
theorem s__law_due : FnScope ["_law_text_here", "_law_words_here", "_law_pieces", "_law_word", "_law_size", "_law_row", "_law_pair"] ["_law_text_here"] (defScope (top 46)) := ⟨rfl, rfl, rfl, by decide +kernel, rfl, by decide +kernel, by decide +kernel⟩
theorem w__law_due : FnOk P w K mg base (L2.CX P w) 3 Y.f__law_due Y.fd__law_due ["_law_text_here"] (spOf K mg m__law_due_11) := by
 have hN : (["_law_text_here", "_law_words_here", "_law_pieces", "_law_word", "_law_size", "_law_row", "_law_pair"] : List Str).Nodup := (s__law_due Y).nd
 refine fn_ok Y.F__law_due (s__law_due Y) (fun _ _ _ _ => False) fun cdv A outer s H E hr => ?_
 have tk := takes_of (X := CxF P w K mg base ["_law_text_here", "_law_words_here", "_law_pieces", "_law_word", "_law_size", "_law_row", "_law_pair"] "_law_due" (defScope (top 46)) Y.f__law_due cdv A outer s H E) (E := E) rfl rfl rfl rfl
 exact (ds_cons (yset 1 hN (de_met (T := .str) mm_split PySem.F.plainAttrs_str PySem.F.slot_str_split (by with_unfolding_all rfl) (yv 0) (by exact (da_cons de_str da_nil)))) (ds_cons (ds_setLcF (own := [("_law_word", 3)]) ct_name rfl hN rfl rfl rfl (di_seq (yv 1)) (blkOk_by (by kernel_rfl)) (fun _ _ _ _ _ => yg 3 hN) (fun _ _ _ _ _ => dts_nil) (fun _ _ _ _ _ => (de_met (T := .str) mm_split PySem.F.plainAttrs_str PySem.F.slot_str_split (by with_unfolding_all rfl) (yv 3) (by exact (da_cons de_str da_nil))))) (ds_cons (ds_if (dt_w (dw_and (dt_cmp (og_eq hr.units) (de_ix (hu1 hr :) (yv 1) de_int) de_str (nomark _)) (dw_and1 (dt_cmp (og_eq hr.units) (de_callB cb_len rfl Y.n_len (by with_unfolding_all rfl) (da_cons (yv 1) da_nil)) de_int (nomark _))))) (ds_cons (yset 4 hN (de_callB cb_len rfl Y.n_len (by with_unfolding_all rfl) (da_cons (de_ix (hu1 hr :) (de_ix (hu1 hr :) (yv 2) de_int) de_int) da_nil))) (ds_cons (ds_if (dt_w (dw_or (dt_cmp (og_notIn (hu65 hr :)) (yv 4) (de_tup (da_cons de_int (da_cons de_int da_nil))) rfl) (dw_or (dt_cmp (og_gt hr.units) (de_callB cb_len rfl Y.n_len (by with_unfolding_all rfl) (da_cons (de_ix (hu1 hr :) (yv 2) de_int) da_nil)) de_int (nomark _)) (dw_or (dt_not (dt_val (de_fn ((w__law_is_word Y).mono (by decide)) hr rfl Y.g__law_is_word (k__law_is_word Y) (b__law_is_word_ Y) tk (da_cons (de_ix (hu1 hr :) (yv 1) de_int) da_nil)))) (dw_or1 (dt_not (dt_val (de_fn ((w__law_is_number Y).mono (by decide)) hr rfl Y.g__law_is_number (k__law_is_number Y) (b__law_is_number_ Y) tk (da_cons (de_ix (hu1 hr :) (yv 1) de_int) da_nil))))))))) (ds_one (ds_ret de_non)) ds_nil) (ds_cons (ds_if (dt_cmp (og_ne hr.units) (de_lc (own := [("_law_row", 5)]) ct_name rfl hN (di_seq (de_ix (hu1 hr :) (yv 2) de_int)) (blkOk_by (by kernel_rfl)) (fun _ _ _ _ _ => yg 5 hN) (fun _ _ _ _ _ => dts_one (dt_not (dt_val (de_fn ((w__law_is_of Y).mono (by decide)) hr rfl Y.g__law_is_of (k__law_is_of Y) (b__law_is_of_ Y) takes_never (da_cons (yv 5) (da_cons de_str (da_cons (yv 4) (da_cons (yv 4) da_nil)))))))) (fun _ _ _ _ _ => (de_fz (yv 5)))) (de_lst da_nil) (nomark _)) (ds_one (ds_ret de_non)) ds_nil) (ds_one (ds_ret (de_tup (da_cons de_str (da_cons (de_fz (de_fn ((w__law_tuples Y).mono (by decide)) hr rfl Y.g__law_tuples (k__law_tuples Y) (b__law_tuples_ Y) tk (da_cons (de_ix (hu1 hr :) (yv 2) de_int) da_nil))) (da_cons (de_fz (de_ix (hu1 hr :) (de_fn ((w__law_words Y).mono (by decide)) hr rfl Y.g__law_words (k__law_words Y) (b__law_words_ Y) tk (da_cons (de_lst (da_cons (de_fz (de_ix (hu1 hr :) (yv 1) de_int)) da_nil)) da_nil)) de_int)) (da_cons (de_fz (de_callTy ct_int rfl Y.n_int (by with_unfolding_all rfl) (da_cons (de_ix (hu1 hr :) (yv 1) de_int) da_nil))) da_nil)))))))))) ds_nil) (ds_cons (ds_if (dt_w (dw_and (dt_cmp (og_eq hr.units) (de_ix (hu1 hr :) (yv 1) de_int) de_str (nomark _)) (dw_and1 (dt_cmp (og_eq hr.units) (de_callB cb_len rfl Y.n_len (by with_unfolding_all rfl) (da_cons (yv 1) da_nil)) de_int (nomark _))))) (ds_cons (ds_if (dt_w (dw_or (dt_not (dt_val (de_fn ((w__law_is_number Y).mono (by decide)) hr rfl Y.g__law_is_number (k__law_is_number Y) (b__law_is_number_ Y) tk (da_cons (de_ix (hu1 hr :) (yv 1) de_int) da_nil)))) (dw_or1 (dt_not (dt_val (de_fn ((w__law_is_of Y).mono (by decide)) hr rfl Y.g__law_is_of (k__law_is_of Y) (b__law_is_of_ Y) tk (da_cons (de_ix (hu1 hr :) (yv 1) de_int) (da_cons de_str (da_cons de_int (da_cons de_int da_nil)))))))))) (ds_one (ds_ret de_non)) ds_nil) (ds_one (ds_ret (de_tup (da_cons de_str (da_cons (de_fz (de_callTy ct_int rfl Y.n_int (by with_unfolding_all rfl) (da_cons (de_ix (hu1 hr :) (yv 1) de_int) da_nil))) (da_cons (de_fz (de_ix (hu1 hr :) (de_fn ((w__law_tuples Y).mono (by decide)) hr rfl Y.g__law_tuples (k__law_tuples Y) (b__law_tuples_ Y) tk (da_cons (de_lst (da_cons (de_fz (de_ix (hu1 hr :) (yv 1) de_int)) da_nil)) da_nil)) de_int)) da_nil))))))) ds_nil) (ds_cons (ds_if (dt_w (dw_or (dt_cmp (og_notIn (hu65 hr :)) (de_ix (hu1 hr :) (yv 1) de_int) (de_tup (da_cons de_str (da_cons de_str da_nil))) rfl) (dw_or1 (dt_cmp (og_ne hr.units) (de_callB cb_len rfl Y.n_len (by with_unfolding_all rfl) (da_cons (yv 1) da_nil)) (de_ix (hu1 hr :) (de_lst (da_cons de_int (da_cons de_int da_nil))) (de_callTy ct_int rfl Y.n_int (by with_unfolding_all rfl) (da_cons (de_cmp (og_eq hr.units) (de_ix (hu1 hr :) (yv 1) de_int) de_str (nomark _)) da_nil))) (nomark _))))) (ds_one (ds_ret de_non)) ds_nil) (ds_cons (ds_if (dt_cmp (og_ne hr.units) (de_lc (own := [("_law_pair", 6)]) ct_name rfl hN (di_seq (de_ix (hu1 hr :) (yv 2) de_int)) (blkOk_by (by kernel_rfl)) (fun _ _ _ _ _ => yg 6 hN) (fun _ _ _ _ _ => dts_one (dt_not (dt_val (de_fn ((w__law_is_of Y).mono (by decide)) hr rfl Y.g__law_is_of (k__law_is_of Y) (b__law_is_of_ Y) takes_never (da_cons (yv 6) (da_cons de_str (da_cons de_int (da_cons de_int da_nil)))))))) (fun _ _ _ _ _ => (de_fz (yv 6)))) (de_lst da_nil) (nomark _)) (ds_one (ds_ret de_non)) ds_nil) (ds_cons (ds_if (dt_cmp (og_eq hr.units) (de_ix (hu1 hr :) (yv 1) de_int) de_str (nomark _)) (ds_one (ds_ret (de_tup (da_cons de_str (da_cons (de_fz (de_fn ((w__law_tuples Y).mono (by decide)) hr rfl Y.g__law_tuples (k__law_tuples Y) (b__law_tuples_ Y) tk (da_cons (de_ix (hu1 hr :) (yv 2) de_int) da_nil))) da_nil))))) ds_nil) (ds_cons (ds_if (dt_cmp (og_ne hr.units) (de_lc (own := [("_law_word", 3)]) ct_name rfl hN (di_seq (de_ix (hu1 hr :) (yv 2) de_int)) (blkOk_by (by kernel_rfl)) (fun _ _ _ _ _ => yg 3 hN) (fun _ _ _ _ _ => dts_one (dt_not (dt_val (de_fn ((w__law_is_word Y).mono (by decide)) hr rfl Y.g__law_is_word (k__law_is_word Y) (b__law_is_word_ Y) takes_never (da_cons (yv 3) da_nil))))) (fun _ _ _ _ _ => (de_fz (yv 3)))) (de_lst da_nil) (nomark _)) (ds_one (ds_ret de_non)) ds_nil) (ds_one (ds_ret (de_tup (da_cons de_str (da_cons (de_fz (de_fn ((w__law_tuples Y).mono (by decide)) hr rfl Y.g__law_tuples (k__law_tuples Y) (b__law_tuples_ Y) tk (da_cons (de_ix (hu1 hr :) (yv 2) de_int) da_nil))) (da_cons (de_fz (de_fn ((w__law_words Y).mono (by decide)) hr rfl Y.g__law_words (k__law_words Y) (b__law_words_ Y) tk (da_cons (de_ix (hu1 hr :) (yv 2) de_int) da_nil))) da_nil))))))))))))))
theorem k__law_told : PySem.W.keepIn K (.ref Y.f__law_told) = true := Y.F__law_told.kp
theorem b__law_told_ : Binds K Y.fd__law_told ["_law_text_here"] [] := Y.F__law_told.bindsN fun _ _ _ _ _ _ us hl => match us, hl with | [_], _ => rfl
theorem s__law_told : FnScope ["_law_text_here", "e"] ["_law_text_here"] (defScope (top 47)) := ⟨rfl, rfl, rfl, by decide +kernel, rfl, by decide +kernel, by decide +kernel⟩
theorem w__law_told : FnOk P w K mg base (L2.CX P w) 7 Y.f__law_told Y.fd__law_told ["_law_text_here"] (spOf K mg m__law_told_9) := by
 have hN : (["_law_text_here", "e"] : List Str).Nodup := (s__law_told Y).nd
 refine fn_ok Y.F__law_told (s__law_told Y) (fun _ _ _ _ => False) fun cdv A outer s H E hr => ?_
 have tk := takes_of (X := CxF P w K mg base ["_law_text_here", "e"] "_law_told" (defScope (top 47)) Y.f__law_told cdv A outer s H E) (E := E) rfl rfl rfl rfl
 exact (ds_one (ds_try 1 [("NoText", true)] hN tk ⟨rfl, by decide, .inl Y.g_RoadError⟩ Y.ct_RoadError rfl rfl (fun W pn xe tk _ => (ds_one (ds_ret (de_fz (de_fn ((w_read_paper Y).mono (by decide)) hr rfl Y.g_read_paper (k_read_paper Y) (b_read_paper_ Y) tk (da_cons (yv 0) da_nil)))))) (fun sa so sc sd sp hz hf => (ds_cons (ds_if (dt_w (dw_and (dt_val (de_isE 1 [("NoText", true)] hz hf Y.it_0 (clsE_own Y.g_NoText) Y.n_isinstance)) (dw_and1 (dt_not (dt_val (de_isET 1 [("NoText", false)] hz hf Y.it_1 (clsEs_cons (clsE_own Y.g_NoDeed) (clsEs_cons (clsE_own Y.g_NoNet) (clsEs_cons (clsE_own Y.g_NoPaper) (clsEs_cons (clsE_own Y.g_NoPlace) (clsEs_cons (clsE_own Y.g_NoRow) (clsEs_cons (clsE_own Y.g_NoWord) clsEs_nil)))))) Y.n_isinstance)))))) (ds_one (ds_ret de_str)) ds_nil) (ds_one (ds_ret de_str))))))
theorem k_law : PySem.W.keepIn K (.ref Y.f_law) = true := Y.F_law.kp
theorem b_law_ : Binds K Y.fd_law ["_law_script"] [] := Y.F_law.bindsN fun _ _ _ _ _ _ us hl => match us, hl with | [_], _ => rfl
theorem s_law : FnScope ["_law_script", "_law_k", "_law_bag_here", "_law_text_here", "_law_one", "_law_due_here", "_law_odd"] ["_law_script"] (defScope (top 48)) := ⟨rfl, rfl, rfl, by decide +kernel, rfl, by decide +kernel, by decide +kernel⟩
theorem w_law : FnOk P w K mg base (L2.CX P w) 8 Y.f_law Y.fd_law ["_law_script"] (spOf K mg m_law_59) := by
 have hN : (["_law_script", "_law_k", "_law_bag_here", "_law_text_here", "_law_one", "_law_due_here", "_law_odd"] : List Str).Nodup := (s_law Y).nd
 refine fn_ok Y.F_law (s_law Y) (fun _ _ _ _ => False) fun cdv A outer s H E hr => ?_
 have tk := takes_of (X := CxF P w K mg base ["_law_script", "_law_k", "_law_bag_here", "_law_text_here", "_law_one", "_law_due_here", "_law_odd"] "law" (defScope (top 48)) Y.f_law cdv A outer s H E) (E := E) rfl rfl rfl rfl
 exact (ds_cons (ds_for (passes_of rfl) rfl (di_rng1 rfl Y.n_range (da_cons (de_callB (cb_max rfl) rfl Y.n_max (by with_unfolding_all rfl) (da_cons de_int (da_cons (de_callB (cb_min rfl) rfl Y.n_min (by with_unfolding_all rfl) (da_cons de_int (da_cons (de_callB cb_len rfl Y.n_len (by with_unfolding_all rfl) (da_cons (yv 0) da_nil)) da_nil))) da_nil))) da_nil)) (ysetg 1 hN) (ds_cons (yset 2 hN (de_fn ((w__law_bag Y).mono (by decide)) hr rfl Y.g__law_bag (k__law_bag Y) (b__law_bag_ Y) tk (da_cons (yv 0) (da_cons (yv 1) da_nil)))) (ds_cons (yset 3 hN (de_fn ((w__law_text Y).mono (by decide)) hr rfl Y.g__law_text (k__law_text Y) (b__law_text_ Y) tk (da_cons (yv 2) da_nil))) (ds_cons (ds_for (passes_of rfl) rfl (di_seq (de_lst (da_cons (de_fz (yv 3)) (da_cons (de_fn ((w__law_changed Y).mono (by decide)) hr rfl Y.g__law_changed (k__law_changed Y) (b__law_changed_ Y) tk (da_cons (yv 2) (da_cons (yv 3) da_nil))) (da_cons (de_fn ((w__law_changed Y).mono (by decide)) hr rfl Y.g__law_changed (k__law_changed Y) (b__law_changed_ Y) tk (da_cons (yv 2) (da_cons (de_fn ((w__law_changed Y).mono (by decide)) hr rfl Y.g__law_changed (k__law_changed Y) (b__law_changed_ Y) tk (da_cons (yv 2) (da_cons (yv 3) da_nil))) da_nil))) da_nil))))) (ysetg 4 hN) (ds_cons (yset 5 hN (de_fn ((w__law_due Y).mono (by decide)) hr rfl Y.g__law_due (k__law_due Y) (b__law_due_ Y) tk (da_cons (yv 4) da_nil))) (ds_one (ds_if (dt_w (dw_and (dt_cmp (og_le hr.units) (de_callB cb_len rfl Y.n_len (by with_unfolding_all rfl) (da_cons (yv 4) da_nil)) de_int (nomark _)) (dw_and1 (dt_cmp (og_ne hr.units) (de_fn ((w__law_told Y).mono (by decide)) hr rfl Y.g__law_told (k__law_told Y) (b__law_told_ Y) tk (da_cons (yv 4) da_nil)) (de_if (dt_cmp og_notN (yv 5) de_non (nomark _)) (de_fz (yv 5)) de_str) (nomark _))))) (ds_one (ds_ret de_bl)) ds_nil)))) (ds_cons (yset 6 hN (de_fz (de_ix (hu1 hr :) (de_lst (da_cons de_non (da_cons de_int (da_cons de_bl (da_cons (de_fz (de_lst (da_cons (de_fz (yv 3)) da_nil))) (da_cons (de_fz (de_tup (da_cons (de_fz (yv 3)) da_nil))) (da_cons (de_fz (de_tup (da_cons de_str (da_cons (de_fz (de_tup (da_cons (de_fz (de_tup (da_cons de_int (da_cons de_int da_nil)))) da_nil))) (da_cons de_str (da_cons de_int da_nil)))))) da_nil))))))) (de_fn ((w__law_take Y).mono (by decide)) hr rfl Y.g__law_take (k__law_take Y) (b__law_take_ Y) tk (da_cons (yv 2) (da_cons de_int da_nil)))))) (ds_one (ds_if (dt_w (dw_or (dt_cmp (og_ne hr.units) (de_fn ((w__law_told Y).mono (by decide)) hr rfl Y.g__law_told (k__law_told Y) (b__law_told_ Y) tk (da_cons (yv 6) da_nil)) de_str (nomark _)) (dw_or1 (dt_cmp (og_ne hr.units) (de_fn ((w__law_told Y).mono (by decide)) hr rfl Y.g__law_told (k__law_told Y) (b__law_told_ Y) tk (da_cons de_str da_nil)) de_str (nomark _))))) (ds_one (ds_ret de_bl)) ds_nil))))))) (ds_one (ds_ret de_bl)))
end
end Q64
set_option maxHeartbeats 0
namespace Q64
open PySem PySem.Spec PyProof.Rows L2 Y
theorem law_true : ∀ ns : List Int, ns.length ≤ 63 → ∃ A, D.m_law_59 [script ns] = .ret (.fz (.bool true)) A := fun ns hn => ⟨_, U.q_t_law_59 (U.law59_true hn)⟩
def d_is_written : He.DefD := ⟨("is_written", none), "is_written", "is_written", defArgs (top 18), defBody (top 18), defScope (top 18), [], []⟩
def d_is_written_word : He.DefD := ⟨("is_written_word", none), "is_written_word", "is_written_word", defArgs (top 19), defBody (top 19), defScope (top 19), [], []⟩
def d_is_written_number : He.DefD := ⟨("is_written_number", none), "is_written_number", "is_written_number", defArgs (top 20), defBody (top 20), defScope (top 20), [], []⟩
def d_places_in : He.DefD := ⟨("places_in", none), "places_in", "places_in", defArgs (top 21), defBody (top 21), defScope (top 21), [], []⟩
def d_are_written_rows : He.DefD := ⟨("are_written_rows", none), "are_written_rows", "are_written_rows", defArgs (top 22), defBody (top 22), defScope (top 22), [], []⟩
def d_rows_in : He.DefD := ⟨("rows_in", none), "rows_in", "rows_in", defArgs (top 23), defBody (top 23), defScope (top 23), [], []⟩
def d_word_in : He.DefD := ⟨("word_in", none), "word_in", "word_in", defArgs (top 24), defBody (top 24), defScope (top 24), [], []⟩
def d_number_in : He.DefD := ⟨("number_in", none), "number_in", "number_in", defArgs (top 27), defBody (top 27), defScope (top 27), [], []⟩
def d_numbers_in : He.DefD := ⟨("numbers_in", none), "numbers_in", "numbers_in", defArgs (top 28), defBody (top 28), defScope (top 28), [], []⟩
def d_pairs_in : He.DefD := ⟨("pairs_in", none), "pairs_in", "pairs_in", defArgs (top 29), defBody (top 29), defScope (top 29), [], []⟩
def d_words_in : He.DefD := ⟨("words_in", none), "words_in", "words_in", defArgs (top 30), defBody (top 30), defScope (top 30), [], []⟩
def d_paper_by : He.DefD := ⟨("paper_by", none), "paper_by", "paper_by", defArgs (top 31), defBody (top 31), defScope (top 31), [], []⟩
def d_read_paper : He.DefD := ⟨("read_paper", none), "read_paper", "read_paper", defArgs (top 32), defBody (top 32), defScope (top 32), [], []⟩
def d__law_bag : He.DefD := ⟨("_law_bag", none), "_law_bag", "_law_bag", defArgs (top 34), defBody (top 34), defScope (top 34), [], []⟩
def d__law_take : He.DefD := ⟨("_law_take", none), "_law_take", "_law_take", defArgs (top 35), defBody (top 35), defScope (top 35), [], []⟩
def d__law_figures : He.DefD := ⟨("_law_figures", none), "_law_figures", "_law_figures", defArgs (top 36), defBody (top 36), defScope (top 36), [], []⟩
def d__law_said : He.DefD := ⟨("_law_said", none), "_law_said", "_law_said", defArgs (top 37), defBody (top 37), defScope (top 37), [], []⟩
def d__law_number : He.DefD := ⟨("_law_number", none), "_law_number", "_law_number", defArgs (top 38), defBody (top 38), defScope (top 38), [], []⟩
def d__law_text : He.DefD := ⟨("_law_text", none), "_law_text", "_law_text", defArgs (top 39), defBody (top 39), defScope (top 39), [], []⟩
def d__law_changed : He.DefD := ⟨("_law_changed", none), "_law_changed", "_law_changed", defArgs (top 40), defBody (top 40), defScope (top 40), [], []⟩
def d__law_is_of : He.DefD := ⟨("_law_is_of", none), "_law_is_of", "_law_is_of", defArgs (top 41), defBody (top 41), defScope (top 41), [], []⟩
def d__law_is_number : He.DefD := ⟨("_law_is_number", none), "_law_is_number", "_law_is_number", defArgs (top 42), defBody (top 42), defScope (top 42), [], []⟩
def d__law_is_word : He.DefD := ⟨("_law_is_word", none), "_law_is_word", "_law_is_word", defArgs (top 43), defBody (top 43), defScope (top 43), [], []⟩
def d__law_tuples : He.DefD := ⟨("_law_tuples", none), "_law_tuples", "_law_tuples", defArgs (top 44), defBody (top 44), defScope (top 44), [], []⟩
def d__law_words : He.DefD := ⟨("_law_words", none), "_law_words", "_law_words", defArgs (top 45), defBody (top 45), defScope (top 45), [], []⟩
def d__law_due : He.DefD := ⟨("_law_due", none), "_law_due", "_law_due", defArgs (top 46), defBody (top 46), defScope (top 46), [], []⟩
def d__law_told : He.DefD := ⟨("_law_told", none), "_law_told", "_law_told", defArgs (top 47), defBody (top 47), defScope (top 47), [], []⟩
def d_law : He.DefD := ⟨("law", none), "law", "law", defArgs (top 48), defBody (top 48), defScope (top 48), [], []⟩
def fn : List He.DefD := [d_is_written, d_is_written_word, d_is_written_number, d_places_in, d_are_written_rows, d_rows_in, d_word_in, d_number_in, d_numbers_in, d_pairs_in, d_words_in, d_paper_by, d_read_paper, d__law_bag, d__law_take, d__law_figures, d__law_said, d__law_number, d__law_text, d__law_changed, d__law_is_of, d__law_is_number, d__law_is_word, d__law_tuples, d__law_words, d__law_due, d__law_told, d_law]
def ts : List He.Tab := []
def fa : List He.Fa := [.glo "is_written", .glo "is_written_word", .glo "is_written_number", .glo "places_in", .glo "are_written_rows", .glo "rows_in", .glo "word_in", .glo "number_in", .glo "numbers_in", .glo "pairs_in", .glo "words_in", .glo "paper_by", .glo "read_paper", .glo "_law_bag", .glo "_law_take", .glo "_law_figures", .glo "_law_said", .glo "_law_number", .glo "_law_text", .glo "_law_changed", .glo "_law_is_of", .glo "_law_is_number", .glo "_law_is_word", .glo "_law_tuples", .glo "_law_words", .glo "_law_due", .glo "_law_told", .glo "law", .free "abs", .free "all", .free "int", .free "isinstance", .free "len", .free "max", .free "min", .free "range", .free "str", .free "tuple", .str "FIGURES" "0123456789", .int "LONGEST" 5000, .int "MOST_FIGURES" 60, .int "MOST_PLACES" 9, .int "MOST_SIGNS" 2000, .str "NO_SIGNS" "-", .str "PLACES" "012345678", .str "SIGNS" "abc", .glo "WAYS", .glo "NoDeed", .glo "NoNet", .glo "NoPaper", .glo "NoPlace", .glo "NoRow", .glo "NoText", .glo "NoWord", .glo "RoadError", .exc "NoText"]
def exB (K : PySem.W.Frag) : Bool := (He.tupB K "WAYS" [.int 2, .int 3] && (tabB K (ctB K (.ref (He.ga K "RoadError"))) [("NoText", true)] && (tabB K (isB K (.ref (He.ga K "NoText"))) [("NoText", true)] && (tabB K (isTB K [.ref (He.ga K "NoDeed"), .ref (He.ga K "NoNet"), .ref (He.ga K "NoPaper"), .ref (He.ga K "NoPlace"), .ref (He.ga K "NoRow"), .ref (He.ga K "NoWord")]) [("NoText", false)] && true))))
abbrev R : PySem.W.OpenRow := PySem.W.OpenLaw.row PySem.Challenge.rw_roadcall_k64_papers_read
abbrev hk : PySem.W.Hook := He.hookX 4 fa fn ts [] exB
def ob (s : PySem.W.SharedT) : He.AlX := He.obsX 4 fa fn ts [] exB (HandSHeadRun.getT s)
theorem ob_eq (s : PySem.W.SharedT) : ob s = hk.obs s.abs := He.obsX_eq (HandSHeadRun.getT_eq s)
def loose : List PySem.Str := (["SIGNS", "MOST_PLACES", "WAYS", "MOST_SIGNS", "FIGURES", "PLACES", "NO_SIGNS", "MOST_FIGURES", "LONGEST", "RoadError", "NoNet", "NoPlace", "NoWord", "NoPaper", "NoText", "NoRow", "NoDeed", "is_written", "is_written_word", "is_written_number", "places_in", "are_written_rows", "rows_in", "word_in", "number_in", "numbers_in", "pairs_in", "words_in", "paper_by", "read_paper"] : List PySem.Str) ++ (["_law_bag", "_law_take", "_law_figures", "_law_said", "_law_number", "_law_text", "_law_changed", "_law_is_of", "_law_is_number", "_law_is_word", "_law_tuples", "_law_words", "_law_due", "_law_told"] : List PySem.Str)
theorem run (w : World) : HandSHeadRun.RunEq R (PySem.W.view R.prog [48]) hk ob 40000 loose w := by
 intro os
 kernel_rfl
theorem facts {K : PySem.W.Frag} {h : Heap} {mg : Str → Option Value} {w : World} (X : K.In h) (G : h.Ns mainGlobals mg) (c : He.SaysX fa fn ts [] exB w h K) : Nonempty (Fx K mg) := by
 obtain ⟨fd_is_written, F_is_written⟩ := c.t.d.def_ 0 (d := d_is_written) rfl
 obtain ⟨fd_is_written_word, F_is_written_word⟩ := c.t.d.def_ 1 (d := d_is_written_word) rfl
 obtain ⟨fd_is_written_number, F_is_written_number⟩ := c.t.d.def_ 2 (d := d_is_written_number) rfl
 obtain ⟨fd_places_in, F_places_in⟩ := c.t.d.def_ 3 (d := d_places_in) rfl
 obtain ⟨fd_are_written_rows, F_are_written_rows⟩ := c.t.d.def_ 4 (d := d_are_written_rows) rfl
 obtain ⟨fd_rows_in, F_rows_in⟩ := c.t.d.def_ 5 (d := d_rows_in) rfl
 obtain ⟨fd_word_in, F_word_in⟩ := c.t.d.def_ 6 (d := d_word_in) rfl
 obtain ⟨fd_number_in, F_number_in⟩ := c.t.d.def_ 7 (d := d_number_in) rfl
 obtain ⟨fd_numbers_in, F_numbers_in⟩ := c.t.d.def_ 8 (d := d_numbers_in) rfl
 obtain ⟨fd_pairs_in, F_pairs_in⟩ := c.t.d.def_ 9 (d := d_pairs_in) rfl
 obtain ⟨fd_words_in, F_words_in⟩ := c.t.d.def_ 10 (d := d_words_in) rfl
 obtain ⟨fd_paper_by, F_paper_by⟩ := c.t.d.def_ 11 (d := d_paper_by) rfl
 obtain ⟨fd_read_paper, F_read_paper⟩ := c.t.d.def_ 12 (d := d_read_paper) rfl
 obtain ⟨fd__law_bag, F__law_bag⟩ := c.t.d.def_ 13 (d := d__law_bag) rfl
 obtain ⟨fd__law_take, F__law_take⟩ := c.t.d.def_ 14 (d := d__law_take) rfl
 obtain ⟨fd__law_figures, F__law_figures⟩ := c.t.d.def_ 15 (d := d__law_figures) rfl
 obtain ⟨fd__law_said, F__law_said⟩ := c.t.d.def_ 16 (d := d__law_said) rfl
 obtain ⟨fd__law_number, F__law_number⟩ := c.t.d.def_ 17 (d := d__law_number) rfl
 obtain ⟨fd__law_text, F__law_text⟩ := c.t.d.def_ 18 (d := d__law_text) rfl
 obtain ⟨fd__law_changed, F__law_changed⟩ := c.t.d.def_ 19 (d := d__law_changed) rfl
 obtain ⟨fd__law_is_of, F__law_is_of⟩ := c.t.d.def_ 20 (d := d__law_is_of) rfl
 obtain ⟨fd__law_is_number, F__law_is_number⟩ := c.t.d.def_ 21 (d := d__law_is_number) rfl
 obtain ⟨fd__law_is_word, F__law_is_word⟩ := c.t.d.def_ 22 (d := d__law_is_word) rfl
 obtain ⟨fd__law_tuples, F__law_tuples⟩ := c.t.d.def_ 23 (d := d__law_tuples) rfl
 obtain ⟨fd__law_words, F__law_words⟩ := c.t.d.def_ 24 (d := d__law_words) rfl
 obtain ⟨fd__law_due, F__law_due⟩ := c.t.d.def_ 25 (d := d__law_due) rfl
 obtain ⟨fd__law_told, F__law_told⟩ := c.t.d.def_ 26 (d := d__law_told) rfl
 obtain ⟨fd_law, F_law⟩ := c.t.d.def_ 27 (d := d_law) rfl
 have hx : exB K = true := c.more
 obtain ⟨t_WAYS, hx⟩ := He.ba hx
 obtain ⟨xct_RoadError, hx⟩ := He.ba hx
 obtain ⟨xit_0, hx⟩ := He.ba hx
 obtain ⟨xit_1, hx⟩ := He.ba hx
 exact ⟨{ f_is_written := _, fd_is_written := fd_is_written, F_is_written := F_is_written, g_is_written := He.glo_ok X G (c.t.d.fact 0 (f := .glo "is_written") rfl), f_is_written_word := _, fd_is_written_word := fd_is_written_word, F_is_written_word := F_is_written_word, g_is_written_word := He.glo_ok X G (c.t.d.fact 1 (f := .glo "is_written_word") rfl), f_is_written_number := _, fd_is_written_number := fd_is_written_number, F_is_written_number := F_is_written_number, g_is_written_number := He.glo_ok X G (c.t.d.fact 2 (f := .glo "is_written_number") rfl), f_places_in := _, fd_places_in := fd_places_in, F_places_in := F_places_in, g_places_in := He.glo_ok X G (c.t.d.fact 3 (f := .glo "places_in") rfl), f_are_written_rows := _, fd_are_written_rows := fd_are_written_rows, F_are_written_rows := F_are_written_rows, g_are_written_rows := He.glo_ok X G (c.t.d.fact 4 (f := .glo "are_written_rows") rfl), f_rows_in := _, fd_rows_in := fd_rows_in, F_rows_in := F_rows_in, g_rows_in := He.glo_ok X G (c.t.d.fact 5 (f := .glo "rows_in") rfl), f_word_in := _, fd_word_in := fd_word_in, F_word_in := F_word_in, g_word_in := He.glo_ok X G (c.t.d.fact 6 (f := .glo "word_in") rfl), f_number_in := _, fd_number_in := fd_number_in, F_number_in := F_number_in, g_number_in := He.glo_ok X G (c.t.d.fact 7 (f := .glo "number_in") rfl), f_numbers_in := _, fd_numbers_in := fd_numbers_in, F_numbers_in := F_numbers_in, g_numbers_in := He.glo_ok X G (c.t.d.fact 8 (f := .glo "numbers_in") rfl), f_pairs_in := _, fd_pairs_in := fd_pairs_in, F_pairs_in := F_pairs_in, g_pairs_in := He.glo_ok X G (c.t.d.fact 9 (f := .glo "pairs_in") rfl), f_words_in := _, fd_words_in := fd_words_in, F_words_in := F_words_in, g_words_in := He.glo_ok X G (c.t.d.fact 10 (f := .glo "words_in") rfl), f_paper_by := _, fd_paper_by := fd_paper_by, F_paper_by := F_paper_by, g_paper_by := He.glo_ok X G (c.t.d.fact 11 (f := .glo "paper_by") rfl), f_read_paper := _, fd_read_paper := fd_read_paper, F_read_paper := F_read_paper, g_read_paper := He.glo_ok X G (c.t.d.fact 12 (f := .glo "read_paper") rfl), f__law_bag := _, fd__law_bag := fd__law_bag, F__law_bag := F__law_bag, g__law_bag := He.glo_ok X G (c.t.d.fact 13 (f := .glo "_law_bag") rfl), f__law_take := _, fd__law_take := fd__law_take, F__law_take := F__law_take, g__law_take := He.glo_ok X G (c.t.d.fact 14 (f := .glo "_law_take") rfl), f__law_figures := _, fd__law_figures := fd__law_figures, F__law_figures := F__law_figures, g__law_figures := He.glo_ok X G (c.t.d.fact 15 (f := .glo "_law_figures") rfl), f__law_said := _, fd__law_said := fd__law_said, F__law_said := F__law_said, g__law_said := He.glo_ok X G (c.t.d.fact 16 (f := .glo "_law_said") rfl), f__law_number := _, fd__law_number := fd__law_number, F__law_number := F__law_number, g__law_number := He.glo_ok X G (c.t.d.fact 17 (f := .glo "_law_number") rfl), f__law_text := _, fd__law_text := fd__law_text, F__law_text := F__law_text, g__law_text := He.glo_ok X G (c.t.d.fact 18 (f := .glo "_law_text") rfl), f__law_changed := _, fd__law_changed := fd__law_changed, F__law_changed := F__law_changed, g__law_changed := He.glo_ok X G (c.t.d.fact 19 (f := .glo "_law_changed") rfl), f__law_is_of := _, fd__law_is_of := fd__law_is_of, F__law_is_of := F__law_is_of, g__law_is_of := He.glo_ok X G (c.t.d.fact 20 (f := .glo "_law_is_of") rfl), f__law_is_number := _, fd__law_is_number := fd__law_is_number, F__law_is_number := F__law_is_number, g__law_is_number := He.glo_ok X G (c.t.d.fact 21 (f := .glo "_law_is_number") rfl), f__law_is_word := _, fd__law_is_word := fd__law_is_word, F__law_is_word := F__law_is_word, g__law_is_word := He.glo_ok X G (c.t.d.fact 22 (f := .glo "_law_is_word") rfl), f__law_tuples := _, fd__law_tuples := fd__law_tuples, F__law_tuples := F__law_tuples, g__law_tuples := He.glo_ok X G (c.t.d.fact 23 (f := .glo "_law_tuples") rfl), f__law_words := _, fd__law_words := fd__law_words, F__law_words := F__law_words, g__law_words := He.glo_ok X G (c.t.d.fact 24 (f := .glo "_law_words") rfl), f__law_due := _, fd__law_due := fd__law_due, F__law_due := F__law_due, g__law_due := He.glo_ok X G (c.t.d.fact 25 (f := .glo "_law_due") rfl), f__law_told := _, fd__law_told := fd__law_told, F__law_told := F__law_told, g__law_told := He.glo_ok X G (c.t.d.fact 26 (f := .glo "_law_told") rfl), f_law := _, fd_law := fd_law, F_law := F_law, g_law := He.glo_ok X G (c.t.d.fact 27 (f := .glo "law") rfl), n_abs := He.free_ok X G (c.t.d.fact 28 (f := .free "abs") rfl), n_all := He.free_ok X G (c.t.d.fact 29 (f := .free "all") rfl), n_int := He.free_ok X G (c.t.d.fact 30 (f := .free "int") rfl), n_isinstance := He.free_ok X G (c.t.d.fact 31 (f := .free "isinstance") rfl), n_len := He.free_ok X G (c.t.d.fact 32 (f := .free "len") rfl), n_max := He.free_ok X G (c.t.d.fact 33 (f := .free "max") rfl), n_min := He.free_ok X G (c.t.d.fact 34 (f := .free "min") rfl), n_range := He.free_ok X G (c.t.d.fact 35 (f := .free "range") rfl), n_str := He.free_ok X G (c.t.d.fact 36 (f := .free "str") rfl), n_tuple := He.free_ok X G (c.t.d.fact 37 (f := .free "tuple") rfl), c_FIGURES := He.str_ok X G (c.t.d.fact 38 (f := .str "FIGURES" "0123456789") rfl), c_LONGEST := He.int_ok X G (c.t.d.fact 39 (f := .int "LONGEST" 5000) rfl), c_MOST_FIGURES := He.int_ok X G (c.t.d.fact 40 (f := .int "MOST_FIGURES" 60) rfl), c_MOST_PLACES := He.int_ok X G (c.t.d.fact 41 (f := .int "MOST_PLACES" 9) rfl), c_MOST_SIGNS := He.int_ok X G (c.t.d.fact 42 (f := .int "MOST_SIGNS" 2000) rfl), c_NO_SIGNS := He.str_ok X G (c.t.d.fact 43 (f := .str "NO_SIGNS" "-") rfl), c_PLACES := He.str_ok X G (c.t.d.fact 44 (f := .str "PLACES" "012345678") rfl), c_SIGNS := He.str_ok X G (c.t.d.fact 45 (f := .str "SIGNS" "abc") rfl), a_WAYS := _, g_WAYS := He.glo_ok X G (c.t.d.fact 46 (f := .glo "WAYS") rfl), c_WAYS := fun F => .tup (He.tupB_ok t_WAYS F) (.cons (.int _) (.cons (.int _) (.nil))), g_NoDeed := (He.glo_ok X G (c.t.d.fact 47 (f := .glo "NoDeed") rfl)), g_NoNet := (He.glo_ok X G (c.t.d.fact 48 (f := .glo "NoNet") rfl)), g_NoPaper := (He.glo_ok X G (c.t.d.fact 49 (f := .glo "NoPaper") rfl)), g_NoPlace := (He.glo_ok X G (c.t.d.fact 50 (f := .glo "NoPlace") rfl)), g_NoRow := (He.glo_ok X G (c.t.d.fact 51 (f := .glo "NoRow") rfl)), g_NoText := (He.glo_ok X G (c.t.d.fact 52 (f := .glo "NoText") rfl)), g_NoWord := (He.glo_ok X G (c.t.d.fact 53 (f := .glo "NoWord") rfl)), g_RoadError := (He.glo_ok X G (c.t.d.fact 54 (f := .glo "RoadError") rfl)), r_NoText := rzOk_of (He.glo_ok X G (c.t.d.fact 52 (f := .glo "NoText") rfl)) (c.t.d.fact 55 (f := .exc "NoText") rfl), ct_RoadError := ctTab_of X G xct_RoadError, it_0 := isTab_of X G xit_0, it_1 := isTabs_of X G xit_1 }⟩
end Q64
open PySem PySem.W PySem.Calls PyProof.Rows
theorem PySem.Challenge.cw_roadcall_k64_papers_read_holds : PySem.Challenge.rw_roadcall_k64_papers_read.Holds := by
 w_on; o_law
 refine HandSHeadRun.head_any (r := OpenLaw.row PySem.Challenge.rw_roadcall_k64_papers_read) (q := view (OpenLaw.row PySem.Challenge.rw_roadcall_k64_papers_read).prog [48]) (H := Q64.hk) (ob := Q64.ob) (M := 40000) (loose := Q64.loose) (d := HandSHeadRun.topDef (OpenLaw.row PySem.Challenge.rw_roadcall_k64_papers_read).prog 48) (kwd := []) Q64.ob_eq
  (by kernel_rfl) (fun s => by kernel_rfl) Q64.run (by kernel_rfl) (by kernel_rfl) (by kernel_rfl) (by rfl) (by first | assumption | decide +kernel) (by decide +kernel) ⟨rfl, rfl, rfl, rfl, rfl, by decide +kernel⟩ ?hw ?hc
 case hw => w_witness2
 case hc =>
  refine L2.walk_ofE (l := PySem.Challenge.rw_roadcall_k64_papers_read) (n := 63) (k := 8) (x := "_law_script") (CX := L2.CX0) rfl (by decide) (by kernel_rfl) ⟨rfl, by decide, by decide⟩ ?F (fun _ _ _ _ z => z)
  intro w mg fa h Y G hmg0
  obtain ⟨K, KX, c⟩ := Y
  have hmg : mg ("law" : PySem.Str) = some (.ref fa) := by
   have e : (HandSHeadRun.topDef (OpenLaw.row PySem.Challenge.rw_roadcall_k64_papers_read).prog 48).name = ("law" : PySem.Str) := by kernel_rfl
   rw [← e]
   exact hmg0
  obtain ⟨Y⟩ := Q64.facts KX G c
  cases hmg.symm.trans Y.g_law
  exact ⟨K, Y.fd_law, _root_.Y.spLaw K 63, KX, fun s v => (L2.FunD.bindsA (ps := ["_law_script"]) Y.F_law fun _ _ _ _ _ _ us hl => match us, hl with | [_], _ => rfl) s [v] rfl, fun H a ns hl _ hS => ⟨a, ns, rfl, hS, hl, fun _ => rfl⟩, fun base _ _ => _root_.Y.law_fn (Q64.w_law Y) Q64.law_true⟩
