import PyProof.Rows.All
import Wide.All
import OpenK.AllK
import Wide.FinOn
import HandS.Base
import HandS.Call
import HandS.List
import HandS.Comp
import HandS.Ends
import HandS.Dict
import HandS.Iter
import HandS.Exc
import HandS.ExcInit
import HandS.Wide
import HandS.Property
import HandS.IsInst
import HandS.Defaults
import HandS.HeadHook1
import HandS.HeadHook2
import HandS.HeadHook3
import HandS.HeadHook4
import HandS.Lambda
import HandS.TupAny
import HandS.TupLe
import HandS.DictEq
import KE.KDictCopyH
import HandS.DictTup
import HandS.Text
import HandS.ExcOwn
import HandS.CallSlots
import HandS.HeadEnd
import KE.GoesEnum
import HandS.Walk
import HandS.DictComp
import KE.KExcInit
import KE.KNest
import HandS.ExcField
import HandS.Head0
import HandS.Head1
import HandS.Head2
import KE.KStateDown
import HandS.Words
import HandS.TupMul
import PyProof.FactsAll.tuple_2
import PyProof.ReprRoads
import PyProof.FitsInt
import PyProof.ReprLen
import HandS.RaiseMore
import HandS.Star
import HandS.Style
import HandS.OwnEq
import KE.KDictOf
import HandS.Conv
import PyProof.ConsumeWalk
import HandS.ClsMeth
import HandS.FStr
import KE.KCallOwn
import HandS.More
import HandS.CallLocal
import HandS.Deep
import KE.GoesZip
import HandS.Zip
import KE.KLam
import HandS.EndTab
import KE.SortKeyHeap
import HandS.Small
import KE.KExcIs
import KE.KTryMore
import HandS.HotCalls
import HandS.ExcIs
import PyProof.InstNe
import HandS.TryElse
import HandS.Nested
import KE.SortData
import PyProof.EqAt
import PyProof.NeKinds
import HandS.SetFor
import KE.KUnpack
import PyProof.ListRange
import KE.KDictDisplayH
import HandS.Strs
import PyProof.Rows.SetFrom
import PyProof.Rows.StrMeet
import HandS.WordsDict
import PyProof.StrBlock2
import HandS.ExcValue
import PySem.Challenge.RW_haulprices_k01_limits_and_errors
import HandS.Codes
set_option Elab.async false
set_option linter.all false
set_option maxRecDepth 100000
set_option maxHeartbeats 1000000
namespace MP
open PySem PySem.Spec PyProof.Rows L2
abbrev St := L2.St
class TabsP where
  ts : List (Addr × Str)
variable [TabsP]
inductive D where
  | non | bl (b : Bool) | int (i : Int) | str (s : Str)
  | tup (xs : List D) | lst (xs : List D)
  | dK (kvs : List (Key × D)) | dT (kvs : List (List Key × D))
  | ins (c : Str) (fs : List (Str × D))
  | cel (n : Nat)
  | scr (ns : List Int) | ktp (xs : List D)
  | cls (c : Str)
  | xo (c : Str) (fs : List (Str × D))
def nrm : Option HO → Option HO
  | some (.frz _ (.dK k)) => some (.dK k)
  | some (.frz _ (.dT k)) => some (.dT k)
  | some (.tbl _) => none
  | o => o
structure FLe (F F' : Hp) : Prop where
  le : ∀ a u, nrm (F a) = some u → nrm (F' a) = some u
  fz : ∀ a o u, F a = some (.frz o u) → F' a = some (.frz o u)
instance {F F' : Hp} : CoeFun (FLe F F') (fun _ => ∀ a u, nrm (F a) = some u → nrm (F' a) = some u) := ⟨FLe.le⟩
theorem FLe.refl (F : Hp) : FLe F F := ⟨fun _ _ h => h, fun _ _ _ h => h⟩
theorem FLe.trans {F G H : Hp} (a : FLe F G) (b : FLe G H) : FLe F H := ⟨fun x u h => b x u (a x u h), fun x o u h => b.fz x o u (a.fz x o u h)⟩
theorem nrm_lst {o : Option HO} {xs} (h : nrm o = some (.lst xs)) : o = some (.lst xs) := by
  unfold nrm at h; split at h <;> first | exact h | cases h
theorem nrm_tup {o : Option HO} {xs} (h : nrm o = some (.tup xs)) : o = some (.tup xs) := by
  unfold nrm at h; split at h <;> first | exact h | cases h
theorem nrm_ins {o : Option HO} {c d f} (h : nrm o = some (.ins c d f)) : o = some (.ins c d f) := by
  unfold nrm at h; split at h <;> first | exact h | cases h
theorem nrm_frzL {o : Option HO} {b xs} (h : nrm o = some (.frz b (.lst xs))) : o = some (.frz b (.lst xs)) := by
  unfold nrm at h; split at h <;> first | exact h | cases h
theorem nrm_frzT {o : Option HO} {b xs} (h : nrm o = some (.frz b (.tup xs))) : o = some (.frz b (.tup xs)) := by
  unfold nrm at h; split at h <;> first | exact h | cases h
theorem nrm_dK {o : Option HO} {xs} (h : nrm o = some (.dK xs)) : o = some (.dK xs) ∨ ∃ b, o = some (.frz b (.dK xs)) := by
  unfold nrm at h
  split at h
  · cases h; exact .inr ⟨_, rfl⟩
  · cases h
  · cases h
  · exact .inl h
theorem nrm_dT {o : Option HO} {xs} (h : nrm o = some (.dT xs)) : o = some (.dT xs) ∨ ∃ b, o = some (.frz b (.dT xs)) := by
  unfold nrm at h
  split at h
  · cases h
  · cases h; exact .inr ⟨_, rfl⟩
  · cases h
  · exact .inl h
theorem sqL_fle {K F F' a xs} (l : FLe F F') (h : SqL K F a xs) : SqL K F' a xs := by
  rcases h with (h | ⟨o, h⟩) | h
  · exact .inl (.inl (nrm_lst (l a (.lst xs) (by rw [h]; rfl))))
  · exact .inl (.inr ⟨o, nrm_frzL (l a (.frz o (.lst xs)) (by rw [h]; rfl))⟩)
  · exact .inr h
theorem sqT_fle {K F F' a xs} (l : FLe F F') (h : SqT K F a xs) : SqT K F' a xs := by
  rcases h with (h | ⟨o, h⟩) | h
  · exact .inl (.inl (nrm_tup (l a (.tup xs) (by rw [h]; rfl))))
  · exact .inl (.inr ⟨o, nrm_frzT (l a (.frz o (.tup xs)) (by rw [h]; rfl))⟩)
  · exact .inr h
theorem nrm_ex {o : Option HO} {Φ} (h : nrm o = some (.ext Φ)) : o = some (.ext Φ) := by
  unfold nrm at h; split at h <;> first | exact h | cases h
def TupK (K : PySem.W.Frag) (F : Hp) (a : Addr) (vs : List V) : Prop := F a = some (.tup vs) ∨ (vs = [] ∧ SqT K F a [])
theorem TupK.sq {K F a vs} (h : TupK K F a vs) : SqT K F a vs := by
  rcases h with h | ⟨rfl, h⟩
  · exact SqT.of h
  · exact h
theorem TupK.fle {K F F' a vs} (l : FLe F F') (h : TupK K F a vs) : TupK K F' a vs := by
  rcases h with h | ⟨e, h⟩
  · exact .inl (nrm_tup (l a (.tup vs) (by rw [h]; rfl)))
  · exact .inr ⟨e, sqT_fle l h⟩
mutual
inductive Den (K : PySem.W.Frag) (F : Hp) (Ad : List Addr) : V → D → Prop
  | non : Den K F Ad .non .non
  | bl {b} : Den K F Ad (.bl b) (.bl b)
  | int {i} : Den K F Ad (.int i) (.int i)
  | str {s} : Den K F Ad (.str s) (.str s)
  | tup {a vs ds} : TupK K F a vs → DenL K F Ad vs ds → Den K F Ad (.ref a) (.tup ds)
  | ktp {a vs ds} : SqT K F a vs → DenL K F Ad vs ds → Den K F Ad (.ref a) (.ktp ds)
  | lst {a vs ds} : F a = some (.lst vs) → DenL K F Ad vs ds → Den K F Ad (.ref a) (.lst ds)
  | scr {a ns} : SqL K F a (ns.map V.int) → Den K F Ad (.ref a) (.scr ns)
  | dK {a vs ds} : nrm (F a) = some (.dK vs) → DenK K F Ad vs ds → Den K F Ad (.ref a) (.dK ds)
  | dT {a vs ds} : nrm (F a) = some (.dT vs) → DenT K F Ad vs ds → Den K F Ad (.ref a) (.dT ds)
  | ins {a c dx vs ds} : F a = some (.ins (He.ga K c) dx vs) → DenF K F Ad vs ds → Den K F Ad (.ref a) (.ins c ds)
  | cel {a n} : Ad[n]? = some a → Den K F Ad (.ref a) (.cel n)
  | cls {c} : Den K F Ad (.ref (He.ga K c)) (.cls c)
  | xo {a c dx vs ds} : F a = some (exo a (He.ga K c) (some dx)) → F dx = some (exd dx vs) → DenF K F Ad vs ds → Den K F Ad (.ref a) (.xo c ds)
  | xo0 {a c} : F a = some (exo a (He.ga K c) none) → Den K F Ad (.ref a) (.xo c [])
inductive DenL (K : PySem.W.Frag) (F : Hp) (Ad : List Addr) : List V → List D → Prop
  | nil : DenL K F Ad [] []
  | cons {v d vs ds} : Den K F Ad v d → DenL K F Ad vs ds → DenL K F Ad (v :: vs) (d :: ds)
inductive DenK (K : PySem.W.Frag) (F : Hp) (Ad : List Addr) : List (Key × V) → List (Key × D) → Prop
  | nil : DenK K F Ad [] []
  | cons {k v d vs ds} : Den K F Ad v d → DenK K F Ad vs ds → DenK K F Ad ((k, v) :: vs) ((k, d) :: ds)
inductive DenT (K : PySem.W.Frag) (F : Hp) (Ad : List Addr) : List (List Key × V) → List (List Key × D) → Prop
  | nil : DenT K F Ad [] []
  | cons {k v d vs ds} : Den K F Ad v d → DenT K F Ad vs ds → DenT K F Ad ((k, v) :: vs) ((k, d) :: ds)
inductive DenF (K : PySem.W.Frag) (F : Hp) (Ad : List Addr) : List (Str × V) → List (Str × D) → Prop
  | nil : DenF K F Ad [] []
  | cons {k v d vs ds} : Den K F Ad v d → DenF K F Ad vs ds → DenF K F Ad ((k, v) :: vs) ((k, d) :: ds)
end
section
variable {K : PySem.W.Frag} {F F' : Hp} {Ad Ad' : List Addr}
mutual
theorem Den.mono (l : FLe F F') (p : ∀ (n : Nat) (a : Addr), Ad[n]? = some a → Ad'[n]? = some a) : ∀ {v d}, Den K F Ad v d → Den K F' Ad' v d
  | _, _, .non => .non
  | _, _, .bl => .bl
  | _, _, .int => .int
  | _, _, .str => .str
  | _, _, .tup h r => .tup (h.fle l) (r.mono l p)
  | _, _, .ktp h r => .ktp (sqT_fle l h) (r.mono l p)
  | _, _, .lst h r => .lst (nrm_lst (l _ (.lst _) (by rw [h]; rfl))) (r.mono l p)
  | _, _, .scr h => .scr (sqL_fle l h)
  | _, _, .dK h r => .dK (l _ _ h) (r.mono l p)
  | _, _, .dT h r => .dT (l _ _ h) (r.mono l p)
  | _, _, .ins h r => .ins (nrm_ins (l _ (.ins _ _ _) (by rw [h]; rfl))) (r.mono l p)
  | _, _, .cel h => .cel (p _ _ h)
  | _, _, .cls => .cls
  | _, _, .xo h h2 r => .xo (nrm_ex (l _ (exo _ _ _) (by rw [h]; rfl))) (nrm_ex (l _ (exd _ _) (by rw [h2]; rfl))) (r.mono l p)
  | _, _, .xo0 h => .xo0 (nrm_ex (l _ (exo _ _ _) (by rw [h]; rfl)))
theorem DenL.mono (l : FLe F F') (p : ∀ (n : Nat) (a : Addr), Ad[n]? = some a → Ad'[n]? = some a) : ∀ {v d}, DenL K F Ad v d → DenL K F' Ad' v d
  | _, _, .nil => .nil
  | _, _, .cons h r => .cons (h.mono l p) (r.mono l p)
theorem DenK.mono (l : FLe F F') (p : ∀ (n : Nat) (a : Addr), Ad[n]? = some a → Ad'[n]? = some a) : ∀ {v d}, DenK K F Ad v d → DenK K F' Ad' v d
  | _, _, .nil => .nil
  | _, _, .cons h r => .cons (h.mono l p) (r.mono l p)
theorem DenT.mono (l : FLe F F') (p : ∀ (n : Nat) (a : Addr), Ad[n]? = some a → Ad'[n]? = some a) : ∀ {v d}, DenT K F Ad v d → DenT K F' Ad' v d
  | _, _, .nil => .nil
  | _, _, .cons h r => .cons (h.mono l p) (r.mono l p)
theorem DenF.mono (l : FLe F F') (p : ∀ (n : Nat) (a : Addr), Ad[n]? = some a → Ad'[n]? = some a) : ∀ {v d}, DenF K F Ad v d → DenF K F' Ad' v d
  | _, _, .nil => .nil
  | _, _, .cons h r => .cons (h.mono l p) (r.mono l p)
end
theorem DenL.length : ∀ {vs ds}, DenL K F Ad vs ds → vs.length = ds.length
  | _, _, .nil => rfl
  | _, _, .cons _ r => by simp [DenL.length r]
theorem DenL.get : ∀ {vs ds} {i : Nat} {d : D}, DenL K F Ad vs ds → ds[i]? = some d → ∃ v, vs[i]? = some v ∧ Den K F Ad v d
  | _, _, _, _, .nil, e => by simp at e
  | _, _, 0, _, .cons h _, e => by simp at e; subst e; exact ⟨_, rfl, h⟩
  | _, _, i + 1, d, .cons _ r, e => by
    obtain ⟨v, h1, h2⟩ := DenL.get (i := i) (d := d) r (by simpa using e)
    exact ⟨v, by simpa using h1, h2⟩
theorem DenL.append : ∀ {vs ds ws es}, DenL K F Ad vs ds → DenL K F Ad ws es → DenL K F Ad (vs ++ ws) (ds ++ es)
  | _, _, _, _, .nil, s => s
  | _, _, _, _, .cons h r, s => .cons h (r.append s)
theorem DenL.set : ∀ {vs ds} {v d} (i : Nat), Den K F Ad v d → DenL K F Ad vs ds → DenL K F Ad (vs.set i v) (ds.set i d)
  | _, _, _, _, _, _, .nil => .nil
  | _, _, _, _, 0, h, .cons _ r => .cons h r
  | _, _, _, _, i + 1, h, .cons q r => .cons q (DenL.set i h r)
theorem DenL.take : ∀ {vs ds} (n : Nat), DenL K F Ad vs ds → DenL K F Ad (vs.take n) (ds.take n)
  | _, _, 0, _ => .nil
  | _, _, _ + 1, .nil => .nil
  | _, _, n + 1, .cons r t => .cons r (DenL.take n t)
theorem DenL.drop : ∀ {vs ds} (n : Nat), DenL K F Ad vs ds → DenL K F Ad (vs.drop n) (ds.drop n)
  | _, _, 0, r => r
  | _, _, _ + 1, .nil => .nil
  | _, _, n + 1, .cons _ t => DenL.drop n t
theorem DenF.lookup : ∀ {vs ds} {f : Str} {d : D}, DenF K F Ad vs ds → ds.lookup f = some d → ∃ v, vs.lookup f = some v ∧ Den K F Ad v d
  | _, _, _, _, .nil, e => by simp at e
  | _, _, f, d, .cons (k := k) h r, e => by
    rw [List.lookup_cons] at e ⊢
    cases q : f == k with
    | true => rw [q] at e; simp at e; subst e; exact ⟨_, rfl, h⟩
    | false => rw [q] at e; exact DenF.lookup r e
theorem DenF.none : ∀ {vs ds} {f : Str}, DenF K F Ad vs ds → ds.lookup f = Option.none → vs.lookup f = Option.none
  | _, _, _, .nil, e => by simp
  | _, _, f, .cons (k := k) h r, e => by
    rw [List.lookup_cons] at e ⊢
    cases q : f == k with
    | true => rw [q] at e; simp at e
    | false => rw [q] at e; exact DenF.none r e
theorem DenF.length : ∀ {vs ds}, DenF K F Ad vs ds → vs.length = ds.length
  | _, _, .nil => rfl
  | _, _, .cons _ r => by simp [DenF.length r]
theorem DenK.length : ∀ {vs ds}, DenK K F Ad vs ds → vs.length = ds.length
  | _, _, .nil => rfl
  | _, _, .cons _ r => by simp [DenK.length r]
theorem DenT.length : ∀ {vs ds}, DenT K F Ad vs ds → vs.length = ds.length
  | _, _, .nil => rfl
  | _, _, .cons _ r => by simp [DenT.length r]
end
inductive Root (K : PySem.W.Frag) (F : Hp) (Ad : List Addr) (H : Hp) (a : Addr) : D → Prop
  | lst {vs ds} : H a = some (.lst vs) → DenL K F Ad vs ds → Root K F Ad H a (.lst ds)
  | dK {vs ds} : H a = some (.dK vs) → DenK K F Ad vs ds → Root K F Ad H a (.dK ds)
  | dT {vs ds} : H a = some (.dT vs) → DenT K F Ad vs ds → Root K F Ad H a (.dT ds)
  | ins {c dx vs ds} : H a = some (.ins (He.ga K c) dx vs) → DenF K F Ad vs ds → Root K F Ad H a (.ins c ds)
def RootO : HO → Prop
  | .lst _ => True | .dK _ => True | .dT _ => True | .ins _ _ _ => True | _ => False
theorem Root.obj {K F Ad H a d} (r : Root K F Ad H a d) : ∃ o, H a = some o ∧ RootO o := by
  cases r with
  | lst h _ => exact ⟨_, h, trivial⟩
  | dK h _ => exact ⟨_, h, trivial⟩
  | dT h _ => exact ⟨_, h, trivial⟩
  | ins h _ => exact ⟨_, h, trivial⟩
theorem Root.mono {K F F' Ad Ad' H H' a d} (l : FLe F F') (p : ∀ (n : Nat) (a : Addr), Ad[n]? = some a → Ad'[n]? = some a) (e : H' a = H a) (r : Root K F Ad H a d) : Root K F' Ad' H' a d := by
  cases r with
  | lst h r => exact .lst (e.trans h) (r.mono l p)
  | dK h r => exact .dK (e.trans h) (r.mono l p)
  | dT h r => exact .dT (e.trans h) (r.mono l p)
  | ins h r => exact .ins (e.trans h) (r.mono l p)
structure MemOk (K : PySem.W.Frag) (F : Hp) (Ad : List Addr) (M : List D) (H : Hp) : Prop where
  sub : ∀ a u, F a = some u → H a = some u
  len : Ad.length = M.length
  nd : Ad.Nodup
  cel : ∀ (n : Nat) (a : Addr) (d : D), Ad[n]? = some a → M[n]? = some d → F a = none ∧ Root K F Ad H a d
  tab : LamX.Tabs TabsP.ts H
structure Gr (F : Hp) (Ad : List Addr) (H F' : Hp) (Ad' : List Addr) (H' : Hp) : Prop where
  fle : FLe F F'
  fnew : ∀ a o, H a = some o → RootO o → F a = none → a ∉ Ad → F' a = none
  apre : ∃ more, Ad' = Ad ++ more ∧ ∀ a ∈ more, H a = none
  keep : ∀ a o, H a = some o → RootO o → F a = none → a ∉ Ad → H' a = some o
  alive : ∀ a, H a ≠ none → H' a ≠ none
section
variable {K : PySem.W.Frag} {F F1 F2 H H1 H2 : Hp} {Ad Ad1 Ad2 : List Addr} {M : List D}
theorem Gr.refl : Gr F Ad H F Ad H := ⟨FLe.refl F, fun _ _ _ _ h _ => h, ⟨[], by simp, by simp⟩, fun _ _ h _ _ _ => h, fun _ h => h⟩
theorem Gr.pre (g : Gr F Ad H F1 Ad1 H1) : ∀ (n : Nat) (a : Addr), Ad[n]? = some a → Ad1[n]? = some a := fun n a h => by
  obtain ⟨more, e, _⟩ := g.apre
  rw [e, List.getElem?_append_left (List.getElem?_eq_some_iff.mp h).1]; exact h
theorem Gr.notin (g : Gr F Ad H F1 Ad1 H1) {a : Addr} (h : H a ≠ none) (n : a ∉ Ad) : a ∉ Ad1 := fun z => by
  obtain ⟨m1, e1, n1⟩ := g.apre
  rw [e1] at z
  rcases List.mem_append.mp z with z | z
  · exact n z
  · exact h (n1 a z)
theorem Gr.trans (g : Gr F Ad H F1 Ad1 H1) (g' : Gr F1 Ad1 H1 F2 Ad2 H2) : Gr F Ad H F2 Ad2 H2 := by
  obtain ⟨m1, e1, n1⟩ := g.apre
  obtain ⟨m2, e2, n2⟩ := g'.apre
  refine ⟨g.fle.trans g'.fle, fun a o h ro nf na => g'.fnew a o (g.keep a o h ro nf na) ro (g.fnew a o h ro nf na) (g.notin (by rw [h]; simp) na), ⟨m1 ++ m2, by rw [e2, e1, List.append_assoc], fun a ha => ?_⟩, fun a o h ro nf na => g'.keep a o (g.keep a o h ro nf na) ro (g.fnew a o h ro nf na) (g.notin (by rw [h]; simp) na), fun a h => g'.alive a (g.alive a h)⟩
  rcases List.mem_append.mp ha with h | h
  · exact n1 a h
  · cases q : H a with
    | none => rfl
    | some o => exact absurd (n2 a h) (g.alive a (by rw [q]; simp))
theorem Root.gr {a d} (g : Gr F Ad H F1 Ad1 H1) (nf : F a = none) (na : a ∉ Ad) (r : Root K F Ad H a d) : Root K F1 Ad1 H1 a d := by
  obtain ⟨o, h, ro⟩ := r.obj
  refine r.mono g.fle g.pre ?_
  rw [h]
  exact g.keep a o h ro nf na
end
inductive B where
  | no | shr (d : D) | own (d : D) | slf (d : D)
  | raw
  | par (d : D)
structure Ent where
  hp : Hp
  fz : Hp
  ad : List Addr
  me : Addr := 0
abbrev EnvM := List B
class ThkP where
  f : Addr
  ent : Ent
variable [ThkP]
def Rt (env : EnvM) (σ : St) (N0 : Ent) (b : Addr) : Prop := (∃ (j : Nat) (e : D), env[j]? = some (B.own e) ∧ σ[j]? = some (some (V.ref b))) ∨ ∃ (j : Nat) (e : D), env[j]? = some (B.slf e) ∧ b = N0.me
def PR (K : PySem.W.Frag) (N0 : Ent) (F : Hp) (Ad : List Addr) (H : Hp) (σ : St) (env : EnvM) (x : Addr) (d : D) : Prop := F x = none ∧ x ∉ Ad ∧ N0.hp x = none ∧ Root K F Ad H x d ∧ ¬ Rt env σ N0 x
structure EnvOk (K : PySem.W.Frag) (N0 : Ent) (F : Hp) (Ad : List Addr) (H : Hp) (σ : St) (env : EnvM) : Prop where
  len : env.length = σ.length
  shr : ∀ (i : Nat) (d : D), env[i]? = some (.shr d) → ∃ v, σ[i]? = some (some v) ∧ Den K F Ad v d
  own : ∀ (i : Nat) (d : D), env[i]? = some (.own d) → ∃ a, σ[i]? = some (some (.ref a)) ∧ F a = none ∧ a ∉ Ad ∧ N0.hp a = none ∧ Root K F Ad H a d
  dis : ∀ (i j : Nat) (d e : D) (a : Addr), env[i]? = some (.own d) → env[j]? = some (.own e) → σ[i]? = some (some (.ref a)) → σ[j]? = some (some (.ref a)) → i = j
  slf : ∀ (i : Nat) (d : D), env[i]? = some (.slf d) → i = 0 ∧ σ[i]? = some (some (.ref N0.me)) ∧ F N0.me = none ∧ N0.me ∉ Ad ∧ N0.hp N0.me = none ∧ Root K F Ad H N0.me d ∧ ∀ (j : Nat) (e : D), env[j]? = some (.own e) → σ[j]? ≠ some (some (.ref N0.me))
  par : ∀ (i : Nat) (d : D), env[i]? = some (.par d) → ∃ a x y d1 d2, d = .tup [d1, d2] ∧ σ[i]? = some (some (.ref a)) ∧ F a = some (.tup [.ref x, .ref y]) ∧ x ≠ y ∧ PR K N0 F Ad H σ env x d1 ∧ PR K N0 F Ad H σ env y d2 ∧ ∀ (j : Nat) (e : D), env[j]? = some (.par e) → j = i
  raw : ∀ (i : Nat), env[i]? = some .raw → σ[i]? = some (some (.ref ThkP.f)) ∧ N0 = ThkP.ent ∧ Gr N0.fz N0.ad N0.hp F Ad H
section
variable {K : PySem.W.Frag} {N0 : Ent} {F F1 H H1 : Hp} {Ad Ad1 : List Addr} {σ : St} {env : EnvM}
theorem EnvOk.parM {F' H' : Hp} {Ad' : List Addr} {σ' : St} {env' : EnvM} (e : EnvOk K N0 F Ad H σ env) (l : FLe F F')
    (hp : ∀ x d, F x = none → x ∉ Ad → N0.hp x = none → Root K F Ad H x d → ¬ Rt env σ N0 x → F' x = none ∧ x ∉ Ad' ∧ Root K F' Ad' H' x d ∧ ¬ Rt env' σ' N0 x)
    (he : ∀ (i : Nat) (d : D), env'[i]? = some (.par d) → env[i]? = some (.par d) ∧ σ'[i]? = σ[i]?) (i : Nat) (d : D) (h : env'[i]? = some (.par d)) :
    ∃ a x y d1 d2, d = .tup [d1, d2] ∧ σ'[i]? = some (some (.ref a)) ∧ F' a = some (.tup [.ref x, .ref y]) ∧ x ≠ y ∧ PR K N0 F' Ad' H' σ' env' x d1 ∧ PR K N0 F' Ad' H' σ' env' y d2 ∧ ∀ (j : Nat) (e : D), env'[j]? = some (.par e) → j = i := by
  obtain ⟨h1, h2⟩ := he i d h
  obtain ⟨a, x, y, d1, d2, q1, q2, q3, q4, ⟨x1, x2, x3, x4, x5⟩, ⟨y1, y2, y3, y4, y5⟩, q7⟩ := e.par i d h1
  obtain ⟨u1, u2, u3, u4⟩ := hp x d1 x1 x2 x3 x4 x5
  obtain ⟨w1, w2, w3, w4⟩ := hp y d2 y1 y2 y3 y4 y5
  exact ⟨a, x, y, d1, d2, q1, by rw [h2]; exact q2, nrm_tup (l a (.tup _) (by rw [q3]; rfl)), q4, ⟨u1, u2, x3, u3, u4⟩, ⟨w1, w2, y3, w3, w4⟩, fun j e hj => q7 j e (he j e hj).1⟩
theorem Rt.set {j : Nat} {v : Option V} {b : B} {x : Addr} (hb : (∀ d, b ≠ .own d) ∧ ∀ d, b ≠ .slf d) (h : Rt (env.set j b) (σ.set j v) N0 x) : Rt env σ N0 x := by
  have hn : ∀ {i : Nat} {c : B}, (env.set j b)[i]? = some c → c ≠ b → j ≠ i ∧ env[i]? = some c := fun {i c} h hc => by
    by_cases e : j = i
    · subst e
      by_cases hl : j < env.length
      · rw [List.getElem?_set_self hl] at h; cases h; exact absurd rfl hc
      · rw [List.getElem?_eq_none (by simpa using hl)] at h; cases h
    · rw [List.getElem?_set_ne e] at h; exact ⟨e, h⟩
  rcases h with ⟨i, e, h1, h2⟩ | ⟨i, e, h1, h2⟩
  · obtain ⟨ne, h1⟩ := hn h1 (Ne.symm (hb.1 e))
    rw [List.getElem?_set_ne ne] at h2
    exact .inl ⟨i, e, h1, h2⟩
  · obtain ⟨ne, h1⟩ := hn h1 (Ne.symm (hb.2 e))
    exact .inr ⟨i, e, h1, h2⟩
theorem Rt.setE {j : Nat} {b : B} {x : Addr} (hb : ((∀ d, b ≠ .own d) ∨ ∃ d, env[j]? = some (.own d)) ∧ ((∀ d, b ≠ .slf d) ∨ ∃ d, env[j]? = some (.slf d))) (h : Rt (env.set j b) σ N0 x) : Rt env σ N0 x := by
  have hn : ∀ {i : Nat} {c : B}, (env.set j b)[i]? = some c → (i = j ∧ c = b) ∨ env[i]? = some c := fun {i c} h => by
    by_cases e : j = i
    · subst e
      by_cases hl : j < env.length
      · rw [List.getElem?_set_self hl] at h; cases h; exact .inl ⟨rfl, rfl⟩
      · rw [List.getElem?_eq_none (by simpa using hl)] at h; cases h
    · rw [List.getElem?_set_ne e] at h; exact .inr h
  rcases h with ⟨i, e, h1, h2⟩ | ⟨i, e, h1, h2⟩
  · rcases hn h1 with ⟨rfl, rfl⟩ | h1
    · rcases hb.1 with q | ⟨d, q⟩
      · exact absurd rfl (q e)
      · exact .inl ⟨i, d, q, h2⟩
    · exact .inl ⟨i, e, h1, h2⟩
  · rcases hn h1 with ⟨rfl, rfl⟩ | h1
    · rcases hb.2 with q | ⟨d, q⟩
      · exact absurd rfl (q e)
      · exact .inr ⟨i, d, q, h2⟩
    · exact .inr ⟨i, e, h1, h2⟩
theorem par_set {j : Nat} {v : Option V} {b : B} (hb : ∀ d, b ≠ .par d) (i : Nat) (d : D) (h : (env.set j b)[i]? = some (.par d)) : env[i]? = some (.par d) ∧ (σ.set j v)[i]? = σ[i]? := by
  have e : j ≠ i := fun e => by
    subst e
    by_cases hl : j < env.length
    · rw [List.getElem?_set_self hl] at h; exact hb d (Option.some.inj h)
    · rw [List.getElem?_eq_none (by simpa using hl)] at h; cases h
  rw [List.getElem?_set_ne e] at h ⊢
  exact ⟨h, rfl⟩
theorem par_setE {j : Nat} {b : B} (hb : ∀ d, b ≠ .par d) (i : Nat) (d : D) (h : (env.set j b)[i]? = some (.par d)) : env[i]? = some (.par d) ∧ σ[i]? = σ[i]? := ⟨(par_set (σ := σ) (v := none) hb i d h).1, rfl⟩
theorem EnvOk.gr (e : EnvOk K N0 F Ad H σ env) (g : Gr F Ad H F1 Ad1 H1) : EnvOk K N0 F1 Ad1 H1 σ env := by
  refine ⟨e.len, fun i d h => ?_, fun i d h => ?_, e.dis, fun i d h => ?_, e.parM g.fle (fun x d h1 h2 h3 h4 h5 => ⟨g.fnew x _ h4.obj.choose_spec.1 h4.obj.choose_spec.2 h1 h2, g.notin (by rw [h4.obj.choose_spec.1]; simp) h2, h4.gr g h1 h2, h5⟩) (fun i d h => ⟨h, rfl⟩), fun i h => ⟨(e.raw i h).1, (e.raw i h).2.1, (e.raw i h).2.2.trans g⟩⟩
  · obtain ⟨v, h1, h2⟩ := e.shr i d h
    exact ⟨v, h1, h2.mono g.fle g.pre⟩
  · obtain ⟨a, h1, h2, h3, h4, h5⟩ := e.own i d h
    obtain ⟨o, ho, ro⟩ := h5.obj
    exact ⟨a, h1, g.fnew a o ho ro h2 h3, g.notin (by rw [ho]; simp) h3, h4, h5.gr g h2 h3⟩
  · obtain ⟨h0, h1, h2, h3, h4, h5, h6⟩ := e.slf i d h
    obtain ⟨o, ho, ro⟩ := h5.obj
    exact ⟨h0, h1, g.fnew _ o ho ro h2 h3, g.notin (by rw [ho]; simp) h3, h4, h5.gr g h2 h3, h6⟩
end
structure Xc where
  c : Str
  fs : List (Str × D)
inductive R where
  | ok (d : D) (M : List D) | exc (x : Xc) (M : List D) | stuck
inductive RL where
  | ok (d : List D) (M : List D) | exc (x : Xc) (M : List D) | stuck
inductive RS where
  | next (env : EnvM) (M : List D) | ret (d : D) (M : List D) | brk (env : EnvM) (M : List D) | cont (env : EnvM) (M : List D)
  | exc (x : Xc) (env : EnvM) (M : List D) | stuck
abbrev EF := EnvM → List D → R
abbrev LF := EnvM → List D → RL
abbrev SF := EnvM → List D → RS
def R.bind (r : R) (k : D → List D → R) : R := match r with
  | .ok d M => k d M | .exc x M => .exc x M | .stuck => .stuck
def R.bindL (r : R) (k : D → List D → RL) : RL := match r with
  | .ok d M => k d M | .exc x M => .exc x M | .stuck => .stuck
def RL.bind (r : RL) (k : List D → List D → R) : R := match r with
  | .ok d M => k d M | .exc x M => .exc x M | .stuck => .stuck
def RL.bindL (r : RL) (k : List D → List D → RL) : RL := match r with
  | .ok d M => k d M | .exc x M => .exc x M | .stuck => .stuck
def R.bindS (r : R) (env : EnvM) (k : D → List D → RS) : RS := match r with
  | .ok d M => k d M | .exc x M => .exc x env M | .stuck => .stuck
@[simp] theorem R.bind_ok {d M k} : (R.ok d M).bind k = k d M := rfl
@[simp] theorem R.bindL_ok {d M k} : (R.ok d M).bindL k = k d M := rfl
@[simp] theorem RL.bind_ok {d M k} : (RL.ok d M).bind k = k d M := rfl
@[simp] theorem RL.bindL_ok {d M k} : (RL.ok d M).bindL k = k d M := rfl
@[simp] theorem R.bindS_ok {d M env k} : (R.ok d M).bindS env k = k d M := rfl
abbrev DRel := Hp → Hp → List Addr → Hp → V → D → Prop
def DE (K : PySem.W.Frag) : DRel := fun _ F Ad _ v d => Den K F Ad v d
def DB (K : PySem.W.Frag) : DRel := fun _ F Ad H v d => Den K F Ad v d ∨ ∃ a, v = .ref a ∧ F a = none ∧ a ∉ Ad ∧ Root K F Ad H a d
def DO (K : PySem.W.Frag) : DRel := fun H0 F Ad H v d => ∃ a, v = .ref a ∧ F a = none ∧ a ∉ Ad ∧ H0 a = none ∧ Root K F Ad H a d
def XOk (K : PySem.W.Frag) (F : Hp) (Ad : List Addr) (H : Hp) (x : Xc) (cls : Value) (dx : Option Addr) : Prop :=
  cls = .ref (He.ga K x.c) ∧ match dx with
    | none => x.fs = []
    | some d => ∃ vs, H d = some (.xd vs) ∧ DenF K F Ad vs x.fs
def RP (K : PySem.W.Frag) (E : XK) (DR : DRel) (F : Hp) (Ad : List Addr) (H : Hp) (Q : VK) : R → Prop
  | .ok d M' => ∀ v F' Ad' H', Gr F Ad H F' Ad' H' → MemOk K F' Ad' M' H' → DR H F' Ad' H' v d → Q v H'
  | .exc x M' => ∀ cls dx F' Ad' H', Gr F Ad H F' Ad' H' → MemOk K F' Ad' M' H' → XOk K F' Ad' H' x cls dx → E cls dx H'
  | .stuck => False
abbrev DRelL := Hp → List Addr → Hp → List V → List D → Prop
def RPL (K : PySem.W.Frag) (E : XK) (DL : DRelL) (F : Hp) (Ad : List Addr) (H : Hp) (Q : List V → Hp → Prop) : RL → Prop
  | .ok d M' => ∀ v F' Ad' H', Gr F Ad H F' Ad' H' → MemOk K F' Ad' M' H' → DL F' Ad' H' v d → Q v H'
  | .exc x M' => ∀ cls dx F' Ad' H', Gr F Ad H F' Ad' H' → MemOk K F' Ad' M' H' → XOk K F' Ad' H' x cls dx → E cls dx H'
  | .stuck => False
def DRok (DR : DRel) : Prop := ∀ F0 Ad0 H0 F Ad H F' Ad' H' v d, Gr F0 Ad0 H0 F Ad H → DR H F' Ad' H' v d → DR H0 F' Ad' H' v d
theorem DE.ok {K} : DRok (DE K) := fun _ _ _ _ _ _ _ _ _ _ _ _ h => h
theorem DB.ok {K} : DRok (DB K) := fun _ _ _ _ _ _ _ _ _ _ _ _ h => h
theorem DO.ok {K} : DRok (DO K) := fun _ _ H0 _ _ H _ _ _ _ _ g ⟨a, h1, h2, h3, h4, h5⟩ => ⟨a, h1, h2, h3, by
  cases q : H0 a with
  | none => rfl
  | some o => exact absurd h4 (g.alive a (by rw [q]; simp)), h5⟩
def DLE (K : PySem.W.Frag) : DRelL := fun F Ad _ vs ds => DenL K F Ad vs ds
inductive DLB (K : PySem.W.Frag) (F : Hp) (Ad : List Addr) (H : Hp) : List V → List D → Prop
  | nil : DLB K F Ad H [] []
  | cons {v d vs ds} : DB K H F Ad H v d → DLB K F Ad H vs ds → DLB K F Ad H (v :: vs) (d :: ds)
section
variable {K : PySem.W.Frag} {E : XK} {DR : DRel} {DL : DRelL} {F F1 H H1 : Hp} {Ad Ad1 : List Addr} {Q : VK}
theorem RP.gr {r : R} (dr : DRok DR) (h : RP K E DR F Ad H Q r) (g : Gr F Ad H F1 Ad1 H1) : RP K E DR F1 Ad1 H1 Q r := by
  cases r with
  | ok d M => exact fun v F' Ad' H' g' m x => h v F' Ad' H' (g.trans g') m (dr _ _ _ _ _ _ _ _ _ _ _ g x)
  | exc x M => exact fun c dx F' Ad' H' g' m z => h c dx F' Ad' H' (g.trans g') m z
  | stuck => exact h
theorem RPL.gr {r : RL} {Q : List V → Hp → Prop} (h : RPL K E DL F Ad H Q r) (g : Gr F Ad H F1 Ad1 H1) : RPL K E DL F1 Ad1 H1 Q r := by
  cases r with
  | ok d M => exact fun v F' Ad' H' g' m x => h v F' Ad' H' (g.trans g') m x
  | exc x M => exact fun c dx F' Ad' H' g' m z => h c dx F' Ad' H' (g.trans g') m z
  | stuck => exact h
theorem DB.gr {v d H0 H0'} (g : Gr F Ad H F1 Ad1 H1) (h : DB K H0 F Ad H v d) : DB K H0' F1 Ad1 H1 v d := by
  rcases h with h | ⟨a, e, n, na, r⟩
  · exact .inl (h.mono g.fle g.pre)
  · obtain ⟨o, ho, ro⟩ := r.obj
    exact .inr ⟨a, e, g.fnew a o ho ro n na, g.notin (by rw [ho]; simp) na, r.gr g n na⟩
theorem DLB.gr (g : Gr F Ad H F1 Ad1 H1) : ∀ {vs ds}, DLB K F Ad H vs ds → DLB K F1 Ad1 H1 vs ds
  | _, _, .nil => .nil
  | _, _, .cons h r => .cons (DB.gr g h) (DLB.gr g r)
theorem DLB.of : ∀ {vs ds}, DenL K F Ad vs ds → DLB K F Ad H vs ds
  | _, _, .nil => .nil
  | _, _, .cons h r => .cons (.inl h) (DLB.of r)
end
def tG (K : PySem.W.Frag) (W : WX) (DR : DRel) (f : EF) : TE := fun σ H Q => ∃ N0 F Ad M env, MemOk K F Ad M H ∧ EnvOk K N0 F Ad H σ env ∧ RP K (fun c d H => W c d σ H) DR F Ad H Q (f env M)
def tL (K : PySem.W.Frag) (W : WX) (DL : DRelL) (f : LF) : TA := fun σ H Q => ∃ N0 F Ad M env, MemOk K F Ad M H ∧ EnvOk K N0 F Ad H σ env ∧ RPL K (fun c d H => W c d σ H) DL F Ad H Q (f env M)
abbrev SE (X : Cx) (W : WX) (e : Expr) (f : EF) : Prop := PE X e (tG X.K W (DE X.K) f)
abbrev SB (X : Cx) (W : WX) (e : Expr) (f : EF) : Prop := PE X e (tG X.K W (DB X.K) f)
abbrev SO (X : Cx) (W : WX) (e : Expr) (f : EF) : Prop := PE X e (tG X.K W (DO X.K) f)
abbrev SL (X : Cx) (W : WX) (es : List Expr) (f : LF) : Prop := PA X es (tL X.K W (DLE X.K) f)
abbrev SLB (X : Cx) (W : WX) (es : List Expr) (f : LF) : Prop := PA X es (tL X.K W (DLB X.K) f)
theorem PE.imp {X : Cx} {e : Expr} {t u : TE} (h : PE X e t) (i : ∀ σ H Q, u σ H Q → t σ H Q) : PE X e u := ⟨fun pins s σ H Q I q => h.run pins s σ H Q I (i σ H Q q)⟩
theorem PA.imp {X : Cx} {e : List Expr} {t u : TA} (h : PA X e t) (i : ∀ σ H Q, u σ H Q → t σ H Q) : PA X e u := ⟨fun pos pins s σ H Q I q => h.run pos pins s σ H Q I (i σ H Q q)⟩
theorem PT.imp {X : Cx} {e : Expr} {t u : TT} (h : PT X e t) (i : ∀ σ H Q, u σ H Q → t σ H Q) : PT X e u := ⟨fun pins s σ H Q I q => h.run pins s σ H Q I (i σ H Q q)⟩
theorem PW.imp {X : Cx} {e : Expr} {t u : TT} (h : PW X e t) (i : ∀ σ H Q, u σ H Q → t σ H Q) : PW X e u := ⟨fun w pins s σ H Q I q => h.run w pins s σ H Q I (i σ H Q q)⟩
theorem PS.imp {X : Cx} {e : Stmt} {t u : TS} (h : PS X e t) (i : ∀ D σ H, u D σ H → t D σ H) : PS X e u := ⟨fun pins s σ H D I q => h.run pins s σ H D I (i D σ H q)⟩
theorem PSs.imp {X : Cx} {e : List Stmt} {t u : TS} (h : PSs X e t) (i : ∀ D σ H, u D σ H → t D σ H) : PSs X e u := ⟨fun pins s σ H D I q => h.run pins s σ H D I (i D σ H q)⟩
section
variable {K : PySem.W.Frag} {W : WX} {DR' : DRel} {DL : DRelL} {N0 : Ent} {F : Hp} {Ad : List Addr} {M : List D} {env : EnvM} {σ : St} {H : Hp}
theorem tG_seq {DR : DRel} {f : EF} {k : D → List D → R} {Q : VK} (dr : DRok DR) (m : MemOk K F Ad M H) (e : EnvOk K N0 F Ad H σ env)
    (h : RP K (fun c d H => W c d σ H) DR F Ad H Q ((f env M).bind k)) {Q' : VK}
    (hq : ∀ d M1 v F1 Ad1 H1, Gr F Ad H F1 Ad1 H1 → MemOk K F1 Ad1 M1 H1 → EnvOk K N0 F1 Ad1 H1 σ env → DR' H F1 Ad1 H1 v d → RP K (fun c d H => W c d σ H) DR F1 Ad1 H1 Q (k d M1) → Q' v H1) : tG K W DR' f σ H Q' := by
  refine ⟨N0, F, Ad, M, env, m, e, ?_⟩
  cases q : f env M with
  | ok d M1 => rw [q] at h; exact fun v F' Ad' H' g m' x => hq d M1 v F' Ad' H' g m' (e.gr g) x (RP.gr dr h g)
  | exc x M1 => rw [q] at h; exact h
  | stuck => rw [q] at h; exact h
theorem tL_seq {DR : DRel} {f : LF} {k : List D → List D → R} {Q : VK} (dr : DRok DR) (m : MemOk K F Ad M H) (e : EnvOk K N0 F Ad H σ env)
    (h : RP K (fun c d H => W c d σ H) DR F Ad H Q ((f env M).bind k)) {Q' : List V → Hp → Prop}
    (hq : ∀ d M1 v F1 Ad1 H1, Gr F Ad H F1 Ad1 H1 → MemOk K F1 Ad1 M1 H1 → EnvOk K N0 F1 Ad1 H1 σ env → DL F1 Ad1 H1 v d → RP K (fun c d H => W c d σ H) DR F1 Ad1 H1 Q (k d M1) → Q' v H1) : tL K W DL f σ H Q' := by
  refine ⟨N0, F, Ad, M, env, m, e, ?_⟩
  cases q : f env M with
  | ok d M1 => rw [q] at h; exact fun v F' Ad' H' g m' x => hq d M1 v F' Ad' H' g m' (e.gr g) x (RP.gr dr h g)
  | exc x M1 => rw [q] at h; exact h
  | stuck => rw [q] at h; exact h
theorem tG_seqL {f : EF} {k : D → List D → RL} {Q : List V → Hp → Prop} (m : MemOk K F Ad M H) (e : EnvOk K N0 F Ad H σ env)
    (h : RPL K (fun c d H => W c d σ H) DL F Ad H Q ((f env M).bindL k)) {Q' : VK}
    (hq : ∀ d M1 v F1 Ad1 H1, Gr F Ad H F1 Ad1 H1 → MemOk K F1 Ad1 M1 H1 → EnvOk K N0 F1 Ad1 H1 σ env → DR' H F1 Ad1 H1 v d → RPL K (fun c d H => W c d σ H) DL F1 Ad1 H1 Q (k d M1) → Q' v H1) : tG K W DR' f σ H Q' := by
  refine ⟨N0, F, Ad, M, env, m, e, ?_⟩
  cases q : f env M with
  | ok d M1 => rw [q] at h; exact fun v F' Ad' H' g m' x => hq d M1 v F' Ad' H' g m' (e.gr g) x (RPL.gr h g)
  | exc x M1 => rw [q] at h; exact h
  | stuck => rw [q] at h; exact h
theorem tL_seqL {DL' : DRelL} {f : LF} {k : List D → List D → RL} {Q : List V → Hp → Prop} (m : MemOk K F Ad M H) (e : EnvOk K N0 F Ad H σ env)
    (h : RPL K (fun c d H => W c d σ H) DL F Ad H Q ((f env M).bindL k)) {Q' : List V → Hp → Prop}
    (hq : ∀ d M1 v F1 Ad1 H1, Gr F Ad H F1 Ad1 H1 → MemOk K F1 Ad1 M1 H1 → EnvOk K N0 F1 Ad1 H1 σ env → DL' F1 Ad1 H1 v d → RPL K (fun c d H => W c d σ H) DL F1 Ad1 H1 Q (k d M1) → Q' v H1) : tL K W DL' f σ H Q' := by
  refine ⟨N0, F, Ad, M, env, m, e, ?_⟩
  cases q : f env M with
  | ok d M1 => rw [q] at h; exact fun v F' Ad' H' g m' x => hq d M1 v F' Ad' H' g m' (e.gr g) x (RPL.gr h g)
  | exc x M1 => rw [q] at h; exact h
  | stuck => rw [q] at h; exact h
end
theorem tabs_mono {T : List (Addr × Str)} {H H' : Hp} (t : LamX.Tabs T H) (k : ∀ b o, H b = some o → ¬ RootO o → H' b = some o) : LamX.Tabs T H' := fun p hp => by
  obtain ⟨ps, h1, h2, h3⟩ := t p hp
  refine ⟨ps, k _ _ h1 id, h2, fun pos cv hc => ?_⟩
  obtain ⟨c, e1, e2⟩ := h3 pos cv hc
  exact ⟨c, e1, k _ _ e2 id⟩
theorem tabs_new {T : List (Addr × Str)} {H : Hp} {p : Addr} {o : HO} (t : LamX.Tabs T H) (hp : H p = none) : LamX.Tabs T (upd H p o) := tabs_mono t fun b u h _ => by
  rw [upd_ne (fun e => by rw [e, hp] at h; cases h)]; exact h
theorem tabs_root {T : List (Addr × Str)} {H : Hp} {p : Addr} {o u : HO} (t : LamX.Tabs T H) (hp : H p = some u) (ru : RootO u) : LamX.Tabs T (upd H p o) := tabs_mono t fun b v h n => by
  rw [upd_ne (fun e => by rw [e, hp] at h; cases h; exact n ru)]; exact h
end MP
set_option maxRecDepth 100000
set_option maxHeartbeats 1000000
namespace MP
open PySem PySem.Spec PyProof.Rows L2
variable [TabsP] [ThkP]
section
variable {X : Cx} {W : WX} {K : PySem.W.Frag} {E : XK} {DR : DRel} {N0 : Ent} {H0 F H : Hp} {Ad : List Addr} {M : List D} {env : EnvM} {σ : St} {Q : VK}
theorem RP.here {v d} (h : RP K E DR F Ad H Q (.ok d M)) (m : MemOk K F Ad M H) (x : DR H F Ad H v d) : Q v H := h v F Ad H Gr.refl m x
theorem fle_new {p : Addr} {o : HO} (h : F p = none) : FLe F (upd F p o) := ⟨fun b u hb => by
  by_cases eb : b = p
  · subst eb; rw [h] at hb; cases hb
  · rw [upd_ne eb]; exact hb, fun b o' u hb => by
  by_cases eb : b = p
  · subst eb; rw [h] at hb; cases hb
  · rw [upd_ne eb]; exact hb⟩
theorem mem_new {p : Addr} {o : HO} (m : MemOk K F Ad M H) (hp : H p = none) : MemOk K (upd F p o) Ad M (upd H p o) := by
  have hF : F p = none := by
    cases q : F p with
    | none => rfl
    | some u => rw [m.sub p u q] at hp; cases hp
  refine ⟨fun a u h => ?_, m.len, m.nd, fun n a d h1 h2 => ?_, tabs_new m.tab hp⟩
  · by_cases e : a = p
    · subst e; rw [upd_same] at h ⊢; exact h
    · rw [upd_ne e] at h ⊢; exact m.sub a u h
  · obtain ⟨f, r⟩ := m.cel n a d h1 h2
    obtain ⟨u, hu, _⟩ := r.obj
    have e : a ≠ p := fun e => by rw [e, hp] at hu; cases hu
    refine ⟨by rw [upd_ne e]; exact f, r.mono (fle_new hF) (fun _ _ h => h) (by rw [upd_ne e])⟩
theorem MemOk.none (m : MemOk K F Ad M H) {p : Addr} (hp : H p = Option.none) : F p = Option.none := by
  cases q : F p with
  | none => rfl
  | some u => rw [m.sub p u q] at hp; cases hp
theorem MemOk.notin (m : MemOk K F Ad M H) {p : Addr} (hp : H p = Option.none) : p ∉ Ad := fun z => by
  obtain ⟨n, hn, e⟩ := List.mem_iff_getElem.mp z
  have h1 : Ad[n]? = some p := by rw [List.getElem?_eq_getElem hn, e]
  have h2 : n < M.length := by rw [← m.len]; exact hn
  obtain ⟨_, r⟩ := m.cel n p M[n] h1 (List.getElem?_eq_getElem h2)
  obtain ⟨o, ho, _⟩ := r.obj
  rw [hp] at ho; cases ho
theorem gr_new {p : Addr} {o : HO} (m : MemOk K F Ad M H) (hp : H p = none) : Gr F Ad H (upd F p o) Ad (upd H p o) := by
  refine ⟨fle_new (m.none hp), fun a o' h' _ h _ => ?_, ⟨[], by simp, by simp⟩, fun a u h _ _ _ => ?_, fun a h => ?_⟩
  · rw [upd_ne (fun e => by rw [e, hp] at h'; cases h')]; exact h
  · rw [upd_ne (fun e => by rw [e, hp] at h; cases h)]; exact h
  · rw [upd_ne (fun e => h (by rw [e]; exact hp))]; exact h
theorem mem_own {p : Addr} {o : HO} (m : MemOk K F Ad M H) (hp : H p = none) : MemOk K F Ad M (upd H p o) := by
  refine ⟨fun a u h => ?_, m.len, m.nd, fun n a d h1 h2 => ?_, tabs_new m.tab hp⟩
  · rw [upd_ne (fun e => by rw [e, m.none hp] at h; cases h)]; exact m.sub a u h
  · obtain ⟨f, r⟩ := m.cel n a d h1 h2
    obtain ⟨u, hu, _⟩ := r.obj
    have e : a ≠ p := fun e => by rw [e, hp] at hu; cases hu
    exact ⟨f, r.mono (FLe.refl F) (fun _ _ h => h) (by rw [upd_ne e])⟩
theorem gr_own {p : Addr} {o : HO} (hp : H p = none) : Gr F Ad H F Ad (upd H p o) := by
  refine ⟨FLe.refl F, fun a _ _ _ h _ => h, ⟨[], by simp, by simp⟩, fun a u h _ _ _ => ?_, fun a h => ?_⟩
  · rw [upd_ne (fun e => by rw [e, hp] at h; cases h)]; exact h
  · rw [upd_ne (fun e => h (by rw [e]; exact hp))]; exact h
theorem RP.newTup {vs ds} {p : Addr} (h : RP K E (DE K) F Ad H Q (.ok (.tup ds) M)) (m : MemOk K F Ad M H) (x : DenL K F Ad vs ds) (hp : H p = none) : Q (.ref p) (upd H p (.tup vs)) :=
  h _ _ _ _ (gr_new m hp) (mem_new m hp) (.tup (.inl upd_same) (x.mono (fle_new (m.none hp)) fun _ _ h => h))
theorem RP.newLst {vs ds} {p : Addr} (h : RP K E (DE K) F Ad H Q (.ok (.lst ds) M)) (m : MemOk K F Ad M H) (x : DenL K F Ad vs ds) (hp : H p = none) : Q (.ref p) (upd H p (.lst vs)) :=
  h _ _ _ _ (gr_new m hp) (mem_new m hp) (.lst upd_same (x.mono (fle_new (m.none hp)) fun _ _ h => h))
theorem RP.ownLst {vs ds} {p : Addr} (h : RP K E (DO K) F Ad H Q (.ok (.lst ds) M)) (m : MemOk K F Ad M H) (x : DenL K F Ad vs ds) (hp : H p = none) : Q (.ref p) (upd H p (.lst vs)) :=
  h _ _ _ _ (gr_own hp) (mem_own m hp) ⟨p, rfl, m.none hp, m.notin hp, hp, .lst upd_same x⟩
theorem freeze {F0 H0' : Hp} {Ad0 : List Addr} {v d} (g : Gr F0 Ad0 H0' F Ad H) (m : MemOk K F Ad M H) (h : DO K H0' F Ad H v d) : ∃ F', Gr F0 Ad0 H0' F' Ad H ∧ MemOk K F' Ad M H ∧ Den K F' Ad v d ∧ FLe F F' ∧ ∀ b, F b = none → v ≠ .ref b → F' b = none := by
  obtain ⟨a, rfl, n, na, n0, r⟩ := h
  obtain ⟨o, ho, _⟩ := r.obj
  have fl : FLe F (upd F a o) := fle_new n
  refine ⟨upd F a o, ⟨g.fle.trans fl, fun b ob hb ro h1 na1 => ?_, g.apre, g.keep, g.alive⟩, ⟨fun b u h => ?_, m.len, m.nd, fun k b e h1 h2 => ?_, m.tab⟩, ?_, fl, fun b hb ne => ?_⟩
  · rw [upd_ne (fun e => by rw [e, n0] at hb; cases hb)]; exact g.fnew b ob hb ro h1 na1
  · by_cases e : b = a
    · subst e; rw [upd_same] at h; cases h; exact ho
    · rw [upd_ne e] at h; exact m.sub b u h
  · obtain ⟨f, q⟩ := m.cel k b e h1 h2
    have ne : b ≠ a := fun z => na (z ▸ List.mem_of_getElem? h1)
    exact ⟨by rw [upd_ne ne]; exact f, q.mono fl (fun _ _ h => h) rfl⟩
  · cases r with
    | lst h r => rw [h] at ho; cases ho; exact .lst upd_same (r.mono fl fun _ _ h => h)
    | dK h r => rw [h] at ho; cases ho; exact .dK (by rw [upd_same]; rfl) (r.mono fl fun _ _ h => h)
    | dT h r => rw [h] at ho; cases ho; exact .dT (by rw [upd_same]; rfl) (r.mono fl fun _ _ h => h)
    | ins h r => rw [h] at ho; cases ho; exact .ins upd_same (r.mono fl fun _ _ h => h)
  · rw [upd_ne (fun e => ne (by rw [e]))]; exact hb
theorem SO.e {e : Expr} {f : EF} (h : SO X W e f) : SE X W e f := PE.imp h fun σ H Q ⟨N0, F, Ad, M, env, m, en, r⟩ => ⟨N0, F, Ad, M, env, m, en, by
  cases q : f env M with
  | ok d M1 =>
    rw [q] at r
    intro v F' Ad' H' g m' x
    obtain ⟨F2, g2, m2, x2, _⟩ := freeze g m' x
    exact r v F2 Ad' H' g2 m2 x2
  | exc x M1 => rw [q] at r; exact r
  | stuck => rw [q] at r; exact r⟩
theorem SE.b {e : Expr} {f : EF} (h : SE X W e f) : SB X W e f := PE.imp h fun σ H Q ⟨N0, F, Ad, M, env, m, en, r⟩ => ⟨N0, F, Ad, M, env, m, en, by
  cases q : f env M with
  | ok d M1 => rw [q] at r; exact fun v F' Ad' H' g m' x => r v F' Ad' H' g m' (.inl x)
  | exc x M1 => rw [q] at r; exact r
  | stuck => rw [q] at r; exact r⟩
def eCell (f : EF) : EF := fun env M => (f env M).bind fun d M1 => .ok (.cel M1.length) (M1 ++ [d])
theorem SO.cell {e : Expr} {f : EF} (h : SO X W e f) : SE X W e (eCell f) := PE.imp h fun σ H Q ⟨N0, F, Ad, M, env, m, en, r⟩ => ⟨N0, F, Ad, M, env, m, en, by
  unfold eCell at r
  cases q : f env M with
  | ok d M1 =>
    rw [q] at r
    rintro v F' Ad' H' g m' ⟨a, rfl, n, na, n0, x⟩
    obtain ⟨more, e1, e2⟩ := g.apre
    obtain ⟨o, ho, _⟩ := x.obj
    have pre : ∀ (k : Nat) (b : Addr), Ad'[k]? = some b → (Ad' ++ [a])[k]? = some b := fun k b h => by
      rw [List.getElem?_append_left (List.getElem?_eq_some_iff.mp h).1]; exact h
    have hl : (Ad' ++ [a])[M1.length]? = some a := by
      rw [← m'.len, List.getElem?_append_right (Nat.le_refl _)]; simp
    refine r (.ref a) F' (Ad' ++ [a]) H' ⟨g.fle, g.fnew, ⟨more ++ [a], by rw [e1, List.append_assoc], fun b hb => ?_⟩, g.keep, g.alive⟩ ⟨m'.sub, by simp [m'.len], ?_, fun k b d' h1 h2 => ?_, m'.tab⟩ (.cel hl)
    · rcases List.mem_append.mp hb with z | z
      · exact e2 b z
      · simp at z; subst z; exact n0
    · rw [List.nodup_append]
      exact ⟨m'.nd, by simp, fun x hx y hy => by simp at hy; subst hy; exact fun z => na (z ▸ hx)⟩
    · by_cases hk : k < Ad'.length
      · rw [List.getElem?_append_left hk] at h1
        rw [List.getElem?_append_left (by rw [← m'.len]; exact hk)] at h2
        obtain ⟨f1, q1⟩ := m'.cel k b d' h1 h2
        exact ⟨f1, q1.mono (FLe.refl _) pre rfl⟩
      · have hk2 : k = Ad'.length := by
          have := (List.getElem?_eq_some_iff.mp h1).1
          simp at this; omega
        subst hk2
        rw [m'.len, hl] at h1
        rw [m'.len] at h2
        simp at h1 h2
        subst h1; subst h2
        exact ⟨n, x.mono (FLe.refl _) pre rfl⟩
  | exc x M1 => rw [q] at r; exact r
  | stuck => rw [q] at r; exact r⟩
def eC (d : D) : EF := fun _ M => .ok d M
theorem se_int {i j pos} : SE X W (.Constant (.int i) j pos) (eC (.int i)) := PE.imp pe_int fun _ _ _ ⟨_, _, _, _, _, m, _, h⟩ => RP.here h m .int
theorem se_bl {i j pos} : SE X W (.Constant (.bool i) j pos) (eC (.bl i)) := PE.imp pe_bl fun _ _ _ ⟨_, _, _, _, _, m, _, h⟩ => RP.here h m .bl
theorem se_non {j pos} : SE X W (.Constant .none j pos) (eC .non) := PE.imp pe_non fun _ _ _ ⟨_, _, _, _, _, m, _, h⟩ => RP.here h m .non
theorem se_str {i j pos} : SE X W (.Constant (.str i) j pos) (eC (.str i)) := PE.imp pe_str fun _ _ _ ⟨_, _, _, _, _, m, _, h⟩ => RP.here h m .str
theorem se_globI {x : Str} {i : Int} {pos} (hg : Gl X x) (hm : ∃ t, X.mg x = some (.int i t)) (hd : (x == ("__debug__" : Str)) = false := by decide) : SE X W (.Name x pos) (eC (.int i)) := by
  obtain ⟨t, e⟩ := hm
  exact PE.imp (pe_glob (v := .int i) hg e ⟨t, rfl⟩ hd) fun _ _ _ ⟨_, _, _, _, _, m, _, h⟩ => RP.here h m .int
def eV (i : Nat) : EF := fun env M => match env[i]? with | some (.shr d) => .ok d M | _ => .stuck
def eVB (i : Nat) : EF := fun env M => match env[i]? with | some (.shr d) => .ok d M | some (.own d) => .ok d M | some (.slf d) => .ok d M | _ => .stuck
theorem se_var {i : Nat} {x : Str} {pos : Pos} (hN : X.N[i]? = some x) (hv : Vis X.env.scope x) (hd : (x == ("__debug__" : Str)) = false := by decide) (hcd : (x == ("__classdict__" : Str)) = false := by decide) : SE X W (.Name x pos) (eV i) :=
  PE.imp (pe_var hN hv hd hcd) fun σ H Q ⟨N0, F, Ad, M, env, m, en, r⟩ => by
    unfold eV at r
    split at r
    · rename_i d e
      obtain ⟨v, h1, h2⟩ := en.shr i d e
      exact ⟨v, h1, RP.here r m h2⟩
    · exact r.elim
theorem sb_var {i : Nat} {x : Str} {pos : Pos} (hN : X.N[i]? = some x) (hv : Vis X.env.scope x) (hd : (x == ("__debug__" : Str)) = false := by decide) (hcd : (x == ("__classdict__" : Str)) = false := by decide) : SB X W (.Name x pos) (eVB i) :=
  PE.imp (pe_var hN hv hd hcd) fun σ H Q ⟨N0, F, Ad, M, env, m, en, r⟩ => by
    unfold eVB at r
    split at r
    · rename_i d e
      obtain ⟨v, h1, h2⟩ := en.shr i d e
      exact ⟨v, h1, RP.here r m (.inl h2)⟩
    · rename_i d e
      obtain ⟨a, h1, h2, h3, h4, h5⟩ := en.own i d e
      exact ⟨.ref a, h1, RP.here r m (.inr ⟨a, rfl, h2, h3, h5⟩)⟩
    · rename_i d e
      obtain ⟨h0, h1, h2, h3, h4, h5, h6⟩ := en.slf i d e
      exact ⟨.ref _, h1, RP.here r m (.inr ⟨_, rfl, h2, h3, h5⟩)⟩
    · exact r.elim
def view (M : List D) : D → D
  | .cel n => (M[n]?).getD (.cel n)
  | d => d
def Op2 (X : Cx) (DR : DRel) (f : Value → Value → Sem Value) (g : D → D → List D → R) : Prop :=
  ∀ (pins : List (Addr × Obj)) (s : Shared) (σ : St) (H F : Hp) (Ad : List Addr) (M : List D) (E : XK) (x y : V) (v u : Value) (dx dy : D) (Q : VK), Inv X pins σ H s → MemOk X.K F Ad M H → RelV x v → RelV y u → DB X.K H F Ad H x dx → DB X.K H F Ad H y dy →
    RP X.K E DR F Ad H Q (g dx dy M) → wpAny (model X.prog X.w) X.A (f v u) (EP X pins σ Q) X.xe s
def e2 (g : D → D → List D → R) (a b : EF) : EF := fun env M => (a env M).bind fun x M1 => (b env M1).bind fun y M2 => g x y M2
theorem s_bin {DR : DRel} (dr : DRok DR) {op : Operator} {g : D → D → List D → R} {a b : Expr} {fa fb : EF} {pos : Pos} (ho : Op2 X DR (binaryOp op) g) (ha : SB X W a fa) (hb : SB X W b fb) : PE X (.BinOp a op b pos) (tG X.K W DR (e2 g fa fb)) := by
  refine ⟨fun pins s σ H Q I ⟨N0, F, Ad, M, env, m, en, r⟩ => ?_⟩
  refine wpAny_BinOp (binT (R := fun x y H2 => ∃ F2 Ad2 M2 dx dy, MemOk X.K F2 Ad2 M2 H2 ∧ DB X.K H2 F2 Ad2 H2 x dx ∧ DB X.K H2 F2 Ad2 H2 y dy ∧ RP X.K (fun c d H => W c d σ H) DR F2 Ad2 H2 Q (g dx dy M2)) ha hb I ?_ ?_)
  · refine tG_seq dr m en r fun d M1 v F1 Ad1 H1 g1 m1 en1 x1 r1 => ?_
    refine tG_seq dr m1 en1 r1 fun d2 M2 v2 F2 Ad2 H2 g2 m2 en2 x2 r2 => ?_
    exact ⟨F2, Ad2, M2, d, d2, m2, DB.gr g2 x1, x2, r2⟩
  · rintro v u s2 x y H2 I2 rx ry ⟨F2, Ad2, M2, dx, dy, m2, x1, x2, r2⟩
    exact ho pins s2 σ H2 F2 Ad2 M2 _ x y v u dx dy Q I2 m2 rx ry x1 x2 r2
theorem s_pc {DR : DRel} (dr : DRok DR) {op : CmpOp} {g : D → D → List D → R} {a b : Expr} {fa fb : EF} (ho : Op2 X DR (compareOp op) g) (ha : SB X W a fa) (hb : SB X W b fb) : PC X op a b (tG X.K W DR (e2 g fa fb)) := by
  refine ⟨fun pins s σ H Q I ⟨N0, F, Ad, M, env, m, en, r⟩ => ?_⟩
  refine binT (R := fun x y H2 => ∃ F2 Ad2 M2 dx dy, MemOk X.K F2 Ad2 M2 H2 ∧ DB X.K H2 F2 Ad2 H2 x dx ∧ DB X.K H2 F2 Ad2 H2 y dy ∧ RP X.K (fun c d H => W c d σ H) DR F2 Ad2 H2 Q (g dx dy M2)) ha hb I ?_ ?_
  · refine tG_seq dr m en r fun d M1 v F1 Ad1 H1 g1 m1 en1 x1 r1 => ?_
    refine tG_seq dr m1 en1 r1 fun d2 M2 v2 F2 Ad2 H2 g2 m2 en2 x2 r2 => ?_
    exact ⟨F2, Ad2, M2, d, d2, m2, DB.gr g2 x1, x2, r2⟩
  · rintro v u s2 x y H2 I2 rx ry ⟨F2, Ad2, M2, dx, dy, m2, x1, x2, r2⟩
    exact ho pins s2 σ H2 F2 Ad2 M2 _ x y v u dx dy Q I2 m2 rx ry x1 x2 r2
theorem s_cmp {DR : DRel} (dr : DRok DR) {op : CmpOp} {g : D → D → List D → R} {a b : Expr} {fa fb : EF} {pos : Pos} (ho : Op2 X DR (compareOp op) g) (ha : SB X W a fa) (hb : SB X W b fb) (hm : behindInMarks op b = false) : PE X (.Compare a [op] [b] pos) (tG X.K W DR (e2 g fa fb)) :=
  pe_cmp (s_pc dr ho ha hb) hm
def Op1 (X : Cx) (DR : DRel) (f : Value → Sem Value) (g : D → List D → R) : Prop :=
  ∀ (pins : List (Addr × Obj)) (s : Shared) (σ : St) (H F : Hp) (Ad : List Addr) (M : List D) (E : XK) (x : V) (v : Value) (dx : D) (Q : VK), Inv X pins σ H s → MemOk X.K F Ad M H → RelV x v → DB X.K H F Ad H x dx →
    RP X.K E DR F Ad H Q (g dx M) → wpAny (model X.prog X.w) X.A (f v) (EP X pins σ Q) X.xe s
def e1 (g : D → List D → R) (a : EF) : EF := fun env M => (a env M).bind g
theorem s_un {DR : DRel} (dr : DRok DR) {op : UnaryOp} {g : D → List D → R} {a : Expr} {fa : EF} {pos : Pos} (ho : Op1 X DR (unaryOp op) g) (ha : SB X W a fa) : PE X (.UnaryOp op a pos) (tG X.K W DR (e1 g fa)) := by
  refine ⟨fun pins s σ H Q I ⟨N0, F, Ad, M, env, m, en, r⟩ => ?_⟩
  refine UnaryOp_ (thn (ha.run pins s σ H _ I (tG_seq (Q' := fun v H1 => ∃ F1 Ad1 M1 d, MemOk X.K F1 Ad1 M1 H1 ∧ DB X.K H1 F1 Ad1 H1 v d ∧ RP X.K (fun c d H => W c d σ H) DR F1 Ad1 H1 Q (g d M1)) dr m en r fun d M1 v F1 Ad1 H1 g1 m1 en1 x1 r1 => ⟨F1, Ad1, M1, d, m1, x1, r1⟩)) fun u s1 ⟨x, H1, I1, rx, F1, Ad1, M1, d, m1, x1, r1⟩ => ?_)
  exact ho pins s1 σ H1 F1 Ad1 M1 _ x u d Q I1 m1 rx x1 r1
end
end MP
set_option maxRecDepth 100000
set_option maxHeartbeats 1000000
namespace MP
open PySem PySem.Spec PyProof.Rows L2
variable [TabsP] [ThkP]
section
variable {P : Program} {w : World} {A : Around} {E : Value → Shared → Prop} {s : Shared}
inductive HitT (A : Around) (s : Shared) (kb : List (List Key × Addr × Value)) : List (List Key × Addr × Value) → Bool → Prop
  | nil : HitT A s kb [] true
  | miss {p r} : (∀ (j : Nat) (q : Addr × Value), kb[j]? ≠ some (p.1, q)) → HitT A s kb (p :: r) false
  | no {p r} {j : Nat} {q : Addr × Value} : kb[j]? = some (p.1, q) → SeqAt.EqAt A s p.2.2 q.2 false → HitT A s kb (p :: r) false
  | yes {p r b} {j : Nat} {q : Addr × Value} : kb[j]? = some (p.1, q) → SeqAt.EqAt A s p.2.2 q.2 true → HitT A s kb r b → HitT A s kb (p :: r) b
end
end MP
set_option maxRecDepth 100000
set_option maxHeartbeats 1000000
namespace MP
open PySem PySem.Spec PyProof.Rows L2
variable [TabsP] [ThkP]
section
variable {X : Cx} {W : WX} {K : PySem.W.Frag} {E : XK} {DR : DRel} {N0 : Ent} {H0 F H : Hp} {Ad : List Addr} {M : List D} {env : EnvM} {σ : St} {Q : VK} {x : V}
def DV (K : PySem.W.Frag) (F : Hp) (Ad : List Addr) (H : Hp) (v : V) (d : D) : Prop := Den K F Ad v d ∨ ∃ a, v = .ref a ∧ Root K F Ad H a d
theorem DB.view (m : MemOk K F Ad M H) {d} (h : DB K H0 F Ad H x d) : DV K F Ad H x (view M d) := by
  cases d with
  | cel n =>
    rcases h with h | ⟨a, e, nn, na, r⟩
    · cases h with
      | @cel a _ h =>
        have hn : n < M.length := by rw [← m.len]; exact (List.getElem?_eq_some_iff.mp h).1
        have e2 : M[n]? = some M[n] := List.getElem?_eq_getElem hn
        obtain ⟨f, r⟩ := m.cel n a M[n] h e2
        show DV K F Ad H (.ref a) ((M[n]?).getD (.cel n))
        rw [e2]
        exact .inr ⟨a, rfl, r⟩
    · cases r
  | _ =>
    rcases h with h | ⟨a, e, nn, na, r⟩
    · exact .inl h
    · exact .inr ⟨a, e, r⟩
theorem DV.int {i} (h : DV K F Ad H x (.int i)) : x = .int i := by
  rcases h with h | ⟨a, e, r⟩
  · cases h; rfl
  · cases r
theorem DV.bl {i} (h : DV K F Ad H x (.bl i)) : x = .bl i := by
  rcases h with h | ⟨a, e, r⟩
  · cases h; rfl
  · cases r
theorem DV.str {i} (h : DV K F Ad H x (.str i)) : x = .str i := by
  rcases h with h | ⟨a, e, r⟩
  · cases h; rfl
  · cases r
theorem DV.non (h : DV K F Ad H x .non) : x = .non := by
  rcases h with h | ⟨a, e, r⟩
  · cases h; rfl
  · cases r
theorem sqT_sub (m : MemOk K F Ad M H) {a vs} (h : SqT K F a vs) : SqT K H a vs := by
  rcases h with (h | ⟨o, h⟩) | h
  · exact .inl (.inl (m.sub a _ h))
  · exact .inl (.inr ⟨o, m.sub a _ h⟩)
  · exact .inr h
theorem sqL_sub (m : MemOk K F Ad M H) {a vs} (h : SqL K F a vs) : SqL K H a vs := by
  rcases h with (h | ⟨o, h⟩) | h
  · exact .inl (.inl (m.sub a _ h))
  · exact .inl (.inr ⟨o, m.sub a _ h⟩)
  · exact .inr h
theorem DV.tup (m : MemOk K F Ad M H) {ds} (h : DV K F Ad H x (.tup ds)) : ∃ a vs, x = .ref a ∧ SqT K H a vs ∧ DenL K F Ad vs ds := by
  rcases h with h | ⟨a, e, r⟩
  · cases h with | tup h r => exact ⟨_, _, rfl, sqT_sub m h.sq, r⟩
  · cases r
theorem DV.ktp (m : MemOk K F Ad M H) {ds} (h : DV K F Ad H x (.ktp ds)) : ∃ a vs, x = .ref a ∧ SqT K H a vs ∧ DenL K F Ad vs ds := by
  rcases h with h | ⟨a, e, r⟩
  · cases h with | ktp h r => exact ⟨_, _, rfl, sqT_sub m h, r⟩
  · cases r
theorem DV.lst (m : MemOk K F Ad M H) {ds} (h : DV K F Ad H x (.lst ds)) : ∃ a vs, x = .ref a ∧ H a = some (.lst vs) ∧ DenL K F Ad vs ds := by
  rcases h with h | ⟨a, e, r⟩
  · cases h with | lst h r => exact ⟨_, _, rfl, m.sub _ _ h, r⟩
  · cases r with | lst h r => exact ⟨_, _, e, h, r⟩
theorem DV.scr (m : MemOk K F Ad M H) {ns} (h : DV K F Ad H x (.scr ns)) : ∃ a, x = .ref a ∧ SqL K H a (ns.map V.int) := by
  rcases h with h | ⟨a, e, r⟩
  · cases h with | scr h => exact ⟨_, rfl, sqL_sub m h⟩
  · cases r
theorem DV.ins (m : MemOk K F Ad M H) {c ds} (h : DV K F Ad H x (.ins c ds)) : ∃ a dx vs, x = .ref a ∧ H a = some (.ins (He.ga K c) dx vs) ∧ DenF K F Ad vs ds := by
  rcases h with h | ⟨a, e, r⟩
  · cases h with | ins h r => exact ⟨_, _, _, rfl, m.sub _ _ h, r⟩
  · cases r with | ins h r => exact ⟨_, _, _, e, h, r⟩
theorem DV.den {d} (h : DV K F Ad H x d) (n : ∀ a, ¬ Root K F Ad H a d) : Den K F Ad x d := by
  rcases h with h | ⟨a, e, r⟩
  · exact h
  · exact absurd r (n a)
def oAdd (x y : D) (M : List D) : R := match view M x, view M y with
  | .int i, .int j => .ok (.int (i + j)) M
  | .str a, .str b => if a.length + b.length ≤ sizeLine then .ok (.str (a ++ b)) M else .stuck
  | .tup a, .tup b => if a.length + b.length ≤ sizeLine then .ok (.tup (a ++ b)) M else .stuck
  | .lst a, .lst b => if a.length + b.length ≤ sizeLine then .ok (.lst (a ++ b)) M else .stuck
  | _, _ => .stuck
theorem op2_add : Op2 X (DE X.K) (binaryOp .Add) oAdd := by
  intro pins s σ H F Ad M E x y v u dx dy Q I m rx ry hx hy r
  have ax := DB.view m hx
  have ay := DB.view m hy
  unfold oAdd at r
  revert r ax ay
  generalize view M dx = ex
  generalize view M dy = ey
  intro r ax ay
  split at r
  · exact op_add pins s σ H x y v u Q I rx ry ⟨_, _, ax.int, ay.int, RP.here r m .int⟩
  · rename_i a b
    split at r
    · rename_i h; exact op_add_str pins s σ H x y v u Q I rx ry ⟨_, _, ax.str, ay.str, h, RP.here r m .str⟩
    · exact r.elim
  · rename_i a b
    split at r
    · rename_i h
      obtain ⟨p, vs, rfl, h1, d1⟩ := ax.tup m
      obtain ⟨q, ws, rfl, h2, d2⟩ := ay.tup m
      have l1 := d1.length
      have l2 := d2.length
      refine op_catA pins s σ H _ _ v u Q I rx ry ⟨p, q, vs, ws, rfl, rfl, h1, h2, by omega, fun e => ?_, fun e e2 => ?_, fun e e2 c hc => ?_⟩
      · subst e; cases d1; exact RP.here r m (ay.den fun _ h => nomatch h)
      · subst e2; cases d2; rw [List.append_nil] at r; exact RP.here r m (ax.den fun _ h => nomatch h)
      · exact RP.newTup r m (d1.append d2) hc
    · exact r.elim
  · rename_i a b
    split at r
    · rename_i h
      obtain ⟨p, vs, rfl, h1, d1⟩ := ax.lst m
      obtain ⟨q, ws, rfl, h2, d2⟩ := ay.lst m
      have l1 := d1.length
      have l2 := d2.length
      refine op_cat pins s σ H _ _ v u Q I rx ry ⟨p, q, vs, ws, rfl, rfl, h1, h2, by omega, fun c hc => RP.newLst r m (d1.append d2) hc⟩
    · exact r.elim
  · exact r.elim
theorem op2_int {f : Value → Value → Sem Value} {C : Int → Int → Prop} [DecidableRel C] {g : Int → Int → Int} (h : OpR X f (rI C fun i j => .int (g i j))) :
    Op2 X (DE X.K) f (fun x y M => match view M x, view M y with | .int i, .int j => if C i j then .ok (.int (g i j)) M else .stuck | _, _ => .stuck) := by
  intro pins s σ H F Ad M E x y v u dx dy Q I m rx ry hx hy r
  have ax := DB.view m hx
  have ay := DB.view m hy
  dsimp only at r
  revert r ax ay
  generalize view M dx = ex
  generalize view M dy = ey
  intro r ax ay
  split at r
  · rename_i i j
    split at r
    · rename_i hc; exact h pins s σ H x y v u Q I rx ry ⟨i, j, ax.int, ay.int, hc, RP.here r m .int⟩
    · exact r.elim
  · exact r.elim
def oSub (x y : D) (M : List D) : R := match view M x, view M y with | .int i, .int j => .ok (.int (i - j)) M | _, _ => .stuck
def CMulB (i j : Int) : Prop := i.natAbs / 9223372036854775808 = 0 ∨ j.natAbs / 9223372036854775808 = 0
instance : DecidableRel CMulB := fun i j => by unfold CMulB; exact inferInstance
theorem small_of {i : Int} (h : i.natAbs / 9223372036854775808 = 0) : -(2 ^ 64) < i ∧ i < 2 ^ 64 := by
  have h1 : i.natAbs < 9223372036854775808 := (Nat.div_eq_zero_iff_lt (by decide)).mp h
  have e : (2 : Int) ^ 64 = 18446744073709551616 := by decide
  rw [e]; omega
theorem CMulB.c {i j : Int} (h : CMulB i j) : CMul i j := by
  rcases h with h | h
  · exact .inl (small_of h)
  · exact .inr (small_of h)
instance : DecidableRel CDivW := fun i j => by unfold CDivW; exact inferInstance
instance : DecidableRel CPow := fun i j => by unfold CPow; exact inferInstance
def oMul (x y : D) (M : List D) : R := match view M x, view M y with | .int i, .int j => if CMulB i j then .ok (.int (i * j)) M else .stuck | _, _ => .stuck
def oDiv (x y : D) (M : List D) : R := match view M x, view M y with | .int i, .int j => if CDivW i j then .ok (.int (i / j)) M else .stuck | _, _ => .stuck
def oMod (x y : D) (M : List D) : R := match view M x, view M y with | .int i, .int j => if 0 < j then .ok (.int (i % j)) M else .stuck | _, _ => .stuck
def oPow (x y : D) (M : List D) : R := match view M x, view M y with | .int i, .int j => if CPow i j then .ok (.int (i ^ j.toNat)) M else .stuck | _, _ => .stuck
theorem op2_mul : Op2 X (DE X.K) (binaryOp .Mult) oMul := op2_int (C := CMulB) fun pins s σ H x y v u Q I rx ry ⟨i, j, e1, e2, hc, q⟩ => op_mul pins s σ H x y v u Q I rx ry ⟨i, j, e1, e2, hc.c, q⟩
theorem op2_div : Op2 X (DE X.K) (binaryOp .FloorDiv) oDiv := op2_int op_fdivW
theorem op2_mod : Op2 X (DE X.K) (binaryOp .Mod) oMod := op2_int (C := fun _ j => 0 < j) op_mod
theorem op2_pow : Op2 X (DE X.K) (binaryOp .Pow) oPow := op2_int op_pow
def oNeg (x : D) (M : List D) : R := match view M x with | .int i => .ok (.int (-i)) M | _ => .stuck
theorem op1_neg : Op1 X (DE X.K) (unaryOp .USub) oNeg := by
  intro pins s σ H F Ad M E x v dx Q I m rx hx r
  have ax := DB.view m hx
  unfold oNeg at r
  revert r ax
  generalize view M dx = ex
  intro r ax
  split at r
  · exact un_neg pins s σ H x v Q I rx ⟨_, ax.int, RP.here r m .int⟩
  · exact r.elim
def intsOf : List D → Option (List Int)
  | [] => some []
  | .int i :: r => (intsOf r).map (i :: ·)
  | _ :: _ => none
theorem DenL.ints : ∀ {vs ds ns}, DenL K F Ad vs ds → intsOf ds = some ns → vs = ns.map V.int
  | _, _, ns, .nil, e => by simp [intsOf] at e; subst e; rfl
  | _, _, ns, .cons (d := d) h r, e => by
    cases d with
    | int i =>
      simp only [intsOf, Option.map_eq_some_iff] at e
      obtain ⟨ms, e1, rfl⟩ := e
      cases h
      simp [DenL.ints r e1]
    | _ => simp [intsOf] at e
def oLt (x y : D) (M : List D) : R := match view M x, view M y with
  | .int i, .int j => .ok (.bl (decide (i < j))) M
  | .tup a, .tup b => (match intsOf a, intsOf b with
    | some ns, some ms => .ok (.bl (HT.lexLt ns ms)) M
    | _, _ => .stuck)
  | _, _ => .stuck
theorem op2_lt (hu : X.A.units < cLine) : Op2 X (DE X.K) (compareOp .Lt) oLt := by
  intro pins s σ H F Ad M E x y v u dx dy Q I m rx ry hx hy r
  have ax := DB.view m hx
  have ay := DB.view m hy
  unfold oLt at r
  revert r ax ay
  generalize view M dx = ex
  generalize view M dy = ey
  intro r ax ay
  split at r
  · exact op_lt pins s σ H x y v u Q I rx ry ⟨_, _, ax.int, ay.int, RP.here r m .bl⟩
  · rename_i a b
    split at r
    · rename_i ns ms e1 e2
      obtain ⟨p, vs, rfl, h1, d1⟩ := ax.tup m
      obtain ⟨q, ws, rfl, h2, d2⟩ := ay.tup m
      rw [d1.ints e1] at h1
      rw [d2.ints e2] at h2
      exact op_ltT hu pins s σ H _ _ v u Q I rx ry ⟨p, q, ns, ms, rfl, rfl, h1, h2, RP.here r m .bl⟩
    · exact r.elim
  · exact r.elim
theorem op2_intB {f : Value → Value → Sem Value} {g : Int → Int → Bool} (h : OpR X f (rI0 fun i j => .bl (g i j))) :
    Op2 X (DE X.K) f (fun x y M => match view M x, view M y with | .int i, .int j => .ok (.bl (g i j)) M | _, _ => .stuck) := by
  intro pins s σ H F Ad M E x y v u dx dy Q I m rx ry hx hy r
  have ax := DB.view m hx
  have ay := DB.view m hy
  dsimp only at r
  revert r ax ay
  generalize view M dx = ex
  generalize view M dy = ey
  intro r ax ay
  split at r
  · exact h pins s σ H x y v u Q I rx ry ⟨_, _, ax.int, ay.int, RP.here r m .bl⟩
  · exact r.elim
def oLe (x y : D) (M : List D) : R := match view M x, view M y with | .int i, .int j => .ok (.bl (decide (i ≤ j))) M | _, _ => .stuck
def oGt (x y : D) (M : List D) : R := match view M x, view M y with | .int i, .int j => .ok (.bl (decide (j < i))) M | _, _ => .stuck
def oGe (x y : D) (M : List D) : R := match view M x, view M y with | .int i, .int j => .ok (.bl (decide (j ≤ i))) M | _, _ => .stuck
theorem op2_gt : Op2 X (DE X.K) (compareOp .Gt) oGt := op2_intB op_gt
theorem op2_ge : Op2 X (DE X.K) (compareOp .GtE) oGe := op2_intB op_ge
mutual
def D.pd : D → Option PyData
  | .non => some .none
  | .bl b => some (.bool b)
  | .int i => some (.int i)
  | .str s => some (.str s)
  | .tup ds => (D.pdL ds).map .tuple
  | .lst ds => (D.pdL ds).map .list
  | _ => none
def D.pdL : List D → Option (List PyData)
  | [] => some []
  | d :: ds => match D.pd d, D.pdL ds with
    | some p, some ps => some (p :: ps)
    | _, _ => none
end
section
variable {M : List D}
mutual
theorem Den.dp (m : MemOk K F Ad M H) : ∀ {v d p}, Den K F Ad v d → d.pd = some p → Dp K H v p
  | _, _, p, .non, e => by simp [D.pd] at e; subst e; exact .non
  | _, _, p, .bl, e => by simp [D.pd] at e; subst e; exact .bl _
  | _, _, p, .int, e => by simp [D.pd] at e; subst e; exact .int _
  | _, _, p, .str, e => by simp [D.pd] at e; subst e; exact .str _
  | _, _, p, .tup h r, e => by
    simp only [D.pd, Option.map_eq_some_iff] at e
    obtain ⟨ps, e1, rfl⟩ := e
    exact .tup (sqT_sub m h.sq) (r.dp m e1)
  | _, _, p, .lst h r, e => by
    simp only [D.pd, Option.map_eq_some_iff] at e
    obtain ⟨ps, e1, rfl⟩ := e
    exact .lst (SqL.of (m.sub _ _ h)) (r.dp m e1)
  | _, _, p, .scr _, e => by simp [D.pd] at e
  | _, _, p, .ktp _ _, e => by simp [D.pd] at e
  | _, _, p, .dK _ _, e => by simp [D.pd] at e
  | _, _, p, .dT _ _, e => by simp [D.pd] at e
  | _, _, p, .ins _ _, e => by simp [D.pd] at e
  | _, _, p, .cel _, e => by simp [D.pd] at e
theorem DenL.dp (m : MemOk K F Ad M H) : ∀ {vs ds ps}, DenL K F Ad vs ds → D.pdL ds = some ps → DpAll K H vs ps
  | _, _, ps, .nil, e => by simp [D.pdL] at e; subst e; exact .nil
  | _, _, ps, .cons h r, e => by
    simp only [D.pdL] at e
    split at e
    · rename_i p qs e1 e2
      cases e
      exact .cons (h.dp m e1) (r.dp m e2)
    · cases e
end
theorem DV.dp (m : MemOk K F Ad M H) {v d p} (h : DV K F Ad H v d) (e : d.pd = some p) : Dp K H v p := by
  rcases h with h | ⟨a, rfl, r⟩
  · exact h.dp m e
  · cases r with
    | lst h r =>
      simp only [D.pd, Option.map_eq_some_iff] at e
      obtain ⟨ps, e1, rfl⟩ := e
      exact .lst (SqL.of h) (r.dp m e1)
    | dK => simp [D.pd] at e
    | dT => simp [D.pd] at e
    | ins => simp [D.pd] at e
end
def eqS : D → D → Option Bool
  | .int i, .int j => some (i == j)
  | .str i, .str j => some (i == j)
  | .bl i, .bl j => some (i == j)
  | .non, .non => some true
  | .non, .int _ => some false
  | .int _, .non => some false
  | .str _, .non => some false
  | .non, .str _ => some false
  | .non, .bl _ => some false
  | .bl _, .non => some false
  | .int _, .str _ => some false
  | .str _, .int _ => some false
  | .bl _, .str _ => some false
  | .str _, .bl _ => some false
  | _, _ => none
def eqP (x y : D) : Option Bool := match x.pd, y.pd with
  | some p, some q => if SeqAt.shaped p = true ∧ SeqAt.shaped q = true then some (PyData.eqv p q) else none
  | _, _ => none
def eqD (x y : D) : Option Bool := match eqS x y with
  | some b => some b
  | none => eqP x y
theorem eqS_ok {dx dy : D} {x y : V} {b : Bool} (h : eqS dx dy = some b) (ax : DV K F Ad H x dx) (ay : DV K F Ad H y dy) : scal x y = true ∧ decide (x = y) = b := by
  unfold eqS at h
  split at h
  · cases h; rw [ax.int, ay.int]; exact ⟨rfl, dec_int⟩
  · cases h; rw [ax.str, ay.str]; exact ⟨rfl, dec_str⟩
  · cases h; rw [ax.bl, ay.bl]; exact ⟨rfl, dec_bl⟩
  · cases h; rw [ax.non, ay.non]; exact ⟨rfl, by simp⟩
  · cases h; rw [ax.non, ay.int]; exact ⟨rfl, by simp⟩
  · cases h; rw [ax.int, ay.non]; exact ⟨rfl, by simp⟩
  · cases h; rw [ax.str, ay.non]; exact ⟨rfl, by simp⟩
  · cases h; rw [ax.non, ay.str]; exact ⟨rfl, by simp⟩
  · cases h; rw [ax.non, ay.bl]; exact ⟨rfl, by simp⟩
  · cases h; rw [ax.bl, ay.non]; exact ⟨rfl, by simp⟩
  · cases h; rw [ax.int, ay.str]; exact ⟨rfl, by simp⟩
  · cases h; rw [ax.str, ay.int]; exact ⟨rfl, by simp⟩
  · cases h; rw [ax.bl, ay.str]; exact ⟨rfl, by simp⟩
  · cases h; rw [ax.str, ay.bl]; exact ⟨rfl, by simp⟩
  · cases h
theorem eqP_ok {x y : D} {b : Bool} (h : eqP x y = some b) : ∃ p q, x.pd = some p ∧ y.pd = some q ∧ SeqAt.shaped p = true ∧ SeqAt.shaped q = true ∧ PyData.eqv p q = b := by
  unfold eqP at h
  split at h
  · split at h
    · rename_i h1
      exact ⟨_, _, ‹_›, ‹_›, h1.1, h1.2, Option.some.inj h⟩
    · cases h
  · cases h
def oEq (x y : D) (M : List D) : R := match eqD (view M x) (view M y) with | some b => .ok (.bl b) M | none => .stuck
def oNe (x y : D) (M : List D) : R := match eqD (view M x) (view M y) with | some b => .ok (.bl !b) M | none => .stuck
theorem op2_eq (hu : X.A.units + 64 < cLine) : Op2 X (DE X.K) (compareOp .Eq) oEq := by
  intro pins s σ H F Ad M E x y v u dx dy Q I m rx ry hx hy r
  have ax := DB.view m hx
  have ay := DB.view m hy
  unfold oEq eqD at r
  split at r
  · rename_i b e
    split at e
    · rename_i b' e'
      cases e
      obtain ⟨s1, s2⟩ := eqS_ok e' ax ay
      exact op_eq pins s σ H x y v u Q I rx ry ⟨s1, by rw [s2]; exact RP.here r m .bl⟩
    · obtain ⟨p, q, e1, e2, s1, s2, rfl⟩ := eqP_ok e
      exact op_eqD hu pins s σ H x y v u Q I rx ry ⟨p, q, ax.dp m e1, ay.dp m e2, s1, s2, RP.here r m .bl⟩
  · exact r.elim
theorem op2_ne (hu : X.A.units + 64 < cLine) : Op2 X (DE X.K) (compareOp .NotEq) oNe := by
  intro pins s σ H F Ad M E x y v u dx dy Q I m rx ry hx hy r
  have ax := DB.view m hx
  have ay := DB.view m hy
  unfold oNe eqD at r
  split at r
  · rename_i b e
    split at e
    · rename_i b' e'
      cases e
      obtain ⟨s1, s2⟩ := eqS_ok e' ax ay
      exact op_ne pins s σ H x y v u Q I rx ry ⟨s1, by rw [s2]; exact RP.here r m .bl⟩
    · obtain ⟨p, q, e1, e2, s1, s2, rfl⟩ := eqP_ok e
      exact op_neD hu pins s σ H x y v u Q I rx ry ⟨p, q, ax.dp m e1, ay.dp m e2, s1, s2, RP.here r m .bl⟩
  · exact r.elim
def D.isN : D → Bool | .non => true | _ => false
def oIs (x y : D) (M : List D) : R := match y with | .non => .ok (.bl x.isN) M | _ => .stuck
def oIsnt (x y : D) (M : List D) : R := match y with | .non => .ok (.bl !x.isN) M | _ => .stuck
theorem DB.non (h : DB K H0 F Ad H x .non) : x = .non := by
  rcases h with h | ⟨a, e, n, na, q⟩
  · cases h; rfl
  · cases q
theorem DB.isN {d} (h : DB K H0 F Ad H x d) : decide (x = .non) = d.isN := by
  rcases h with h | ⟨a, e, n, na, r⟩
  · cases h <;> simp [D.isN]
  · subst e; cases r <;> simp [D.isN]
end
end MP
set_option maxRecDepth 100000
set_option maxHeartbeats 1000000
namespace MP
open PySem PySem.Spec PyProof.Rows L2
variable [TabsP] [ThkP]
def RPT (K : PySem.W.Frag) (E : XK) (F : Hp) (Ad : List Addr) (H : Hp) (Q : Bool → Hp → Prop) : R → Prop
  | .ok (.bl b) M' => ∀ F' Ad' H', Gr F Ad H F' Ad' H' → MemOk K F' Ad' M' H' → Q b H'
  | .ok _ _ => False
  | .exc x M' => ∀ cls dx F' Ad' H', Gr F Ad H F' Ad' H' → MemOk K F' Ad' M' H' → XOk K F' Ad' H' x cls dx → E cls dx H'
  | .stuck => False
def tT (K : PySem.W.Frag) (W : WX) (f : EF) : TT := fun σ H Q => ∃ N0 F Ad M env, MemOk K F Ad M H ∧ EnvOk K N0 F Ad H σ env ∧ RPT K (fun c d H => W c d σ H) F Ad H Q (f env M)
abbrev ST (X : Cx) (W : WX) (e : Expr) (f : EF) : Prop := PT X e (tT X.K W f)
abbrev SW (X : Cx) (W : WX) (e : Expr) (f : EF) : Prop := PW X e (tT X.K W f)
def eAnd (a b : EF) : EF := fun env M => (a env M).bind fun x M1 => match x with | .bl true => b env M1 | .bl false => .ok (.bl false) M1 | _ => .stuck
def eOr (a b : EF) : EF := fun env M => (a env M).bind fun x M1 => match x with | .bl true => .ok (.bl true) M1 | .bl false => b env M1 | _ => .stuck
def eNot (a : EF) : EF := fun env M => (a env M).bind fun x M1 => match x with | .bl c => .ok (.bl !c) M1 | _ => .stuck
def eIf (c a b : EF) : EF := fun env M => (c env M).bind fun x M1 => match x with | .bl true => a env M1 | .bl false => b env M1 | _ => .stuck
section
variable {X : Cx} {W : WX} {K : PySem.W.Frag} {E : XK} {DR : DRel} {N0 : Ent} {H0 F F1 H H1 : Hp} {Ad Ad1 : List Addr} {M : List D} {env : EnvM} {σ : St} {Q : VK} {x : V}
theorem RPT.gr {Q : Bool → Hp → Prop} {r : R} (h : RPT K E F Ad H Q r) (g : Gr F Ad H F1 Ad1 H1) : RPT K E F1 Ad1 H1 Q r := by
  cases r with
  | ok d M => cases d with
    | bl b => exact fun F' Ad' H' g' m => h F' Ad' H' (g.trans g') m
    | _ => exact h
  | exc x M => exact fun c dx F' Ad' H' g' m z => h c dx F' Ad' H' (g.trans g') m z
  | stuck => exact h
theorem RPT.here {Q : Bool → Hp → Prop} {b : Bool} (h : RPT K E F Ad H Q (.ok (.bl b) M)) (m : MemOk K F Ad M H) : Q b H := h F Ad H Gr.refl m
theorem tT_seqT {f : EF} {k : D → List D → R} {Q Q' : Bool → Hp → Prop} (m : MemOk K F Ad M H) (e : EnvOk K N0 F Ad H σ env)
    (h : RPT K (fun c d H => W c d σ H) F Ad H Q ((f env M).bind k)) (hn : ∀ d M1, (∀ b, d ≠ .bl b) → k d M1 = .stuck)
    (hq : ∀ b M1 F1 Ad1 H1, Gr F Ad H F1 Ad1 H1 → MemOk K F1 Ad1 M1 H1 → EnvOk K N0 F1 Ad1 H1 σ env → RPT K (fun c d H => W c d σ H) F1 Ad1 H1 Q (k (.bl b) M1) → Q' b H1) : tT K W f σ H Q' := by
  refine ⟨N0, F, Ad, M, env, m, e, ?_⟩
  cases q : f env M with
  | ok d M1 =>
    rw [q] at h
    cases d with
    | bl b => exact fun F' Ad' H' g m' => hq b M1 F' Ad' H' g m' (e.gr g) (RPT.gr h g)
    | _ =>
      rw [R.bind_ok, hn _ M1] at h
      · exact h
      · intro b z; cases z
  | exc x M1 => rw [q] at h; exact h
  | stuck => rw [q] at h; exact h
theorem tT_seqG {f : EF} {k : D → List D → R} {Q : VK} {Q' : Bool → Hp → Prop} (dr : DRok DR) (m : MemOk K F Ad M H) (e : EnvOk K N0 F Ad H σ env)
    (h : RP K (fun c d H => W c d σ H) DR F Ad H Q ((f env M).bind k)) (hn : ∀ d M1, (∀ b, d ≠ .bl b) → k d M1 = .stuck)
    (hq : ∀ b M1 F1 Ad1 H1, Gr F Ad H F1 Ad1 H1 → MemOk K F1 Ad1 M1 H1 → EnvOk K N0 F1 Ad1 H1 σ env → RP K (fun c d H => W c d σ H) DR F1 Ad1 H1 Q (k (.bl b) M1) → Q' b H1) : tT K W f σ H Q' := by
  refine ⟨N0, F, Ad, M, env, m, e, ?_⟩
  cases q : f env M with
  | ok d M1 =>
    rw [q] at h
    cases d with
    | bl b => exact fun F' Ad' H' g m' => hq b M1 F' Ad' H' g m' (e.gr g) (RP.gr dr h g)
    | _ =>
      rw [R.bind_ok, hn _ M1] at h
      · exact h
      · intro b z; cases z
  | exc x M1 => rw [q] at h; exact h
  | stuck => rw [q] at h; exact h
variable {a b c : Expr} {fa fb fc : EF} {pos : Pos} {rest : List Expr}
theorem st_val (h : SE X W a fa) (he : ∀ whole, isTrue a X.env whole = (do let v ← whole; standAt a.pos; holding [v] (truthy v)) := by intro _; rfl) : ST X W a fa :=
  PT.imp (pt_val h he) fun σ H Q ⟨N0, F, Ad, M, env, m, en, r⟩ => ⟨N0, F, Ad, M, env, m, en, by
    cases q : fa env M with
    | ok d M1 =>
      rw [q] at r
      intro v F' Ad' H' g m' x
      cases d with
      | bl b => cases x; exact ⟨b, rfl, r F' Ad' H' g m'⟩
      | _ => exact r.elim
    | exc x M1 => rw [q] at r; exact r
    | stuck => rw [q] at r; exact r⟩
theorem st_cmp {op : CmpOp} {g : D → D → List D → R} (ho : Op2 X (DE X.K) (compareOp op) g) (ha : SB X W a fa) (hb : SB X W b fb) (hm : behindInMarks op b = false) : ST X W (.Compare a [op] [b] pos) (e2 g fa fb) :=
  PT.imp (pt_cmp (s_pc DE.ok ho ha hb) hm) fun σ H Q ⟨N0, F, Ad, M, env, m, en, r⟩ => ⟨N0, F, Ad, M, env, m, en, by
    cases q : e2 g fa fb env M with
    | ok d M1 =>
      rw [q] at r
      intro v F' Ad' H' g m' x
      cases d with
      | bl b => cases x; exact ⟨b, rfl, r F' Ad' H' g m'⟩
      | _ => exact r.elim
    | exc x M1 => rw [q] at r; exact r
    | stuck => rw [q] at r; exact r⟩
theorem sw_or1 (h : ST X W a fa) : SW X W (.BoolOp .Or [a] pos) fa := pw_or1 h
theorem sw_or (ha : ST X W a fa) (hb : SW X W (.BoolOp .Or (b :: rest) pos) fb) : SW X W (.BoolOp .Or (a :: b :: rest) pos) (eOr fa fb) :=
  PW.imp (pw_or ha hb) fun σ H Q ⟨N0, F, Ad, M, env, m, en, r⟩ => tT_seqT m en r (fun d M1 hd => by cases d <;> first | rfl | exact absurd rfl (hd _)) fun b M1 F1 Ad1 H1 g1 m1 en1 r1 => by
    cases b with
    | true => exact RPT.here r1 m1
    | false => exact ⟨N0, F1, Ad1, M1, env, m1, en1, r1⟩
theorem st_w (h : SW X W a fa) : ST X W a fa := PW.pt h
theorem st_not (ha : ST X W a fa) : ST X W (.UnaryOp .Not a pos) (eNot fa) :=
  PT.imp (pt_not ha) fun σ H Q ⟨N0, F, Ad, M, env, m, en, r⟩ => tT_seqT m en r (fun d M1 hd => by cases d <;> first | rfl | exact absurd rfl (hd _)) fun b M1 F1 Ad1 H1 g1 m1 en1 r1 => RPT.here r1 m1
theorem s_if (dr : DRok DR) (hc : ST X W c fc) (ha : PE X a (tG X.K W DR fa)) (hb : PE X b (tG X.K W DR fb)) : PE X (.IfExp c a b pos) (tG X.K W DR (eIf fc fa fb)) :=
  PE.imp (pe_ifExp hc ha hb) fun σ H Q ⟨N0, F, Ad, M, env, m, en, r⟩ => tT_seqG dr m en r (fun d M1 hd => by cases d <;> first | rfl | exact absurd rfl (hd _)) fun b M1 F1 Ad1 H1 g1 m1 en1 r1 => by
    cases b with
    | true => exact ⟨N0, F1, Ad1, M1, env, m1, en1, r1⟩
    | false => exact ⟨N0, F1, Ad1, M1, env, m1, en1, r1⟩
def eChain (g g' : D → D → List D → R) (a b c : EF) : EF := fun env M => (a env M).bind fun x M1 => (b env M1).bind fun y M2 => (g x y M2).bind fun r M3 => match r with
  | .bl true => (c env M3).bind fun z M4 => g' y z M4
  | .bl false => .ok (.bl false) M3
  | _ => .stuck
def lNil : LF := fun _ M => .ok [] M
def lCons (a : EF) (l : LF) : LF := fun env M => (a env M).bindL fun x M1 => (l env M1).bindL fun xs M2 => .ok (x :: xs) M2
variable {e : Expr} {es : List Expr} {f : EF} {l : LF}
theorem sl_nil : SL X W [] lNil := PA.imp pa_nil fun σ H Q ⟨N0, F, Ad, M, env, m, en, r⟩ => r [] F Ad H Gr.refl m .nil
theorem slb_nil : SLB X W [] lNil := PA.imp pa_nil fun σ H Q ⟨N0, F, Ad, M, env, m, en, r⟩ => r [] F Ad H Gr.refl m .nil
theorem sl_cons (ha : SE X W e f) (hr : SL X W es l) (hs : starEach (e :: es) X.env = (false, eval e X.env) :: starEach es X.env := by rfl) : SL X W (e :: es) (lCons f l) :=
  PA.imp (pa_cons ha hr hs) fun σ H Q ⟨N0, F, Ad, M, env, m, en, r⟩ => tG_seqL m en r fun d M1 v F1 Ad1 H1 g1 m1 en1 x1 r1 => tL_seqL m1 en1 r1 fun ds M2 vs F2 Ad2 H2 g2 m2 en2 x2 r2 =>
    r2 (v :: vs) F2 Ad2 H2 Gr.refl m2 (.cons (x1.mono g2.fle g2.pre) x2)
theorem slb_cons (ha : SB X W e f) (hr : SLB X W es l) (hs : starEach (e :: es) X.env = (false, eval e X.env) :: starEach es X.env := by rfl) : SLB X W (e :: es) (lCons f l) :=
  PA.imp (pa_cons ha hr hs) fun σ H Q ⟨N0, F, Ad, M, env, m, en, r⟩ => tG_seqL m en r fun d M1 v F1 Ad1 H1 g1 m1 en1 x1 r1 => tL_seqL m1 en1 r1 fun ds M2 vs F2 Ad2 H2 g2 m2 en2 x2 r2 =>
    r2 (v :: vs) F2 Ad2 H2 Gr.refl m2 (.cons (DB.gr g2 x1) x2)
def eTup (l : LF) : EF := fun env M => (l env M).bind fun xs M1 => if xs.length ≤ sizeLine then .ok (.tup xs) M1 else .stuck
def eLst (l : LF) : EF := fun env M => (l env M).bind fun xs M1 => if xs.length ≤ sizeLine then .ok (.lst xs) M1 else .stuck
theorem se_tup {k} (h : SL X W es l) : SE X W (.Tuple es k pos) (eTup l) := PE.imp (pe_tup h) fun σ H Q ⟨N0, F, Ad, M, env, m, en, r⟩ => tL_seq DE.ok m en r fun ds M1 vs F1 Ad1 H1 g1 m1 en1 x1 r1 => by
  split at r1
  · rename_i z; exact ⟨by rw [x1.length]; exact z, fun p hp => RP.newTup r1 m1 x1 hp⟩
  · exact r1.elim
theorem so_lst (h : SL X W es l) : SO X W (.List es pos) (eLst l) := PE.imp (pe_lst h) fun σ H Q ⟨N0, F, Ad, M, env, m, en, r⟩ => tL_seq DO.ok m en r fun ds M1 vs F1 Ad1 H1 g1 m1 en1 x1 r1 => by
  split at r1
  · rename_i z; exact ⟨by rw [x1.length]; exact z, fun p hp => RP.ownLst r1 m1 x1 hp⟩
  · exact r1.elim
def eNew (d : D) : EF := fun _ M => .ok d M
def CallS (X : Cx) (DR : DRel) (f : Value) (g : List D → List D → R) : Prop :=
  ∀ (pins : List (Addr × Obj)) (s : Shared) (σ : St) (H F : Hp) (Ad : List Addr) (M : List D) (E : XK) (xs : List V) (us : List Value) (ds : List D) (Q : VK), Inv X pins σ H s → MemOk X.K F Ad M H → Vals xs us → DLB X.K F Ad H xs ds →
    RP X.K E DR F Ad H Q (g ds M) → wpAny (model X.prog X.w) X.A (call f us) (EP X pins σ Q) X.xe s
def eCall (g : List D → List D → R) (l : LF) : EF := fun env M => (l env M).bind g
def rC (X : Cx) (E : XK) (DR : DRel) (g : List D → List D → R) : List V → Hp → VK → Prop := fun xs H Q => ∃ F Ad M ds, MemOk X.K F Ad M H ∧ DLB X.K F Ad H xs ds ∧ RP X.K E DR F Ad H Q (g ds M)
theorem s_callB (dr : DRok DR) {id : String} {x : Str} {p : Pos} {g : List D → List D → R} (hc : CallS X DR (.builtin id) g) (hg : Gl X x) (hm : X.mg x = none) (hv : bootBuiltins x = some (.builtin id)) (ha : SLB X W (e :: es) l) (hn : x ≠ "__name__" := by decide) (hdb : (x == ("__debug__" : Str)) = false := by decide)
    (he : starEach (e :: es) X.env = (false, eval e X.env) :: starEach es X.env := by rfl) (hpl : (backTo pos (starEach es X.env)).any (·.1) = false := by rfl) : PE X (.Call (.Name x p) (e :: es) [] pos) (tG X.K W DR (eCall g l)) := by
  refine ⟨fun pins s σ H Q I ⟨N0, F, Ad, M, env, m, en, r⟩ => ?_⟩
  refine wpAny_Call_Name_kw (ld_blt I hg hm hv ?_ hn hdb)
  refine PyProof.Rows.callWith_builtin1 (thn (ha.run pos pins s σ H _ I (tL_seq (Q' := fun vs H1 => rC X (fun c d H => W c d σ H) DR g vs H1 Q) dr m en r fun ds M1 vs F1 Ad1 H1 g1 m1 en1 x1 r1 => ⟨F1, Ad1, M1, ds, m1, x1, r1⟩)) fun us s1 ⟨vs, H1, I1, rv, F1, Ad1, M1, ds, m1, x1, r1⟩ => ?_) he hpl
  exact hc pins s1 σ H1 F1 Ad1 M1 _ vs us ds Q I1 m1 rv x1 r1
theorem s_callTy (dr : DRok DR) {id : String} {x : Str} {p : Pos} {g : List D → List D → R} (hc : CallS X DR (.type id) g) (hg : Gl X x) (hm : X.mg x = none) (hv : bootBuiltins x = some (.type id)) (ha : SLB X W (e :: es) l) (hn : x ≠ "__name__" := by decide) (hdb : (x == ("__debug__" : Str)) = false := by decide)
    (he : starEach (e :: es) X.env = (false, eval e X.env) :: starEach es X.env := by rfl) (hpl : (backTo pos (starEach es X.env)).any (·.1) = false := by rfl) : PE X (.Call (.Name x p) (e :: es) [] pos) (tG X.K W DR (eCall g l)) := by
  refine ⟨fun pins s σ H Q I ⟨N0, F, Ad, M, env, m, en, r⟩ => ?_⟩
  refine wpAny_Call_Name_kw (ld_blt I hg hm hv ?_ hn hdb)
  refine PyProof.Rows.callWith_type1 (thn (ha.run pos pins s σ H _ I (tL_seq (Q' := fun vs H1 => rC X (fun c d H => W c d σ H) DR g vs H1 Q) dr m en r fun ds M1 vs F1 Ad1 H1 g1 m1 en1 x1 r1 => ⟨F1, Ad1, M1, ds, m1, x1, r1⟩)) fun us s1 ⟨vs, H1, I1, rv, F1, Ad1, M1, ds, m1, x1, r1⟩ => ?_) he hpl
  exact hc pins s1 σ H1 F1 Ad1 M1 _ vs us ds Q I1 m1 rv x1 r1
theorem CallS.of {v : Value} {g : List D → List D → R} (h : ∀ (E : XK), CallR X v (rC X E DR g)) : CallS X DR v g := fun pins s σ H F Ad M E xs us ds Q I m rv x r => h E pins s σ H xs us Q I rv ⟨F, Ad, M, ds, m, x, r⟩
theorem DLB.one {vs d} (h : DLB K F Ad H vs [d]) : ∃ v, vs = [v] ∧ DB K H F Ad H v d := by
  cases h with | cons h r => cases r; exact ⟨_, rfl, h⟩
theorem DLB.two {vs d d'} (h : DLB K F Ad H vs [d, d']) : ∃ v v', vs = [v, v'] ∧ DB K H F Ad H v d ∧ DB K H F Ad H v' d' := by
  cases h with | cons h r => obtain ⟨v', rfl, h'⟩ := r.one; exact ⟨_, _, rfl, h, h'⟩
def bLen (ds : List D) (M : List D) : R := match ds with
  | [d] => (match view M d with
    | .lst xs => .ok (.int xs.length) M
    | .tup xs => .ok (.int xs.length) M
    | .ktp xs => .ok (.int xs.length) M
    | .scr xs => .ok (.int xs.length) M
    | .str s => if s.length ≤ sizeLine then .ok (.int s.length) M else .stuck
    | _ => .stuck)
  | _ => .stuck
theorem call_lenS : CallS X (DE X.K) (.builtin "len") bLen := by
  intro pins s σ H F Ad M E xs us ds Q I m rv x r
  unfold bLen at r
  split at r
  · rename_i d
    obtain ⟨v, rfl, hx⟩ := x.one
    have ax := DB.view m hx
    split at r
    · rename_i ys e; rw [e] at ax; obtain ⟨a, vs, rfl, h1, h2⟩ := ax.lst m
      exact call_len pins s σ H _ us Q I rv ⟨_, ys.length, rfl, .inl ⟨vs, SqL.of h1, h2.length.symm⟩, RP.here r m .int⟩
    · rename_i ys e; rw [e] at ax; obtain ⟨a, vs, rfl, h1, h2⟩ := ax.tup m
      exact call_len pins s σ H _ us Q I rv ⟨_, ys.length, rfl, .inr ⟨vs, h1, h2.length.symm⟩, RP.here r m .int⟩
    · rename_i ys e; rw [e] at ax; obtain ⟨a, vs, rfl, h1, h2⟩ := ax.ktp m
      exact call_len pins s σ H _ us Q I rv ⟨_, ys.length, rfl, .inr ⟨vs, h1, h2.length.symm⟩, RP.here r m .int⟩
    · rename_i ys e; rw [e] at ax; obtain ⟨a, rfl, h1⟩ := ax.scr m
      exact call_len pins s σ H _ us Q I rv ⟨_, ys.length, rfl, .inl ⟨_, h1, by simp⟩, RP.here r m .int⟩
    · rename_i z e; rw [e] at ax
      split at r
      · rename_i hz; obtain rfl := ax.str; exact call_len pins s σ H _ us Q I rv ⟨_, z.length, rfl, ⟨hz, rfl⟩, RP.here r m .int⟩
      · exact r.elim
    · exact r.elim
  · exact r.elim
def bInt (ds : List D) (M : List D) : R := match ds with
  | [d] => (match view M d with
    | .int i => .ok (.int i) M
    | _ => .stuck)
  | _ => .stuck
theorem call_intS : CallS X (DE X.K) (.type "int") bInt := by
  intro pins s σ H F Ad M E xs us ds Q I m rv x r
  unfold bInt at r
  split at r
  · rename_i d
    obtain ⟨v, rfl, hx⟩ := x.one
    have ax := DB.view m hx
    split at r
    · rename_i i e; rw [e] at ax
      exact call_int1 pins s σ H _ us Q I rv (.inl ⟨i, by rw [ax.int], RP.here r m .int⟩)
    · exact r.elim
  · exact r.elim
def bAbs (ds : List D) (M : List D) : R := match ds with
  | [d] => (match view M d with
    | .int i => .ok (.int (if i < 0 then -i else i)) M
    | _ => .stuck)
  | _ => .stuck
theorem call_absS : CallS X (DE X.K) (.builtin "abs") bAbs := by
  intro pins s σ H F Ad M E xs us ds Q I m rv x r
  unfold bAbs at r
  split at r
  · rename_i d
    obtain ⟨v, rfl, hx⟩ := x.one
    have ax := DB.view m hx
    split at r
    · rename_i i e; rw [e] at ax
      exact call_abs pins s σ H _ us Q I rv ⟨i, by rw [ax.int], RP.here r m .int⟩
    · exact r.elim
  · exact r.elim
def mx2 (i j : Int) : Int := if j > i then j else i
def mn2 (i j : Int) : Int := if j < i then j else i
def mxL : List Int → Int | [] => 0 | [i] => i | i :: r => max i (mxL r)
def mnL : List Int → Int | [] => 0 | [i] => i | i :: r => min i (mnL r)
theorem mxL_spec : ∀ {ns : List Int} {m : Int}, m ∈ ns → (∀ y, y ∈ ns → y ≤ m) → mxL ns = m
  | [i], m, h, _ => by simp at h; subst h; rfl
  | i :: j :: r, m, h, hm => by
    show max i (mxL (j :: r)) = m
    have hi := hm i (by simp)
    rcases List.mem_cons.mp h with rfl | h
    · have : mxL (j :: r) ≤ m := by
        clear h
        have key : ∀ l : List Int, l ≠ [] → (∀ y, y ∈ l → y ≤ m) → mxL l ≤ m := by
          intro l
          induction l with
          | nil => intro h; exact absurd rfl h
          | cons a t ih =>
            intro _ hl
            cases t with
            | nil => exact hl a (by simp)
            | cons b t => 
              have h1 := ih (by simp) fun y hy => hl y (List.mem_cons_of_mem _ hy)
              have h2 := hl a (by simp)
              show max a (mxL (b :: t)) ≤ m
              omega
        exact key _ (by simp) fun y hy => hm y (List.mem_cons_of_mem _ hy)
      omega
    · rw [mxL_spec h fun y hy => hm y (List.mem_cons_of_mem _ hy)]
      omega
theorem mnL_spec : ∀ {ns : List Int} {m : Int}, m ∈ ns → (∀ y, y ∈ ns → m ≤ y) → mnL ns = m
  | [i], m, h, _ => by simp at h; subst h; rfl
  | i :: j :: r, m, h, hm => by
    show min i (mnL (j :: r)) = m
    have hi := hm i (by simp)
    rcases List.mem_cons.mp h with rfl | h
    · have : m ≤ mnL (j :: r) := by
        clear h
        have key : ∀ l : List Int, l ≠ [] → (∀ y, y ∈ l → m ≤ y) → m ≤ mnL l := by
          intro l
          induction l with
          | nil => intro h; exact absurd rfl h
          | cons a t ih =>
            intro _ hl
            cases t with
            | nil => exact hl a (by simp)
            | cons b t => 
              have h1 := ih (by simp) fun y hy => hl y (List.mem_cons_of_mem _ hy)
              have h2 := hl a (by simp)
              show m ≤ min a (mnL (b :: t))
              omega
        exact key _ (by simp) fun y hy => hm y (List.mem_cons_of_mem _ hy)
      omega
    · rw [mnL_spec h fun y hy => hm y (List.mem_cons_of_mem _ hy)]
      omega
def bMax (ds : List D) (M : List D) : R := match ds with
  | [d, d'] => (match view M d, view M d' with
    | .int i, .int j => .ok (.int (mx2 i j)) M
    | _, _ => .stuck)
  | [d] => (match view M d with
    | .lst xs => (match intsOf xs with
      | some (i :: r) => .ok (.int (mxL (i :: r))) M
      | _ => .stuck)
    | _ => .stuck)
  | _ => .stuck
def bMin (ds : List D) (M : List D) : R := match ds with
  | [d, d'] => (match view M d, view M d' with
    | .int i, .int j => .ok (.int (mn2 i j)) M
    | _, _ => .stuck)
  | [d] => (match view M d with
    | .lst xs => (match intsOf xs with
      | some (i :: r) => .ok (.int (mnL (i :: r))) M
      | _ => .stuck)
    | _ => .stuck)
  | _ => .stuck
theorem call_maxS (hc : X.calm = true) : CallS X (DE X.K) (.builtin "max") bMax := by
  intro pins s σ H F Ad M E xs us ds Q I m rv x r
  unfold bMax at r
  split at r
  · rename_i d d'
    obtain ⟨v, v', rfl, hx, hy⟩ := x.two
    have ax := DB.view m hx
    have ay := DB.view m hy
    split at r
    · rename_i i j e e'; rw [e] at ax; rw [e'] at ay
      exact call_max2 hc pins s σ H _ us Q I rv ⟨i, j, by rw [ax.int, ay.int], RP.here r m .int⟩
    · exact r.elim
  · rename_i d
    obtain ⟨v, rfl, hx⟩ := x.one
    have ax := DB.view m hx
    split at r
    · rename_i ys e; rw [e] at ax; obtain ⟨a, vs, rfl, h1, h2⟩ := ax.lst m
      split at r
      · rename_i i t e2
        refine cr_max hc pins s σ H _ us Q I rv ⟨a, i :: t, rfl, by rw [← h2.ints e2]; exact SqL.of h1, by simp, fun mm h3 h4 => ?_⟩
        rw [← mxL_spec h3 h4]; exact RP.here r m .int
      · exact r.elim
    · exact r.elim
  · exact r.elim
theorem call_minS (hc : X.calm = true) : CallS X (DE X.K) (.builtin "min") bMin := by
  intro pins s σ H F Ad M E xs us ds Q I m rv x r
  unfold bMin at r
  split at r
  · rename_i d d'
    obtain ⟨v, v', rfl, hx, hy⟩ := x.two
    have ax := DB.view m hx
    have ay := DB.view m hy
    split at r
    · rename_i i j e e'; rw [e] at ax; rw [e'] at ay
      exact call_min2 hc pins s σ H _ us Q I rv ⟨i, j, by rw [ax.int, ay.int], RP.here r m .int⟩
    · exact r.elim
  · rename_i d
    obtain ⟨v, rfl, hx⟩ := x.one
    have ax := DB.view m hx
    split at r
    · rename_i ys e; rw [e] at ax; obtain ⟨a, vs, rfl, h1, h2⟩ := ax.lst m
      split at r
      · rename_i i t e2
        refine cr_min hc pins s σ H _ us Q I rv ⟨a, i :: t, rfl, by rw [← h2.ints e2]; exact SqL.of h1, by simp, fun mm h3 h4 => ?_⟩
        rw [← mnL_spec h3 h4]; exact RP.here r m .int
      · exact r.elim
    · exact r.elim
  · exact r.elim
def bTup (ds : List D) (M : List D) : R := match ds with
  | [d] => (match view M d with
    | .lst xs => .ok (.tup xs) M
    | .tup xs => .ok (.tup xs) M
    | _ => .stuck)
  | _ => .stuck
end
end MP
set_option maxRecDepth 100000
set_option maxHeartbeats 1000000
namespace MP
open PySem PySem.Spec PyProof.Rows L2
variable [TabsP] [ThkP]
section
variable {κ : Type} [DecidableEq κ] {α : Type}
def valK (kvs : List (κ × α)) (k : κ) : Option α := (kvs.find? fun kv => decide (kv.1 = k)).map (·.2)
def insK (kvs : List (κ × α)) (k : κ) (v : α) : List (κ × α) :=
  if (kvs.any fun kv => decide (kv.1 = k)) = true then kvs.map (fun kv => if kv.1 = k then (kv.1, v) else kv) else kvs ++ [(k, v)]
end
def keyD : D → Option Key
  | .int i => some (.inl i)
  | .str s => some (.inr s)
  | _ => none
def keysE : List D → Option (List Key)
  | [] => some []
  | d :: r => match keyD d, keysE r with
    | some k, some ks => some (k :: ks)
    | _, _ => none
def keysD (ds : List D) : Option (List Key) := match ds with
  | [] => none
  | d :: r => keysE (d :: r)
section
variable {X : Cx} {W : WX} {K : PySem.W.Frag} {E : XK} {DR : DRel} {N0 : Ent} {H0 F H : Hp} {Ad : List Addr} {M : List D} {env : EnvM} {σ : St} {Q : VK} {x : V}
theorem keyD_v {d : D} {k : Key} (h : Den K F Ad x d) (e : keyD d = some k) : x = kV k := by
  cases h <;> simp [keyD] at e <;> subst e <;> rfl
theorem keysE_v : ∀ {vs : List V} {ds : List D} {ks : List Key}, DenL K F Ad vs ds → keysE ds = some ks → vs = ks.map kV
  | _, _, ks, .nil, e => by simp [keysE] at e; subst e; rfl
  | _, _, ks, .cons h r, e => by
    simp only [keysE] at e
    split at e
    · rename_i k ks' e1 e2
      cases e
      rw [keyD_v h e1, keysE_v r e2]; rfl
    · cases e
theorem keysD_e {ds : List D} {ks : List Key} (e : keysD ds = some ks) : keysE ds = some ks ∧ ds ≠ [] := by
  cases ds with
  | nil => cases e
  | cons d r => exact ⟨e, fun z => nomatch z⟩
theorem keysD_v {vs : List V} {ds : List D} {ks : List Key} (h : DenL K F Ad vs ds) (e : keysD ds = some ks) : vs = ks.map kV := keysE_v h (keysD_e e).1
theorem TupK.key {a : Addr} {vs : List V} {ds : List D} {ks : List Key} (h : TupK K F a vs) (r : DenL K F Ad vs ds) (e : keysD ds = some ks) : F a = some (.tup vs) := by
  rcases h with h | ⟨rfl, _⟩
  · exact h
  · cases r; exact absurd rfl (keysD_e e).2
theorem DenK.val (k : Key) : ∀ {vs ds}, DenK K F Ad vs ds → (∀ d, valK ds k = some d → ∃ v, valV vs k = some v ∧ Den K F Ad v d) ∧ (valK ds k = none → valV vs k = none)
  | _, _, .nil => ⟨fun _ h => by simp [valK] at h, fun _ => rfl⟩
  | _, _, .cons (k := j) h r => by
    have ih := DenK.val k r
    by_cases e : j = k
    · rw [valV_pos e]
      refine ⟨fun d hd => ?_, fun hd => ?_⟩
      · simp [valK, List.find?_cons, e] at hd; subst hd; exact ⟨_, rfl, h⟩
      · simp [valK, List.find?_cons, e] at hd
    · rw [valV_neg e]
      refine ⟨fun d hd => ih.1 d ?_, fun hd => ih.2 ?_⟩
      · simpa [valK, List.find?_cons, e] using hd
      · simpa [valK, List.find?_cons, e] using hd
theorem DenT.val (k : List Key) : ∀ {vs ds}, DenT K F Ad vs ds → (∀ d, valK ds k = some d → ∃ v, valV vs k = some v ∧ Den K F Ad v d) ∧ (valK ds k = none → valV vs k = none)
  | _, _, .nil => ⟨fun _ h => by simp [valK] at h, fun _ => rfl⟩
  | _, _, .cons (k := j) h r => by
    have ih := DenT.val k r
    by_cases e : j = k
    · rw [valV_pos e]
      refine ⟨fun d hd => ?_, fun hd => ?_⟩
      · simp [valK, List.find?_cons, e] at hd; subst hd; exact ⟨_, rfl, h⟩
      · simp [valK, List.find?_cons, e] at hd
    · rw [valV_neg e]
      refine ⟨fun d hd => ih.1 d ?_, fun hd => ih.2 ?_⟩
      · simpa [valK, List.find?_cons, e] using hd
      · simpa [valK, List.find?_cons, e] using hd
theorem DenK.any (k : Key) : ∀ {vs ds}, DenK K F Ad vs ds → (vs.any fun kv => decide (kv.1 = k)) = (ds.any fun kv => decide (kv.1 = k))
  | _, _, .nil => rfl
  | _, _, .cons _ r => by simp only [List.any_cons]; rw [DenK.any k r]
theorem DenT.any (k : List Key) : ∀ {vs ds}, DenT K F Ad vs ds → (vs.any fun kv => decide (kv.1 = k)) = (ds.any fun kv => decide (kv.1 = k))
  | _, _, .nil => rfl
  | _, _, .cons _ r => by simp only [List.any_cons]; rw [DenT.any k r]
theorem DenK.app {k v d} : ∀ {vs ds}, DenK K F Ad vs ds → Den K F Ad v d → DenK K F Ad (vs ++ [(k, v)]) (ds ++ [(k, d)])
  | _, _, .nil, h => .cons h .nil
  | _, _, .cons q r, h => .cons q (r.app h)
theorem DenT.app {k v d} : ∀ {vs ds}, DenT K F Ad vs ds → Den K F Ad v d → DenT K F Ad (vs ++ [(k, v)]) (ds ++ [(k, d)])
  | _, _, .nil, h => .cons h .nil
  | _, _, .cons q r, h => .cons q (r.app h)
theorem DenK.repl {k v d} : ∀ {vs ds}, DenK K F Ad vs ds → Den K F Ad v d → DenK K F Ad (vs.map fun kv => if kv.1 = k then (kv.1, v) else kv) (ds.map fun kv => if kv.1 = k then (kv.1, d) else kv)
  | _, _, .nil, h => .nil
  | _, _, .cons (k := j) q r, h => by
    simp only [List.map_cons]
    by_cases e : j = k
    · simp only [e, if_true]; exact .cons h (r.repl h)
    · simp only [e, if_false]; exact .cons q (r.repl h)
theorem DenT.repl {k v d} : ∀ {vs ds}, DenT K F Ad vs ds → Den K F Ad v d → DenT K F Ad (vs.map fun kv => if kv.1 = k then (kv.1, v) else kv) (ds.map fun kv => if kv.1 = k then (kv.1, d) else kv)
  | _, _, .nil, h => .nil
  | _, _, .cons (k := j) q r, h => by
    simp only [List.map_cons]
    by_cases e : j = k
    · simp only [e, if_true]; exact .cons h (r.repl h)
    · simp only [e, if_false]; exact .cons q (r.repl h)
theorem DenK.put {k v d vs ds} (h : DenK K F Ad vs ds) (q : Den K F Ad v d) : DenK K F Ad (putK vs k v) (insK ds k d) := by
  unfold putK insK
  rw [h.any k]
  split
  · exact h.repl q
  · exact h.app q
theorem DenT.put {k v d vs ds} (h : DenT K F Ad vs ds) (q : Den K F Ad v d) : DenT K F Ad (putK vs k v) (insK ds k d) := by
  unfold putK insK
  rw [h.any k]
  split
  · exact h.repl q
  · exact h.app q
theorem DV.dK (m : MemOk K F Ad M H) {ds} (h : DV K F Ad H x (.dK ds)) : ∃ a vs, x = .ref a ∧ Rd H a (.dK vs) ∧ DenK K F Ad vs ds := by
  rcases h with h | ⟨a, e, r⟩
  · cases h with
    | dK h r =>
      rcases nrm_dK h with h | ⟨b, h⟩
      · exact ⟨_, _, rfl, .inl (m.sub _ _ h), r⟩
      · exact ⟨_, _, rfl, .inr ⟨b, m.sub _ _ h⟩, r⟩
  · cases r with | dK h r => exact ⟨_, _, e, .inl h, r⟩
theorem DV.dT (m : MemOk K F Ad M H) {ds} (h : DV K F Ad H x (.dT ds)) : ∃ a vs, x = .ref a ∧ Rd H a (.dT vs) ∧ DenT K F Ad vs ds := by
  rcases h with h | ⟨a, e, r⟩
  · cases h with
    | dT h r =>
      rcases nrm_dT h with h | ⟨b, h⟩
      · exact ⟨_, _, rfl, .inl (m.sub _ _ h), r⟩
      · exact ⟨_, _, rfl, .inr ⟨b, m.sub _ _ h⟩, r⟩
  · cases r with | dT h r => exact ⟨_, _, e, .inl h, r⟩
theorem DB.int {i} (h : DB K H0 F Ad H x (.int i)) : x = .int i := by
  rcases h with h | ⟨a, e, n, na, q⟩
  · cases h; rfl
  · cases q
theorem DB.den {d} (h : DB K H0 F Ad H x d) (n : ∀ a, ¬ Root K F Ad H a d) : Den K F Ad x d := by
  rcases h with h | ⟨a, e, _, _, r⟩
  · exact h
  · exact absurd r (n a)
theorem ix_dict (hu : X.A.units + 1 < cLine) : IxR X (fun x y H Q => ∃ a v, x = .ref a ∧ DGet H a y (some v) ∧ Q v H) := by
  intro value slice pins s σ H x y v u Q I rx ry h hs
  obtain ⟨a, z, rfl, g, q⟩ := h
  obtain rfl : v = Value.ref a := rx
  have key : wpAny (model X.prog X.w) X.A (getItem (.ref a) u) (EP X pins σ Q) X.xe s := d_getItem hu I g ry fun w' s3 I3 rw' => ⟨z, H, I3, rw', q⟩
  have T := dict_typeIs I g
  have fin : wpAny (model X.prog X.w) X.A (subscripted slice false (.ref a) u) (fun r s₃ => wpAny (model X.prog X.w) X.A (letTemporaryGo value (.ref a) r >>= fun _ => pure r) (EP X pins σ Q) X.xe s₃) X.xe s := by
    rw [hs]
    refine wpAny_operating ?_
    refine wpAny_mono key (fun r s3 q3 => ?_) fun _ _ z => z
    exact wpAny_bind (wpAny_letTemporaryGo (wpAny_pure q3))
  unfold subscriptTail
  apply wpAny_bind
  rw [getitemInPython_of_ne T.not_modules]
  apply wpAny_bind
  apply wpAny_specialOf T PySem.F.slot_dict_getitem.lookup
  first
    | exact wpAny_pure (wpAny_bind fin)
    | exact wpAny_bind fin
    | exact wpAny_pure fin
def oIx (x y : D) (M : List D) : R := match view M x with
  | .lst xs => (match y with | .int i => (match atI xs i with | some d => .ok d M | none => .stuck) | _ => .stuck)
  | .tup xs => (match y with | .int i => (match atI xs i with | some d => .ok d M | none => .stuck) | _ => .stuck)
  | .ktp xs => (match y with | .int i => (match atI xs i with | some d => .ok d M | none => .stuck) | _ => .stuck)
  | .scr ns => (match y with | .int i => (match atI ns i with | some d => .ok (.int d) M | none => .stuck) | _ => .stuck)
  | .str z => (match y with | .int i => (if z.length ≤ sizeLine then (match atI z.cps.toList i with | some c => .ok (.str ⟨#[c]⟩) M | none => .stuck) else .stuck) | _ => .stuck)
  | .dK kvs => (match keyD y with | some k => (match valK kvs k with | some d => .ok d M | none => .stuck) | none => .stuck)
  | .dT kvs => (match y with | .tup ks => (match keysD ks with | some k => (match valK kvs k with | some d => .ok d M | none => .stuck) | none => .stuck) | _ => .stuck)
  | _ => .stuck
theorem atI_den {vs ds} {i : Int} {d : D} (h : DenL K F Ad vs ds) (e : atI ds i = some d) : ∃ v, atI vs i = some v ∧ Den K F Ad v d := by
  unfold atI at e ⊢
  rw [h.length]
  cases q : ixN ds.length i with
  | none => rw [q] at e; cases e
  | some j =>
    rw [q] at e
    obtain ⟨v, h1, h2⟩ := h.get (i := j) (d := d) e
    exact ⟨v, h1, h2⟩
theorem atI_map {α β : Type} {f : α → β} {ns : List α} {i : Int} {d : α} (e : atI ns i = some d) : atI (ns.map f) i = some (f d) := by
  unfold atI at e ⊢
  rw [List.length_map]
  cases q : ixN ns.length i with
  | none => rw [q] at e; cases e
  | some j =>
    rw [q] at e
    have e : ns[j]? = some d := e
    show (ns.map f)[j]? = some (f d)
    rw [List.getElem?_map, e]; rfl
def rIxAll (X : Cx) : R2 := fun x y H Q => rIxL X.K x y H Q ∨ rIxT X.K x y H Q ∨ rIxS x y H Q ∨ ∃ a v, x = .ref a ∧ DGet H a y (some v) ∧ Q v H
theorem ix_all (hu : X.A.units + 1 < cLine) : IxR X (rIxAll X) := ix_list.or (ix_tup.or (ix_str.or (ix_dict hu)))
theorem oIx_ok {y : V} {dx dy : D} (m : MemOk X.K F Ad M H) (hx : DB X.K H F Ad H x dx) (hy : DB X.K H F Ad H y dy) (r : RP X.K E (DE X.K) F Ad H Q (oIx dx dy M)) : rIxAll X x y H Q := by
  have ax := DB.view m hx
  unfold oIx at r
  revert r ax
  generalize view M dx = ex
  intro r ax
  cases ex with
  | lst xs =>
    dsimp only at r
    split at r
    · rename_i i
      split at r
      · rename_i oo d e
        obtain ⟨a, vs, rfl, h1, d1⟩ := ax.lst m
        obtain ⟨v, e1, e2⟩ := atI_den d1 e
        exact .inl ⟨a, vs, i, v, rfl, hy.int, SqL.of h1, e1, RP.here r m e2⟩
      · exact r.elim
    · exact r.elim
  | tup xs =>
    dsimp only at r
    split at r
    · rename_i i
      split at r
      · rename_i oo d e
        obtain ⟨a, vs, rfl, h1, d1⟩ := ax.tup m
        obtain ⟨v, e1, e2⟩ := atI_den d1 e
        exact .inr (.inl ⟨a, vs, i, v, rfl, hy.int, h1, e1, RP.here r m e2⟩)
      · exact r.elim
    · exact r.elim
  | ktp xs =>
    dsimp only at r
    split at r
    · rename_i i
      split at r
      · rename_i oo d e
        obtain ⟨a, vs, rfl, h1, d1⟩ := ax.ktp m
        obtain ⟨v, e1, e2⟩ := atI_den d1 e
        exact .inr (.inl ⟨a, vs, i, v, rfl, hy.int, h1, e1, RP.here r m e2⟩)
      · exact r.elim
    · exact r.elim
  | scr xs =>
    dsimp only at r
    split at r
    · rename_i i
      split at r
      · rename_i oo d e
        obtain ⟨a, rfl, h1⟩ := ax.scr m
        exact .inl ⟨a, _, i, .int d, rfl, hy.int, h1, atI_map e, RP.here r m .int⟩
      · exact r.elim
    · exact r.elim
  | str z =>
    dsimp only at r
    split at r
    · rename_i i
      split at r
      · rename_i hz
        split at r
        · rename_i oo c e
          exact .inr (.inr (.inl ⟨z, i, c, ax.str, hy.int, hz, e, RP.here r m .str⟩))
        · exact r.elim
      · exact r.elim
    · exact r.elim
  | dK kvs =>
    dsimp only at r
    split at r
    · rename_i oo k ek
      split at r
      · rename_i oo2 d e
        obtain ⟨a, vs, rfl, h1, d1⟩ := ax.dK m
        obtain ⟨v, e1, e2⟩ := (d1.val k).1 d e
        have hy' : y = kV k := keyD_v (hy.den (fun a q => by cases q <;> simp [keyD] at ek)) ek
        exact .inr (.inr (.inr ⟨a, v, rfl, .inl ⟨vs, k, h1, hy', e1.symm⟩, RP.here r m e2⟩))
      · exact r.elim
    · exact r.elim
  | dT kvs =>
    dsimp only at r
    split at r
    · rename_i ks
      split at r
      · rename_i oo k ek
        split at r
        · rename_i oo2 d e
          obtain ⟨a, vs, rfl, h1, d1⟩ := ax.dT m
          obtain ⟨v, e1, e2⟩ := (d1.val k).1 d e
          have hd := hy.den (fun a q => nomatch q)
          cases hd with
          | tup h2 d2 =>
            have h2 := h2.key d2 ek
            rw [keysD_v d2 ek] at h2
            exact .inr (.inr (.inr ⟨a, v, rfl, .inr ⟨vs, k, _, h1, rfl, m.sub _ _ h2, e1.symm⟩, RP.here r m e2⟩))
        · exact r.elim
      · exact r.elim
    · exact r.elim
  | _ => exact r.elim
variable {a b e : Expr} {fa fb f : EF} {pos p2 : Pos}
theorem s_ix (hu : X.A.units + 1 < cLine) (ha : SB X W a fa) (hb : SB X W b fb) (hs : PlainIx b := by intro _ _; rfl) : SE X W (.Subscript a b pos) (e2 oIx fa fb) :=
  PE.imp (pe_ix (ix_all hu) ha hb hs) fun σ H Q ⟨N0, F, Ad, M, env, m, en, r⟩ =>
    tG_seq DE.ok m en r fun d M1 v F1 Ad1 H1 g1 m1 en1 x1 r1 => tG_seq DE.ok m1 en1 r1 fun d2 M2 v2 F2 Ad2 H2 g2 m2 en2 x2 r2 => oIx_ok m2 (DB.gr g2 x1) x2 r2
def optI : D → Option (Option Int)
  | .non => some none
  | .int i => some (some i)
  | _ => none
def tO (K : PySem.W.Frag) (W : WX) (f : EF) : TO := fun σ H Q => ∃ N0 F Ad M env, MemOk K F Ad M H ∧ EnvOk K N0 F Ad H σ env ∧ (match f env M with
  | .ok d M1 => ∃ o, optI d = some o ∧ ∀ F' Ad' H', Gr F Ad H F' Ad' H' → MemOk K F' Ad' M1 H' → Q o H'
  | .exc x M1 => ∀ cls dx F' Ad' H', Gr F Ad H F' Ad' H' → MemOk K F' Ad' M1 H' → XOk K F' Ad' H' x cls dx → W cls dx σ H'
  | .stuck => False)
abbrev SP (X : Cx) (W : WX) (e : Option Expr) (f : EF) : Prop := PO X e (tO X.K W f)
theorem PO.imp {X : Cx} {e : Option Expr} {t u : TO} (h : PO X e t) (i : ∀ σ H Q, u σ H Q → t σ H Q) : PO X e u := ⟨fun pins s σ H Q I q => h.run pins s σ H Q I (i σ H Q q)⟩
theorem sp_none : SP X W none (eC .non) := PO.imp po_none fun σ H Q ⟨N0, F, Ad, M, env, m, en, o, e, r⟩ => by
  cases e; exact r F Ad H Gr.refl m
def eInt (f : EF) : EF := fun env M => (f env M).bind fun d M1 => match d with | .int i => .ok (.int i) M1 | _ => .stuck
theorem sp_some (h : SE X W a fa) : SP X W (some a) (eInt fa) := PO.imp (po_some h) fun σ H Q ⟨N0, F, Ad, M, env, m, en, r⟩ => ⟨N0, F, Ad, M, env, m, en, by
  unfold eInt at r
  cases q : fa env M with
  | ok d M1 =>
    rw [q] at r
    intro v F' Ad' H' g m' x
    cases d with
    | int i =>
      cases x
      obtain ⟨o, e, r⟩ := r
      cases e
      exact ⟨_, rfl, r F' Ad' H' g m'⟩
    | _ => exact r.elim
  | exc x M1 => rw [q] at r; exact r
  | stuck => rw [q] at r; exact r⟩
def cutD (xs : List D) (lo hi : Option Int) : List D := (xs.drop (HT.sIx xs.length 0 lo)).take (HT.sIx xs.length xs.length hi - HT.sIx xs.length 0 lo)
def oSlE (x : D) (lo hi : Option Int) (M : List D) : R := match view M x with
    | .lst xs => .ok (.lst (cutD xs lo hi)) M
    | .scr ns => .ok (.lst (cutD (ns.map D.int) lo hi)) M
    | .tup xs => .ok (.tup (cutD xs lo hi)) M
    | .str z => if z.length ≤ sizeLine then .ok (.str (cutS z lo hi)) M else .stuck
    | _ => .stuck
def eSl (g : D → Option Int → Option Int → List D → R) (a l u : EF) : EF := fun env M => (a env M).bind fun x M1 => (l env M1).bind fun y M2 => match optI y with
  | none => .stuck
  | some lo => (u env M2).bind fun z M3 => match optI z with
    | none => .stuck
    | some hi => g x lo hi M3
theorem tO_seq {f : EF} {k : D → List D → R} {Q : VK} {Q' : Option Int → Hp → Prop} (dr : DRok DR) (m : MemOk K F Ad M H) (e : EnvOk K N0 F Ad H σ env)
    (h : RP K (fun c d H => W c d σ H) DR F Ad H Q ((f env M).bind k)) (hn : ∀ d M1, optI d = none → k d M1 = .stuck)
    (hq : ∀ d o M1 F1 Ad1 H1, optI d = some o → Gr F Ad H F1 Ad1 H1 → MemOk K F1 Ad1 M1 H1 → EnvOk K N0 F1 Ad1 H1 σ env → RP K (fun c d H => W c d σ H) DR F1 Ad1 H1 Q (k d M1) → Q' o H1) : tO K W f σ H Q' := by
  refine ⟨N0, F, Ad, M, env, m, e, ?_⟩
  cases q : f env M with
  | ok d M1 =>
    rw [q] at h
    cases ho : optI d with
    | none => rw [R.bind_ok, hn d M1 ho] at h; exact h.elim
    | some o => exact ⟨o, ho, fun F' Ad' H' g m' => hq d o M1 F' Ad' H' ho g m' (e.gr g) (RP.gr dr h g)⟩
  | exc x M1 => rw [q] at h; exact h
  | stuck => rw [q] at h; exact h
def rSlAll (X : Cx) : V → Option Int → Option Int → Hp → VK → Prop := fun x lo hi H Q => rSlL X.K x lo hi H Q ∨ rSlA X.K x lo hi H Q ∨ rSlS x lo hi H Q
theorem sl_all : SlR X (rSlAll X) := sl_list.or (sl_tupA.or sl_str)
theorem DenL.cut {vs ds lo hi} (h : DenL K F Ad vs ds) : DenL K F Ad (cutV vs lo hi) (cutD ds lo hi) := by
  unfold cutV cutD
  rw [h.length]
  exact (h.drop _).take _
theorem DenL.map_int : ∀ {ns : List Int}, DenL K F Ad (ns.map V.int) (ns.map D.int)
  | [] => .nil
  | _ :: _ => .cons .int DenL.map_int
theorem oSlE_ok {lo hi : Option Int} {dx : D} (m : MemOk X.K F Ad M H) (hx : DB X.K H F Ad H x dx) (r : RP X.K E (DE X.K) F Ad H Q (oSlE dx lo hi M)) : rSlAll X x lo hi H Q := by
  have ax := DB.view m hx
  unfold oSlE at r
  revert r ax
  generalize view M dx = ex
  intro r ax
  cases ex with
  | lst xs =>
    obtain ⟨a, vs, rfl, h1, d1⟩ := ax.lst m
    exact .inl ⟨a, vs, rfl, SqL.of h1, fun p hp => RP.newLst r m d1.cut hp⟩
  | scr ns =>
    obtain ⟨a, rfl, h1⟩ := ax.scr m
    exact .inl ⟨a, _, rfl, h1, fun p hp => RP.newLst r m DenL.map_int.cut hp⟩
  | tup xs =>
    dsimp only at r
    have dn := ax.den (fun _ h => nomatch h)
    obtain ⟨a, vs, rfl, h1, d1⟩ := ax.tup m
    refine .inr (.inl ⟨a, vs, rfl, h1, fun ⟨e1, e2⟩ => ?_, fun _ p hp => RP.newTup r m d1.cut hp⟩)
    have hc : cutD xs lo hi = xs := by
      unfold cutD
      rw [← d1.length, e1, e2, d1.length]; simp
    rw [hc] at r
    exact RP.here r m dn
  | str z =>
    dsimp only at r
    split at r
    · rename_i hz; exact .inr (.inr ⟨z, ax.str, hz, RP.here r m .str⟩)
    · exact False.elim r
  | _ => exact False.elim r
theorem s_sl (dr : DRok DR) {g : D → Option Int → Option Int → List D → R} (ho : ∀ {E : XK} {F H : Hp} {Ad : List Addr} {M : List D} {Q : VK} {x : V} {lo hi : Option Int} {dx : D}, MemOk X.K F Ad M H → DB X.K H F Ad H x dx → RP X.K E DR F Ad H Q (g dx lo hi M) → rSlAll X x lo hi H Q)
    {lo hi : Option Expr} {fl fu : EF} (ha : SB X W a fa) (hl : SP X W lo fl) (hu : SP X W hi fu) : PE X (.Subscript a (.Slice lo hi none p2) pos) (tG X.K W DR (eSl g fa fl fu)) :=
  PE.imp (pe_slice sl_all ha hl hu) fun σ H Q ⟨N0, F, Ad, M, env, m, en, r⟩ =>
    tG_seq dr m en r fun d M1 v F1 Ad1 H1 g1 m1 en1 x1 r1 =>
      tO_seq dr m1 en1 r1 (fun d2 M2 hd => by rw [hd]) fun d2 o2 M2 F2 Ad2 H2 e2 g2 m2 en2 r2 => by
        rw [e2] at r2
        exact tO_seq dr m2 en2 r2 (fun d3 M3 hd => by rw [hd]) fun d3 o3 M3 F3 Ad3 H3 e3 g3 m3 en3 r3 => by
          rw [e3] at r3
          exact ho m3 (DB.gr g3 (DB.gr g2 x1 (H0' := H2))) r3
theorem se_sl {lo hi : Option Expr} {fl fu : EF} (ha : SB X W a fa) (hl : SP X W lo fl) (hu : SP X W hi fu) : SE X W (.Subscript a (.Slice lo hi none p2) pos) (eSl oSlE fa fl fu) := s_sl DE.ok oSlE_ok ha hl hu
end
end MP
set_option maxRecDepth 100000
set_option maxHeartbeats 1000000
namespace MP
open PySem PySem.Spec PyProof.Rows L2
variable [TabsP] [ThkP]
structure Room (k : Nat) (A : Around) : Prop where
  rm : L2.Room k A
  gd : A.guards = some []
theorem Room.mono {j k : Nat} {A : Around} (r : Room k A) (h : j ≤ k) : Room j A := ⟨r.rm.mono h, r.gd⟩
theorem Room.deeper {k : Nat} {A : Around} (r : Room (k + 1) A) (env : Env) : Room k (A.deeper env) := ⟨r.rm.deeper env, r.gd⟩
theorem make_gd {A : Around} {C : Addr} {us : List Value} {kw : List (Str × Value)} : (A.under (.builtin "type.__call__" ⟨.ref C :: us, kw⟩)).guards = A.guards := by
  obtain ⟨a, b, c, d, e⟩ := A
  cases d <;> simp [Around.under, Code.guards, Code.isGuard, pushGuards, guardIds]
theorem Room.make {k : Nat} {A : Around} (r : Room (k + 1) A) (C : Addr) (us : List Value) (kw : List (Str × Value)) : Room k (A.under (.builtin "type.__call__" ⟨.ref C :: us, kw⟩)) :=
  ⟨r.rm.make C us kw, make_gd.trans r.gd⟩
theorem Room.hd {k : Nat} {A : Around} (r : Room k A) : A.handled = none := r.rm.hd
theorem Room.depth {k : Nat} {A : Around} (r : Room k A) : A.depth < recursionLimit := r.rm.depth
theorem Room.units {k : Nat} {A : Around} (r : Room k A) : A.units + 64 < cLine := r.rm.units
theorem Room.units0 {k : Nat} {A : Around} (r : Room k A) : A.units < cLine := r.rm.units0
structure FnOk (P : Program) (w : World) (K : PySem.W.Frag) (mg : Str → Option Value) (base : Heap) (CX : CXT) (k : Nat) (f : Addr) (fd : FuncData) (ps : List Str) (sp : Sp) : Prop where
  len : ∀ vs H Q E, sp vs H Q E → vs.length = ps.length
  run : ∀ (A : Around) (outer : List Env) (s : Shared) (H : Hp) (args : Args) (us : List Value) (vs : List V) (Q : VK) (E : XK), Room k A → Env0 P w K mg base A outer s H → BindsTo s fd args (ps.zip us) → Vals vs us → sp vs H Q E →
    codeAny (model P w) A (.call (.ref f) args) (CR CX outer P w H s Q E) s
section
variable {X : Cx} {CX : CXT} {k : Nat} {f : Addr} {fd : FuncData} {ps : List Str} {sp : Sp} {dvs : List V} {ds : List Value} {E : St → XK} {x : Str} {p pos : Pos} {e : Expr} {es : List Expr} {t : TA}
theorem cr_here {CX : CXT} {Ex : XK} {pins : List (Addr × Obj)} {σ : St} {H : Hp} {s : Shared} {Q : VK} (hx : PassesAt CX X σ Ex) (I : Inv X pins σ H s) {r : Result} {s' : Shared} (h : CR CX X.stack X.prog X.w H s Q Ex r s') :
    match r with
    | .ok (.ret u) => EP X pins σ Q u s'
    | .ok _ => False
    | .error er => X.xe er s' := by
  cases r with
  | error er => exact hx pins H s er s' I h
  | ok fl => cases fl with
    | ret u => exact I.after h
    | _ => exact h
theorem run_any {pins : List (Addr × Obj)} {σ : St} {H : Hp} {s : Shared} {Q : VK} {kw : List (Str × Value)} {us al : List Value} {vs : List V} {Ex : XK} (F : FnOk X.prog X.w X.K X.mg X.base CX k f fd ps sp) (hr : Room k X.A)
    (hx : PassesAt CX X σ Ex) (I : Inv X pins σ H s) (hb : al.length = ps.length → BindsTo s fd ⟨us, kw⟩ (ps.zip al)) (r : Vals vs al) (h : sp vs H Q Ex) : wpAny (model X.prog X.w) X.A (call (.ref f) us kw) (EP X pins σ Q) X.xe s := by
  refine wpAny_call (codeAny_mono (F.run X.A X.stack s H ⟨us, kw⟩ al vs Q Ex hr I.env0 (hb (by rw [← r.length]; exact F.len _ _ _ _ h)) r h) fun r s' hq => ?_)
  have z := cr_here hx I hq
  cases r with
  | error er => exact z
  | ok fl => cases fl with
    | ret u => exact z
    | _ => exact z.elim
theorem run_fnSD {pins : List (Addr × Obj)} {σ : St} {H : Hp} {s : Shared} {Q : VK} {us : List Value} {vs : List V} (F : FnOk X.prog X.w X.K X.mg X.base CX k f fd ps sp) (hr : Room k X.A) (hb : Binds X.K fd ps ds) (hd : Vals dvs ds) (hx : PassesAt CX X σ (E σ))
    (I : Inv X pins σ H s) (r : Vals vs us) (h : sp (vs ++ dvs) H Q (E σ)) : wpAny (model X.prog X.w) X.A (call (.ref f) us) (EP X pins σ Q) X.xe s :=
  run_any F hr hx I (fun hl => hb s us I.kIn hl) (r.append hd) h
theorem pe_callSD (F : FnOk X.prog X.w X.K X.mg X.base CX k f fd ps sp) (hr : Room k X.A) (hg : Gl X x) (hm : X.mg x = some (.ref f)) (hk : PySem.W.keepIn X.K (.ref f) = true) (hb : Binds X.K fd ps ds) (hd : Vals dvs ds) (hx : ∀ σ, PassesAt CX X σ (E σ))
    (ha : PA X (e :: es) t) (hdb : (x == ("__debug__" : Str)) = false := by decide) (he : starEach (e :: es) X.env = (false, eval e X.env) :: starEach es X.env := by rfl) (hpl : (backTo pos (starEach es X.env)).any (·.1) = false := by rfl) :
    PE X (.Call (.Name x p) (e :: es) [] pos) (tCallSD sp dvs E t) :=
  ⟨fun pins s σ H Q I h => wpAny_Call_Name_kw (ld_glob I hg hm (PySem.W.callWith_K (h₀ := X.base) I.ok.mod.kin hk (thn (ha.run pos pins s σ H _ I h) fun us s1 ⟨vs, H1, I1, r, q⟩ => ⟨I1.kIn, run_fnSD F hr hb hd (hx σ) I1 r q⟩) he hpl) hdb)⟩
end
section
variable {X : Cx} {CX : CXT} {k : Nat} {a C p g dx : Addr} {f : Str} {fd : FuncData} {ps : List Str} {sp : Sp} {dvs : List V} {ds : List Value} {E : XK} {fs : List (Str × V)}
end
theorem fn_of {CX : CXT} {P : Program} {w : World} {K : PySem.W.Frag} {mg : Str → Option Value} {base : Heap} {k : Nat} {f : Addr} {name qual : Str} {params : Arguments} {body : List Stmt} {scope : Scope} {dvs : List V} {kws : List (Str × V)} {fd : FuncData} {N ps : List Str} {sp : Sp}
    (Fd : FunD K name qual params body scope dvs kws f fd) (S : FnScope N ps scope) (len : ∀ vs H Q E, sp vs H Q E → vs.length = ps.length)
    (hbody : ∀ (cdv : Value) (A : Around) (outer : List Env) (s : Shared) (H : Hp) (vs : List V) (Q : VK) (E : XK), Room k (A.deeper (envOfC qual scope s.heap.objs.size f cdv)) → sp vs H Q E →
      ∃ t, PSs (cxOf CX P w K mg base N qual scope f cdv A outer s H E) body t ∧ t { nx := fun _ H' => Q .non H', rt := Q } (start N vs) H) : FnOk P w K mg base CX (k + 1) f fd ps sp := by
  obtain ⟨oc, od, dV, kV, doc, pm, an, cdv, ct, osl, rfl, lk, hcd, _, _⟩ := Fd.ex
  refine ⟨len, fun A outer s H args us vs Q E hr e0 hb r hsp => ?_⟩
  have keep : ∀ (b : Addr) (o : Obj), base.get? b = some o → s.heap.get? b = some o := fun b o e => (e0.bs b o e).1
  have KX : K.In s.heap := e0.mod.kin.keeps keep
  have kinds : ∀ y ∈ ps.zip us, scope.names.lookup y.1 = some .local ∨ (scope.names.lookup y.1 = some .cell ∧ ((cellsFrom (s.heap.objs.size + 1) scope.names []).lookup y.1).isSome = true) := by
    rintro ⟨n, v⟩ hy
    exact (S.par n (List.of_mem_zip hy).1).imp_right fun q => ⟨q, PySem.W.cellsFrom_some _ _ _ (.inl q)⟩
  refine codeAny_call_function hr.depth (KX _ _ lk) rfl S.co S.gen rfl (PySem.W.codeRec_of KX hcd) (hb _ _ _ _ (wpAny_newFunctionEnv_cells S.kind kinds fun env he s1 x => ?_))
  subst he
  obtain ⟨t, ht, hq⟩ := hbody cdv A outer s H vs Q E (hr.deeper _) hsp
  have I : Inv (cxOf CX P w K mg base N qual scope f cdv A outer s H E) [] (start N vs) H s1 := inv_start S hr.hd e0 (len _ _ _ _ hsp) r x
  refine ⟨(e0.mod.nolimit.keeps keep).keeps x.toInCall.keep, codeAny_func (wpAny_mono (ht.run [] s1 (start N vs) H _ I hq) (fun fl s' hs => ?_) fun e s' hs => hs)⟩
  cases fl with
  | ret u =>
    obtain ⟨v, σ', H', J, rv, q⟩ := hs
    exact ⟨v, H', J.os, J.bare, J.base, J.hok, rv, q⟩
  | next =>
    obtain ⟨σ', H', J, q⟩ := hs
    exact ⟨.non, H', J.os, J.bare, J.base, J.hok, rfl, q⟩
  | brk => obtain ⟨_, _, _, q⟩ := hs; exact q.elim
  | cont => obtain ⟨_, _, _, q⟩ := hs; exact q.elim
end MP
set_option maxRecDepth 100000
set_option maxHeartbeats 1000000
namespace MP
open PySem PySem.Spec PyProof.Rows L2
variable [TabsP] [ThkP]
section
variable {X : Cx} {W : WX} {K : PySem.W.Frag} {E : XK} {DR : DRel} {N0 : Ent} {H0 F H : Hp} {Ad : List Addr} {M : List D} {env : EnvM} {σ : St} {Q : VK} {x : V} {a : Expr} {fa : EF} {pos : Pos} {f : Str}
def Op1E (X : Cx) (W : WX) (DR : DRel) (f : Value → Sem Value) (g : D → List D → R) : Prop :=
  ∀ (pins : List (Addr × Obj)) (s : Shared) (σ : St) (H F : Hp) (Ad : List Addr) (M : List D) (x : V) (v : Value) (dx : D) (Q : VK), Inv X pins σ H s → MemOk X.K F Ad M H → RelV x v → Den X.K F Ad x dx →
    RP X.K (fun c d H => W c d σ H) DR F Ad H Q (g dx M) → wpAny (model X.prog X.w) X.A (f v) (EP X pins σ Q) X.xe s
theorem Op1.e {f : Value → Sem Value} {g : D → List D → R} (h : Op1 X DR f g) : Op1E X W DR f g := fun pins s σ H F Ad M x v dx Q I m rx hx r => h pins s σ H F Ad M _ x v dx Q I m rx (.inl hx) r
structure ClsF (K : PySem.W.Frag) (c : Str) (fs : List Str) : Prop where
  cls : Cls K (He.ga K c)
  no : ∀ f ∈ fs, NoAttr K (He.ga K c) f
def spD (K : PySem.W.Frag) (DR : DRel) (n : Nat) (c : List D → List D → R) : Sp := fun vs H Q E => vs.length = n ∧ ∃ F Ad M ds, MemOk K F Ad M H ∧ DenL K F Ad vs ds ∧ RP K E DR F Ad H Q (c ds M)
def spI (K : PySem.W.Frag) (cn : Str) (n : Nat) (c : List D → List D → R) : Sp := fun vs H Q E => vs.length = n + 1 ∧ ∃ x dx rest HH F Ad M ds, vs = .ref x :: rest ∧ H = upd (upd HH dx (.own x)) x (.ins (He.ga K cn) dx []) ∧ HH x = none ∧ HH dx = none ∧ dx ≠ x ∧
  MemOk K F Ad M HH ∧ DenL K F Ad rest ds ∧ RP K E (DO K) F Ad HH (fun v H' => v = .ref x → Q .non H') (c ds M)
abbrev Pas (X : Cx) (W : WX) : Prop := ∀ σ, PassesAt (L2.CX X.prog X.w) X σ (WE W σ)
def WN : WX := fun _ _ _ _ => False
structure FnK (P : Program) (w : World) (K : PySem.W.Frag) (mg : Str → Option Value) (base : Heap) (DR : DRel) (k n : Nat) (g : Addr) (dd : List D) (c : List D → List D → R) : Prop where
  ex : ∃ (fd : FuncData) (ps : List Str) (dvs : List V) (us : List Value), FnOk P w K mg base (L2.CX P w) k g fd ps (spD K DR n c) ∧ Binds K fd ps us ∧ Vals dvs us ∧ (∀ F Ad, DenL K F Ad dvs dd) ∧ PySem.W.keepIn K (.ref g) = true
abbrev FnX (X : Cx) (DR : DRel) (k n : Nat) (g : Addr) (dd : List D) (c : List D → List D → R) : Prop := FnK X.prog X.w X.K X.mg X.base DR k n g dd c
def apC (c : List D → List D → R) (n : Nat) (dd xs M : List D) : R := if (xs ++ dd).length = n then c (xs ++ dd) M else .stuck
theorem spD_of {n : Nat} {c : List D → List D → R} {vs dvs : List V} {ds dd : List D} (m : MemOk K F Ad M H) (x : DenL K F Ad vs ds) (h : ∀ F Ad, DenL K F Ad dvs dd) (r : RP K E DR F Ad H Q (apC c n dd ds M)) : spD K DR n c (vs ++ dvs) H Q E := by
  unfold apC at r
  split at r
  · rename_i hn
    have l := (x.append (h F Ad)).length
    exact ⟨by rw [l]; exact hn, F, Ad, M, _, m, x.append (h F Ad), r⟩
  · exact r.elim
variable {k n : Nat} {g : Addr} {dd : List D} {c : List D → List D → R} {es : List Expr} {e : Expr} {l : LF} {y m : Str} {p apos : Pos}
theorem run_fnK {pins : List (Addr × Obj)} {s : Shared} {us : List Value} {vs : List V} {ds : List D} (Fk : FnX X DR k n g dd c) (hr : Room k X.A) (hx : Pas X W) (I : Inv X pins σ H s) (mm : MemOk X.K F Ad M H) (r : Vals vs us) (x : DenL X.K F Ad vs ds)
    (h : RP X.K (fun c d H => W c d σ H) DR F Ad H Q (apC c n dd ds M)) : wpAny (model X.prog X.w) X.A (call (.ref g) us) (EP X pins σ Q) X.xe s := by
  obtain ⟨fd, ps, dvs, ws, Fo, hb, hv, hd, hk⟩ := Fk.ex
  exact run_fnSD Fo hr hb hv (hx σ) I r (spD_of mm x hd h)
theorem s_call (dr : DRok DR) (Fk : FnX X DR k n g dd c) (hr : Room k X.A) (hx : Pas X W) (hg : Gl X y) (hm : X.mg y = some (.ref g)) (ha : SL X W (e :: es) l) (hdb : (y == ("__debug__" : Str)) = false := by decide)
    (he : starEach (e :: es) X.env = (false, eval e X.env) :: starEach es X.env := by rfl) (hpl : (backTo pos (starEach es X.env)).any (·.1) = false := by rfl) : PE X (.Call (.Name y p) (e :: es) [] pos) (tG X.K W DR (eCall (apC c n dd) l)) := by
  obtain ⟨fd, ps, dvs, ws, Fo, hb, hv, hd, hk⟩ := Fk.ex
  refine PE.imp (pe_callSD Fo hr hg hm hk hb hv hx ha hdb he hpl) fun σ H Q ⟨N0, F, Ad, M, env, m, en, r⟩ => ?_
  refine tL_seq dr m en r fun ds M1 vs F1 Ad1 H1 g1 m1 en1 x1 r1 => ?_
  exact spD_of m1 x1 hd r1
def eMeth (cn m : Str) (c : List D → List D → R) (n : Nat) (dd : List D) (o : EF) (l : LF) : EF := fun env M => (o env M).bind fun x M1 => match view M1 x with
  | .ins c' fs => if c' = cn ∧ fs.lookup m = none then (l env M1).bind fun xs M2 => apC c n dd (x :: xs) M2 else .stuck
  | _ => .stuck
structure InK (P : Program) (w : World) (K : PySem.W.Frag) (mg : Str → Option Value) (base : Heap) (k n : Nat) (cn : Str) (g : Addr) (dd : List D) (c : List D → List D → R) : Prop where
  mak : Mk K (He.ga K cn) g
  ex : ∃ (fd : FuncData) (ps : List Str) (dvs : List V) (us : List Value), FnOk P w K mg base (L2.CX P w) k g fd ps (spI K cn n c) ∧ Binds K fd ps us ∧ Vals dvs us ∧ (∀ F Ad, DenL K F Ad dvs dd)
end
end MP
set_option maxRecDepth 100000
set_option maxHeartbeats 1000000
namespace MP
open PySem PySem.Spec PyProof.Rows L2
variable [TabsP] [ThkP]
end MP
set_option maxRecDepth 100000
set_option maxHeartbeats 1000000
namespace MP
open PySem PySem.Spec PyProof.Rows L2
variable [TabsP] [ThkP]
section
variable {X : Cx} {pins : List (Addr × Obj)} {σ : St} {H : Hp} {s : Shared} {d : Addr} {o : Obj}
end
def tLk (td : TE) : TE := fun σ H Q => td σ H fun x H1 => ∃ d u, x = .ref d ∧ ((∃ od, H1 d = some (.frz od u) ∧ Q x H1) ∨ (H1 d = some u ∧ Mut (some u) ∧ ∀ od, Q x (upd H1 d (.frz od u))))
section
variable {X : Cx} {tg e : Expr} {td : TE} {apos cpos : Pos}
theorem pe_lk (h : PE X e td) : PE X e (tLk td) := ⟨fun pins s σ H Q I q => wpAny_mono (h.run pins s σ H _ I q) (fun v s1 ⟨x, H1, I1, rx, d, u, ex, z⟩ => by
  rcases z with ⟨od, hd, q⟩ | ⟨hd, mu, q⟩
  · exact ⟨x, H1, I1, rx, q⟩
  · obtain ⟨od, I2⟩ := I1.lock hd mu
    exact ⟨x, _, I2, rx, q od⟩) fun _ _ h => h⟩
end
end MP
set_option maxRecDepth 100000
set_option maxHeartbeats 1000000
namespace MP
open PySem PySem.Spec PyProof.Rows L2
variable [TabsP] [ThkP]
def Pre (Ad Ad' : List Addr) : Prop := ∀ (n : Nat) (a : Addr), Ad[n]? = some a → Ad'[n]? = some a
def KsOk (ks : List (Addr × HO)) (H : Hp) : Prop := ∀ k ∈ ks, H k.1 = some k.2
structure ItOk (K : PySem.W.Frag) (F : Hp) (Ad : List Addr) (ks : List (Addr × HO)) (J : It) (ds : List D) : Prop where
  go : ∀ (i : Nat) F' Ad' M' H', i < ds.length → FLe F F' → Pre Ad Ad' → MemOk K F' Ad' M' H' → KsOk ks H' → J.go i H'
  stop : ∀ F' Ad' M' H', FLe F F' → Pre Ad Ad' → MemOk K F' Ad' M' H' → KsOk ks H' → J.stop ds.length H'
  yld : ∀ (i : Nat) F' Ad' M' H' x H'', i < ds.length → FLe F F' → Pre Ad Ad' → MemOk K F' Ad' M' H' → KsOk ks H' → J.yld i H' x H'' →
    ∃ d F'', ds[i]? = some d ∧ Gr F' Ad' H' F'' Ad' H'' ∧ MemOk K F'' Ad' M' H'' ∧ Den K F'' Ad' x d
def AtL (K : PySem.W.Frag) (F : Hp) (Ad : List Addr) (ks : List (Addr × HO)) (a : Addr) (ds : List D) : Prop :=
  ∀ F' Ad' M' H', FLe F F' → Pre Ad Ad' → MemOk K F' Ad' M' H' → KsOk ks H' → ∃ vs, SqL K H' a vs ∧ DenL K F' Ad' vs ds
def AtT (K : PySem.W.Frag) (F : Hp) (Ad : List Addr) (ks : List (Addr × HO)) (a : Addr) (ds : List D) : Prop :=
  ∀ F' Ad' M' H', FLe F F' → Pre Ad Ad' → MemOk K F' Ad' M' H' → KsOk ks H' → ∃ vs, SqT K H' a vs ∧ DenL K F' Ad' vs ds
def enumD (ds : List D) : List D := ds.mapIdx fun i d => .tup [.int i, d]
section
variable {K : PySem.W.Frag} {F H : Hp} {Ad : List Addr} {M : List D} {ks : List (Addr × HO)} {a : Addr} {ds : List D}
theorem atL_lst {vs} (h : F a = some (.lst vs)) (r : DenL K F Ad vs ds) : AtL K F Ad [] a ds := fun F' Ad' M' H' l p m _ =>
  ⟨vs, SqL.of (m.sub _ _ (nrm_lst (l a (.lst vs) (by rw [h]; rfl)))), r.mono l p⟩
theorem atL_scr {ns : List Int} (h : SqL K F a (ns.map V.int)) : AtL K F Ad [] a (ns.map D.int) := fun F' Ad' M' H' l p m _ =>
  ⟨_, sqL_sub m (sqL_fle l h), DenL.map_int⟩
theorem atT_tup {vs} (h : TupK K F a vs) (r : DenL K F Ad vs ds) : AtT K F Ad [] a ds := fun F' Ad' M' H' l p m _ =>
  ⟨vs, sqT_sub m (sqT_fle l h.sq), r.mono l p⟩
theorem atT_ktp {vs} (h : SqT K F a vs) (r : DenL K F Ad vs ds) : AtT K F Ad [] a ds := fun F' Ad' M' H' l p m _ =>
  ⟨vs, sqT_sub m (sqT_fle l h), r.mono l p⟩
theorem DenL.lt {vs} {i : Nat} (r : DenL K F Ad vs ds) (h : i < ds.length) : ∃ v d, vs[i]? = some v ∧ ds[i]? = some d ∧ Den K F Ad v d := by
  obtain ⟨v, h1, h2⟩ := r.get (List.getElem?_eq_getElem h)
  exact ⟨v, _, h1, List.getElem?_eq_getElem h, h2⟩
theorem it_l (h : AtL K F Ad ks a ds) : ItOk K F Ad ks (Itl K a) ds where
  go := fun i F' Ad' M' H' hi l p m k => by
    obtain ⟨vs, h1, h2⟩ := h F' Ad' M' H' l p m k
    obtain ⟨v, d, e1, e2, e3⟩ := h2.lt hi
    exact ⟨vs, v, h1, e1⟩
  stop := fun F' Ad' M' H' l p m k => by
    obtain ⟨vs, h1, h2⟩ := h F' Ad' M' H' l p m k
    exact ⟨vs, h1, by rw [h2.length]; exact Nat.le_refl _⟩
  yld := fun i F' Ad' M' H' x H'' hi l p m k ⟨e, q⟩ => by
    subst e
    obtain ⟨vs, h1, h2⟩ := h F' Ad' M' H'' l p m k
    obtain ⟨v, d, e1, e2, e3⟩ := h2.lt hi
    rw [q vs h1] at e1; cases e1
    exact ⟨d, F', e2, Gr.refl, m, e3⟩
theorem it_t (h : AtT K F Ad ks a ds) : ItOk K F Ad ks (Itt K a) ds where
  go := fun i F' Ad' M' H' hi l p m k => by
    obtain ⟨vs, h1, h2⟩ := h F' Ad' M' H' l p m k
    obtain ⟨v, d, e1, e2, e3⟩ := h2.lt hi
    exact ⟨vs, v, h1, e1⟩
  stop := fun F' Ad' M' H' l p m k => by
    obtain ⟨vs, h1, h2⟩ := h F' Ad' M' H' l p m k
    exact ⟨vs, h1, by rw [h2.length]; exact Nat.le_refl _⟩
  yld := fun i F' Ad' M' H' x H'' hi l p m k ⟨e, q⟩ => by
    subst e
    obtain ⟨vs, h1, h2⟩ := h F' Ad' M' H'' l p m k
    obtain ⟨v, d, e1, e2, e3⟩ := h2.lt hi
    rw [q vs h1] at e1; cases e1
    exact ⟨d, F', e2, Gr.refl, m, e3⟩
def rngD (lo : Int) (n : Nat) : List D := (List.range n).map fun (k : Nat) => D.int (lo + (k : Nat))
theorem it_r {lo : Int} {n : Nat} : ItOk K F Ad [] (Itr lo n) (rngD lo n) where
  go := fun i F' Ad' M' H' hi l p m k => by show i < n; simpa [rngD] using hi
  stop := fun F' Ad' M' H' l p m k => by show n ≤ (rngD lo n).length; simp [rngD]
  yld := fun i F' Ad' M' H' x H'' hi l p m k ⟨e, q⟩ => by
    subst e; subst q
    have hi : i < n := by simpa [rngD] using hi
    exact ⟨.int (lo + (i : Nat)), F', by simp [rngD, hi], Gr.refl, m, .int⟩
end
def keyE : Key → D
  | .inl i => .int i
  | .inr s => .str s
def keyTE (ks : List Key) : D := .tup (ks.map keyE)
section
variable {K : PySem.W.Frag} {F H : Hp} {Ad : List Addr} {M : List D} {a : Addr}
theorem den_key : ∀ k : Key, Den K F Ad (kV k) (keyE k)
  | .inl _ => .int
  | .inr _ => .str
theorem denL_keys : ∀ ks : List Key, DenL K F Ad (ks.map kV) (ks.map keyE)
  | [] => .nil
  | k :: ks => .cons (den_key k) (denL_keys ks)
theorem absorb {q : Addr} {vs : List V} (m : MemOk K F Ad M H) (h : H q = some (.tup vs)) : ∃ F', Gr F Ad H F' Ad H ∧ MemOk K F' Ad M H ∧ F' q = some (.tup vs) := by
  cases e : F q with
  | some u =>
    have z := m.sub q u e
    rw [h] at z
    cases z
    exact ⟨F, Gr.refl, m, e⟩
  | none =>
    refine ⟨upd F q (.tup vs), ⟨fle_new e, fun b o hb ro n _ => ?_, ⟨[], by simp, by simp⟩, fun b o hb _ _ _ => hb, fun b hb => hb⟩, ⟨fun b u hb => ?_, m.len, m.nd, fun n b d h1 h2 => ?_, m.tab⟩, upd_same⟩
    · rw [upd_ne (fun z => by subst z; rw [h] at hb; cases hb; exact ro)]; exact n
    · by_cases z : b = q
      · subst z; rw [upd_same] at hb; cases hb; exact h
      · rw [upd_ne z] at hb; exact m.sub b u hb
    · obtain ⟨f, r⟩ := m.cel n b d h1 h2
      obtain ⟨o, ho, ro⟩ := r.obj
      have ne : b ≠ q := fun z => by subst z; rw [h] at ho; cases ho; exact ro
      exact ⟨by rw [upd_ne ne]; exact f, r.mono (fle_new e) (fun _ _ h => h) rfl⟩
def isDict : HO → Bool
  | .dK _ => true
  | .dT _ => true
  | _ => false
theorem lock_den {u : HO} (hu : isDict u = true) (m : MemOk K F Ad M H) (h : F a = some u) (od : Obj) : Gr F Ad H (upd F a (.frz od u)) Ad (upd H a (.frz od u)) ∧ MemOk K (upd F a (.frz od u)) Ad M (upd H a (.frz od u)) := by
  have hn : nrm (some (HO.frz od u)) = some u ∧ ∀ o' u', u ≠ .frz o' u' := by
    cases u <;> first | exact ⟨rfl, fun _ _ z => nomatch z⟩ | cases hu
  have fl : FLe F (upd F a (.frz od u)) := ⟨fun b v hb => by
    by_cases z : b = a
    · subst z
      rw [h] at hb
      rw [upd_same, hn.1, ← hb]
      cases u <;> first | rfl | cases hu
    · rw [upd_ne z]; exact hb, fun b o v hb => by
    by_cases z : b = a
    · subst z; rw [h] at hb; exact absurd (Option.some.inj hb) (hn.2 o v)
    · rw [upd_ne z]; exact hb⟩
  have nf : ∀ {b}, F b = none → b ≠ a := fun n z => by rw [z, h] at n; cases n
  refine ⟨⟨fl, fun b o hb ro n _ => by rw [upd_ne (nf n)]; exact n, ⟨[], by simp, by simp⟩, fun b o hb _ n _ => by rw [upd_ne (nf n)]; exact hb, fun b hb => ?_⟩, ⟨fun b v hb => ?_, m.len, m.nd, fun n b d h1 h2 => ?_, tabs_root m.tab (m.sub _ _ h) (by cases u <;> first | trivial | cases hu)⟩⟩
  · by_cases z : b = a
    · subst z; rw [upd_same]; simp
    · rw [upd_ne z]; exact hb
  · by_cases z : b = a
    · subst z; rw [upd_same] at hb ⊢; exact hb
    · rw [upd_ne z] at hb ⊢; exact m.sub b v hb
  · obtain ⟨f, r⟩ := m.cel n b d h1 h2
    exact ⟨by rw [upd_ne (nf f)]; exact f, r.mono fl (fun _ _ h => h) (by rw [upd_ne (nf f)])⟩
theorem DenK.get : ∀ {vs ds} {i : Nat} {k : Key} {v : V}, DenK K F Ad vs ds → vs[i]? = some (k, v) → ∃ d, ds[i]? = some (k, d) ∧ Den K F Ad v d
  | _, _, _, _, _, .nil, e => by simp at e
  | _, _, 0, k, v, .cons h _, e => by simp at e; obtain ⟨rfl, rfl⟩ := e; exact ⟨_, rfl, h⟩
  | _, _, i + 1, k, v, .cons _ r, e => by
    obtain ⟨d, h1, h2⟩ := DenK.get (i := i) r (by simpa using e)
    exact ⟨d, by simpa using h1, h2⟩
theorem DenT.get : ∀ {vs ds} {i : Nat} {k : List Key} {v : V}, DenT K F Ad vs ds → vs[i]? = some (k, v) → ∃ d, ds[i]? = some (k, d) ∧ Den K F Ad v d
  | _, _, _, _, _, .nil, e => by simp at e
  | _, _, 0, k, v, .cons h _, e => by simp at e; obtain ⟨rfl, rfl⟩ := e; exact ⟨_, rfl, h⟩
  | _, _, i + 1, k, v, .cons _ r, e => by
    obtain ⟨d, h1, h2⟩ := DenT.get (i := i) r (by simpa using e)
    exact ⟨d, by simpa using h1, h2⟩
def keysT (ds : List (List Key × D)) : List D := ds.map fun kv => keyTE kv.1
def keysK (ds : List (Key × D)) : List D := ds.map fun kv => keyE kv.1
def itemsT (ds : List (List Key × D)) : List D := ds.map fun kv => .tup [keyTE kv.1, kv.2]
def itemsK (ds : List (Key × D)) : List D := ds.map fun kv => .tup [keyE kv.1, kv.2]
theorem it_kT {o : Obj} {vs ds} (h : F a = some (.frz o (.dT vs))) (r : DenT K F Ad vs ds) : ItOk K F Ad [] (Itkt a o vs) (keysT ds) where
  go := fun i F' Ad' M' H' hi l p m _ => ⟨m.sub _ _ (l.fz _ _ _ h), by rw [r.length]; simpa [keysT] using hi⟩
  stop := fun F' Ad' M' H' l p m _ => ⟨m.sub _ _ (l.fz _ _ _ h), by rw [r.length]; simp [keysT]⟩
  yld := fun i F' Ad' M' H' x H'' hi l p m _ ⟨e1, k, v, q, e2, e3, e4⟩ => by
    subst e1; subst e3
    obtain ⟨d, h1, h2⟩ := r.get e2
    obtain ⟨F2, g2, m2, e5⟩ := absorb m e4
    exact ⟨_, F2, by rw [keysT, List.getElem?_map, h1]; rfl, g2, m2, .tup (.inl e5) (denL_keys k)⟩
theorem it_kK {o : Obj} {vs ds} (h : F a = some (.frz o (.dK vs))) (r : DenK K F Ad vs ds) : ItOk K F Ad [] (Itk a o vs) (keysK ds) where
  go := fun i F' Ad' M' H' hi l p m _ => ⟨m.sub _ _ (l.fz _ _ _ h), by rw [r.length]; simpa [keysK] using hi⟩
  stop := fun F' Ad' M' H' l p m _ => ⟨m.sub _ _ (l.fz _ _ _ h), by rw [r.length]; simp [keysK]⟩
  yld := fun i F' Ad' M' H' x H'' hi l p m _ ⟨e1, k, v, e2, e3⟩ => by
    subst e1; subst e3
    obtain ⟨d, h1, h2⟩ := r.get e2
    exact ⟨_, F', by rw [keysK, List.getElem?_map, h1]; rfl, Gr.refl, m, den_key k⟩
end
def tI (K : PySem.W.Frag) (W : WX) (st : Bool) (f : LF) : TI := fun σ H R => ∃ N0 F Ad M env, MemOk K F Ad M H ∧ EnvOk K N0 F Ad H σ env ∧ (match f env M with
  | .ok ds M1 => ∀ J ks F' Ad' H', Gr F Ad H F' Ad' H' → MemOk K F' Ad' M1 H' → ItOk K F' Ad' ks J ds → KsOk ks H' → (∀ k ∈ ks, F' k.1 = none ∧ k.1 ∉ Ad' ∧ RootO k.2) → (st = true → ks = []) → R J H'
  | .exc x M1 => ∀ cls dx F' Ad' H', Gr F Ad H F' Ad' H' → MemOk K F' Ad' M1 H' → XOk K F' Ad' H' x cls dx → W cls dx σ H'
  | .stuck => False)
abbrev SI (X : Cx) (W : WX) (st : Bool) (tg iter : Expr) (f : LF) : Prop := PI X tg iter (tI X.K W st f)
section
variable {X : Cx} {W : WX} {K : PySem.W.Frag} {N0 : Ent} {F H : Hp} {Ad : List Addr} {M : List D} {env : EnvM} {σ : St} {tg e e' : Expr} {f f' : EF} {l : LF} {pos p : Pos}
theorem PI.imp {t u : TI} (h : PI X tg e t) (i : ∀ σ H R, u σ H R → t σ H R) : PI X tg e u := ⟨fun pins s σ H R I q => h.run pins s σ H R I (i σ H R q)⟩
theorem PI.or {t u : TI} (h : PI X tg e t) (h' : PI X tg e u) : PI X tg e (fun σ H R => t σ H R ∨ u σ H R) := ⟨fun pins s σ H R I q => by
  rcases q with q | q
  · exact h.run pins s σ H R I q
  · exact h'.run pins s σ H R I q⟩
theorem SI.any (h : SI X W true tg e l) : SI X W false tg e l := PI.imp h fun σ H R ⟨N0, F, Ad, M, env, m, en, r⟩ => ⟨N0, F, Ad, M, env, m, en, by
  cases q : l env M with
  | ok ds M1 => rw [q] at r; exact fun J ks F' Ad' H' g m' it k k2 z => r J ks F' Ad' H' g m' it k k2 (fun h => nomatch h)
  | exc x M1 => rw [q] at r; exact r
  | stuck => rw [q] at r; exact r⟩
theorem pre_refl : Pre Ad Ad := fun _ _ h => h
def iSeq (f : EF) : LF := fun env M => (f env M).bindL fun d M1 => match d with
  | .lst xs => .ok xs M1
  | .tup xs => .ok xs M1
  | .ktp xs => .ok xs M1
  | .scr ns => .ok (ns.map .int) M1
  | .dT kvs => .ok (keysT kvs) M1
  | .dK kvs => .ok (keysK kvs) M1
  | _ => .stuck
theorem nrm_frz {o : Option HO} {u : HO} (hu : isDict u = true) (h : nrm o = some u) : o = some u ∨ ∃ b, o = some (.frz b u) := by
  cases u with
  | dK k => exact nrm_dK h
  | dT k => exact nrm_dT h
  | _ => cases hu
theorem mut_dict {u : HO} (hu : isDict u = true) : Mut (some u) := by cases u <;> first | exact trivial | cases hu
theorem lk_den {u : HO} {Q : VK} (hu : isDict u = true) (m : MemOk K F Ad M H) {a : Addr} (h : nrm (F a) = some u) (q : ∀ od F' H', Gr F Ad H F' Ad H' → MemOk K F' Ad M H' → F' a = some (.frz od u) → Q (.ref a) H') :
    ∃ d u, V.ref a = .ref d ∧ ((∃ od, H d = some (.frz od u) ∧ Q (.ref a) H) ∨ (H d = some u ∧ Mut (some u) ∧ ∀ od, Q (.ref a) (upd H d (.frz od u)))) := by
  rcases nrm_frz hu h with e | ⟨b, e⟩
  · refine ⟨a, u, rfl, .inr ⟨m.sub _ _ e, mut_dict hu, fun od => ?_⟩⟩
    obtain ⟨g2, m2⟩ := lock_den hu m e od
    exact q od _ _ g2 m2 upd_same
  · exact ⟨a, u, rfl, .inl ⟨b, m.sub _ _ e, q b F H Gr.refl m e⟩⟩
theorem si_seq (h : SE X W e f) : SI X W true tg e (iSeq f) := PI.imp (PI.or (PI.or (pi_list h) (pi_tup h)) (pi_keys (pe_lk h))) fun σ H R ⟨N0, F, Ad, M, env, m, en, r⟩ => by
  unfold iSeq at r
  cases q : f env M with
  | ok d M1 =>
    rw [q, MP.R.bindL_ok] at r
    have lift : ∀ P : V → Hp → Prop, (∀ v F1 Ad1 H1, Gr F Ad H F1 Ad1 H1 → MemOk X.K F1 Ad1 M1 H1 → Den X.K F1 Ad1 v d → P v H1) → tG X.K W (DE X.K) f σ H P := fun P hP =>
      ⟨N0, F, Ad, M, env, m, en, by rw [q]; exact hP⟩
    cases d with
    | lst xs =>
      refine .inl (.inl (lift _ fun v F1 Ad1 H1 g1 m1 x1 => ?_))
      cases x1 with
      | lst h r1 => exact ⟨_, rfl, ⟨_, SqL.of (m1.sub _ _ h)⟩, r _ [] F1 Ad1 H1 g1 m1 (it_l (atL_lst h r1)) (fun _ z => nomatch z) (fun _ z => nomatch z) fun _ => rfl⟩
    | scr ns =>
      refine .inl (.inl (lift _ fun v F1 Ad1 H1 g1 m1 x1 => ?_))
      cases x1 with
      | scr h => exact ⟨_, rfl, ⟨_, sqL_sub m1 h⟩, r _ [] F1 Ad1 H1 g1 m1 (it_l (atL_scr h)) (fun _ z => nomatch z) (fun _ z => nomatch z) fun _ => rfl⟩
    | tup xs =>
      refine .inl (.inr (lift _ fun v F1 Ad1 H1 g1 m1 x1 => ?_))
      cases x1 with
      | tup h r1 => exact ⟨_, rfl, ⟨_, sqT_sub m1 h.sq⟩, r _ [] F1 Ad1 H1 g1 m1 (it_t (atT_tup h r1)) (fun _ z => nomatch z) (fun _ z => nomatch z) fun _ => rfl⟩
    | ktp xs =>
      refine .inl (.inr (lift _ fun v F1 Ad1 H1 g1 m1 x1 => ?_))
      cases x1 with
      | ktp h r1 => exact ⟨_, rfl, ⟨_, sqT_sub m1 h⟩, r _ [] F1 Ad1 H1 g1 m1 (it_t (atT_ktp h r1)) (fun _ z => nomatch z) (fun _ z => nomatch z) fun _ => rfl⟩
    | dT xs =>
      refine .inr (lift _ fun v F1 Ad1 H1 g1 m1 x1 => ?_)
      cases x1 with
      | dT h r1 => exact lk_den (Q := fun x H1 => ∃ d o, x = V.ref d ∧ ((∃ kvs, H1 d = some (.frz o (.dK kvs)) ∧ R (Itk d o kvs) H1) ∨ ∃ kvs, H1 d = some (.frz o (.dT kvs)) ∧ R (Itkt d o kvs) H1)) rfl m1 h fun od F2 H2 g2 m2 h2 => ⟨_, _, rfl, .inr ⟨_, m2.sub _ _ h2, r _ [] F2 Ad1 H2 (g1.trans g2) m2 (it_kT h2 (r1.mono g2.fle fun _ _ h => h)) (fun _ z => nomatch z) (fun _ z => nomatch z) fun _ => rfl⟩⟩
    | dK xs =>
      refine .inr (lift _ fun v F1 Ad1 H1 g1 m1 x1 => ?_)
      cases x1 with
      | dK h r1 => exact lk_den (Q := fun x H1 => ∃ d o, x = V.ref d ∧ ((∃ kvs, H1 d = some (.frz o (.dK kvs)) ∧ R (Itk d o kvs) H1) ∨ ∃ kvs, H1 d = some (.frz o (.dT kvs)) ∧ R (Itkt d o kvs) H1)) rfl m1 h fun od F2 H2 g2 m2 h2 => ⟨_, _, rfl, .inl ⟨_, m2.sub _ _ h2, r _ [] F2 Ad1 H2 (g1.trans g2) m2 (it_kK h2 (r1.mono g2.fle fun _ _ h => h)) (fun _ z => nomatch z) (fun _ z => nomatch z) fun _ => rfl⟩⟩
    | _ => exact r.elim
  | exc x M1 => rw [q] at r; exact .inl (.inl ⟨N0, F, Ad, M, env, m, en, by rw [q]; exact r⟩)
  | stuck => rw [q] at r; exact r.elim
def iSeqB (f : EF) : LF := fun env M => (f env M).bindL fun d M1 => match d with
  | .lst xs => .ok xs M1
  | .tup xs => .ok xs M1
  | .ktp xs => .ok xs M1
  | .scr ns => .ok (ns.map .int) M1
  | _ => .stuck
def iItm (f : EF) : LF := fun env M => (f env M).bindL fun d M1 => match d with
  | .dT kvs => .ok (itemsT kvs) M1
  | .dK kvs => .ok (itemsK kvs) M1
  | _ => .stuck
def iEnu (f : EF) : LF := fun env M => (f env M).bindL fun d M1 => match d with
  | .lst xs => .ok (enumD xs) M1
  | .tup xs => .ok (enumD xs) M1
  | .ktp xs => .ok (enumD xs) M1
  | _ => .stuck
theorem sl_one {DR : DRel} {g : EF} (h : PE X e (tG X.K W DR g)) (hs : starEach [e] X.env = [(false, eval e X.env)]) : PA X [e] (fun σ H Q => tG X.K W DR g σ H fun x H1 => Q [x] H1) := pa_cons h pa_nil hs
def inR (i : Int) : Prop := i.natAbs / 1152921504606846976 = 0
theorem inR.b {i : Int} (h : inR i) : -(2 ^ 62) ≤ i ∧ i < 2 ^ 62 := by
  have h1 : i.natAbs < 1152921504606846976 := (Nat.div_eq_zero_iff_lt (by decide)).mp h
  have e : (2 : Int) ^ 62 = 4611686018427387904 := by decide
  rw [e]; omega
instance {i : Int} : Decidable (inR i) := by unfold inR; exact inferInstance
def iRng1 (a : EF) : LF := fun env M => (a env M).bindL fun d M1 => match d with
  | .int j => if inR j then .ok (rngD 0 j.toNat) M1 else .stuck
  | _ => .stuck
def iRng2 (a b : EF) : LF := fun env M => (a env M).bindL fun d M1 => (b env M1).bindL fun d2 M2 => match d, d2 with
  | .int i, .int j => if inR i ∧ inR j then .ok (rngD i (j - i).toNat) M2 else .stuck
  | _, _ => .stuck
theorem si_rng1 {a : Expr} (h : SE X W a f) (hg : Gl X "range") (hm : X.mg "range" = none) (hs : starEach [a] X.env = [(false, eval a X.env)] := by rfl) : SI X W true tg (.Call (.Name "range" p) [a] [] pos) (iRng1 f) :=
  PI.imp (pi_range1 hg hm (sl_one h hs) hs) fun σ H Rr ⟨N0, F, Ad, M, env, m, en, r⟩ => by
    unfold iRng1 at r
    refine ⟨N0, F, Ad, M, env, m, en, ?_⟩
    cases q : f env M with
    | ok d M1 =>
      rw [q, MP.R.bindL_ok] at r
      intro v F1 Ad1 H1 g1 m1 x1
      cases d with
      | int j =>
        cases x1
        by_cases hj : inR j
        · dsimp only at r; rw [if_pos hj] at r
          exact ⟨j, rfl, hj.b.1, hj.b.2, r _ [] F1 Ad1 H1 g1 m1 it_r (fun _ z => nomatch z) (fun _ z => nomatch z) fun _ => rfl⟩
        · dsimp only at r; rw [if_neg hj] at r; exact r.elim
      | _ => exact r.elim
    | exc x M1 => rw [q] at r; exact r
    | stuck => rw [q] at r; exact r
def gN (j : Nat) (d : D) (env : EnvM) : Option EnvM := match env[j]? with
  | some (.slf _) => none
  | some _ => some (env.set j (.shr d))
  | none => none
def gAll : List Nat → List D → EnvM → Option EnvM
  | [], [], env => some env
  | j :: js, d :: ds, env => (gN j d env).bind (gAll js ds)
  | _, _, _ => none
def gT (js : List Nat) (d : D) (env : EnvM) : Option EnvM := match d with
  | .tup ds => gAll js ds env
  | _ => none
theorem EnvOk.set {j : Nat} {v : V} {d : D} {env' : EnvM} (en : EnvOk K N0 F Ad H σ env) (x : Den K F Ad v d) (h : gN j d env = some env') : EnvOk K N0 F Ad H (σ.set j (some v)) env' := by
  have hlt : j < env.length ∧ env' = env.set j (.shr d) ∧ ∀ e, env[j]? ≠ some (.slf e) := by
    unfold gN at h
    split at h
    · cases h
    · rename_i b hb hn
      cases h
      exact ⟨(List.getElem?_eq_some_iff.mp hn).1, rfl, fun e z => hb e (by rw [hn] at z; exact Option.some.inj z)⟩
    · cases h
  obtain ⟨hl, rfl, hns⟩ := hlt
  refine ⟨by simp [en.len], fun i d' hi => ?_, fun i d' hi => ?_, fun i k d1 d2 a h1 h2 h3 h4 => ?_, fun i d' hi => ?_, en.parM (FLe.refl _) (fun x d h1 h2 h3 h4 h5 => ⟨h1, h2, h4, fun z => h5 (z.set ⟨(by intro _ z; cases z), (by intro _ z; cases z)⟩)⟩) (par_set (by intro _ z; cases z)), fun i hi => ?_⟩
  · by_cases e : j = i
    · subst e
      rw [List.getElem?_set_self hl] at hi; cases hi
      exact ⟨v, by rw [List.getElem?_set_self (by rw [← en.len]; exact hl)], x⟩
    · rw [List.getElem?_set_ne e] at hi ⊢; exact en.shr i d' hi
  · by_cases e : j = i
    · subst e; rw [List.getElem?_set_self hl] at hi; cases hi
    · rw [List.getElem?_set_ne e] at hi ⊢; exact en.own i d' hi
  · have e1 : j ≠ i := fun e => by subst e; rw [List.getElem?_set_self hl] at h1; cases h1
    have e2 : j ≠ k := fun e => by subst e; rw [List.getElem?_set_self hl] at h2; cases h2
    rw [List.getElem?_set_ne e1] at h1 h3
    rw [List.getElem?_set_ne e2] at h2 h4
    exact en.dis i k d1 d2 a h1 h2 h3 h4
  · have e : j ≠ i := fun e => by subst e; rw [List.getElem?_set_self hl] at hi; cases hi
    rw [List.getElem?_set_ne e] at hi ⊢
    obtain ⟨h0, h1, h2, h3, h4, h5, h6⟩ := en.slf i d' hi
    refine ⟨h0, h1, h2, h3, h4, h5, fun k d2 hk => ?_⟩
    have e2 : j ≠ k := fun e => by subst e; rw [List.getElem?_set_self hl] at hk; cases hk
    rw [List.getElem?_set_ne e2] at hk ⊢
    exact h6 k d2 hk
  · have e : j ≠ i := fun e => by subst e; rw [List.getElem?_set_self hl] at hi; cases hi
    rw [List.getElem?_set_ne e] at hi ⊢
    exact en.raw i hi
theorem wipe_set {σ : St} {j : Nat} {v : Option V} : ∀ {vs : List Nat}, j ∈ vs → wipe (σ.set j v) vs = wipe σ vs
  | k :: vs, h => by
    unfold wipe
    by_cases e : j ∈ vs
    · rw [wipe_set e]
    · have ek : j = k := by simpa [e] using h
      subst ek
      have key : ∀ ws : List Nat, j ∉ ws → wipe (σ.set j v) ws = (wipe σ ws).set j v := by
        intro ws
        induction ws with
        | nil => intro _; rfl
        | cons w ws ih =>
          intro hn
          simp only [List.mem_cons, not_or] at hn
          unfold wipe
          rw [ih hn.2, List.set_comm _ _ hn.1]
      rw [key vs e, List.set_set]
structure TgOk (K : PySem.W.Frag) (js : List Nat) (gd : D → EnvM → Option EnvM) (g : TG) : Prop where
  ok : ∀ (N0 : Ent) (F : Hp) Ad M H σ env v d env' (Q : St → Hp → Prop), MemOk K F Ad M H → EnvOk K N0 F Ad H σ env → Den K F Ad v d → gd d env = some env' → (∀ σ', EnvOk K N0 F Ad H σ' env' → (∀ vs, (∀ j ∈ js, j ∈ vs) → wipe σ' vs = wipe σ vs) → Q σ' H) → g v σ H Q
theorem tg_n {j : Nat} : TgOk K [j] (gN j) (gName j) := ⟨fun N0 F Ad M H σ env v d env' Q m en x h q => q _ (en.set x h) fun vs hv => wipe_set (hv j (by simp))⟩
structure TgsOk (K : PySem.W.Frag) (js : List Nat) (g : TGs) : Prop where
  ok : ∀ (N0 : Ent) (F : Hp) Ad M H σ env vs ds env' (Q : St → Hp → Prop), MemOk K F Ad M H → EnvOk K N0 F Ad H σ env → DenL K F Ad vs ds → gAll js ds env = some env' → (∀ σ', EnvOk K N0 F Ad H σ' env' → (∀ us, (∀ j ∈ js, j ∈ us) → wipe σ' us = wipe σ us) → Q σ' H) → g vs σ H Q
end
end MP
set_option maxRecDepth 100000
set_option maxHeartbeats 1000000
namespace MP
open PySem PySem.Spec PyProof.Rows L2
variable [TabsP] [ThkP]
def wipeE (env : EnvM) : List Nat → EnvM
  | [] => env
  | v :: vs => (wipeE env vs).set v .no
def compL (gd : D → EnvM → Option EnvM) (ft fe : EF) (env0 : EnvM) : List D → List D → List D → R
  | [], acc, M => .ok (.lst acc) M
  | d :: ds, acc, M => match gd d env0 with
    | none => .stuck
    | some env1 => match ft env1 M with
      | .ok (.bl true) M1 => (match fe env1 M1 with
        | .ok y M2 => if acc.length < sizeLine then compL gd ft fe env0 ds (acc ++ [y]) M2 else .stuck
        | _ => .stuck)
      | .ok (.bl false) M1 => compL gd ft fe env0 ds acc M1
      | _ => .stuck
def eComp (l : LF) (gd : D → EnvM → Option EnvM) (ft fe : EF) (vs : List Nat) : EF := fun env M => (l env M).bind fun ds M1 => compL gd ft fe (wipeE env vs) ds [] M1
abbrev STs (X : Cx) (W : WX) (ifs : List Expr) (f : EF) : Prop := PTs X ifs (tT X.K W f)
section
variable {X : Cx} {W : WX} {K : PySem.W.Frag} {N0 : Ent} {F H : Hp} {Ad : List Addr} {M : List D} {env : EnvM} {σ : St} {e : Expr} {f : EF}
theorem PTs.imp {es : List Expr} {t u : TT} (h : PTs X es t) (i : ∀ σ H Q, u σ H Q → t σ H Q) : PTs X es u := ⟨fun pins s σ H Q I q => h.run pins s σ H Q I (i σ H Q q)⟩
theorem sts_nil : STs X W [] (eC (.bl true)) := PTs.imp pts_nil fun σ H Q ⟨N0, F, Ad, M, env, m, en, r⟩ => RPT.here (b := true) r m
theorem EnvOk.wipe1 {j : Nat} (en : EnvOk K N0 F Ad H σ env) : EnvOk K N0 F Ad H (σ.set j none) (env.set j .no) := by
  have hno : ∀ {i : Nat} {b : B}, (env.set j .no)[i]? = some b → b ≠ .no → j ≠ i ∧ env[i]? = some b := fun {i b} h hb => by
    by_cases e : j = i
    · subst e
      by_cases hl : j < env.length
      · rw [List.getElem?_set_self hl] at h; cases h; exact absurd rfl hb
      · rw [List.getElem?_eq_none (by simp; omega)] at h; cases h
    · rw [List.getElem?_set_ne e] at h; exact ⟨e, h⟩
  refine ⟨by simp [en.len], fun i d hi => ?_, fun i d hi => ?_, fun i k d1 d2 a h1 h2 h3 h4 => ?_, fun i d hi => ?_, en.parM (FLe.refl _) (fun x d h1 h2 h3 h4 h5 => ⟨h1, h2, h4, fun z => h5 (z.set ⟨(by intro _ z; cases z), (by intro _ z; cases z)⟩)⟩) (par_set (by intro _ z; cases z)), fun i hi => ?_⟩
  · obtain ⟨e, h⟩ := hno hi (fun z => nomatch z)
    rw [List.getElem?_set_ne e]; exact en.shr i d h
  · obtain ⟨e, h⟩ := hno hi (fun z => nomatch z)
    rw [List.getElem?_set_ne e]; exact en.own i d h
  · obtain ⟨e, h⟩ := hno h1 (fun z => nomatch z)
    obtain ⟨e', h'⟩ := hno h2 (fun z => nomatch z)
    rw [List.getElem?_set_ne e] at h3
    rw [List.getElem?_set_ne e'] at h4
    exact en.dis i k d1 d2 a h h' h3 h4
  · obtain ⟨e, h⟩ := hno hi (fun z => nomatch z)
    rw [List.getElem?_set_ne e]
    obtain ⟨h0, h1, h2, h3, h4, h5, h6⟩ := en.slf i d h
    refine ⟨h0, h1, h2, h3, h4, h5, fun k d2 hk => ?_⟩
    obtain ⟨e', h'⟩ := hno hk (fun z => nomatch z)
    rw [List.getElem?_set_ne e']
    exact h6 k d2 h'
  · obtain ⟨e, h⟩ := hno hi (fun z => nomatch z)
    rw [List.getElem?_set_ne e]
    exact en.raw i h
theorem EnvOk.wipe (en : EnvOk K N0 F Ad H σ env) : ∀ vs : List Nat, EnvOk K N0 F Ad H (L2.wipe σ vs) (wipeE env vs)
  | [] => en
  | v :: vs => (en.wipe vs).wipe1
theorem KsOk.gr {F' H' : Hp} {Ad' : List Addr} {ks : List (Addr × HO)} (g : Gr F Ad H F' Ad' H') (k : KsOk ks H) (n : ∀ k ∈ ks, F k.1 = none ∧ k.1 ∉ Ad ∧ RootO k.2) : KsOk ks H' := fun q hq => g.keep q.1 q.2 (k q hq) (n q hq).2.2 (n q hq).1 (n q hq).2.1
theorem lc_read {Wb : WX} {gd : D → EnvM → Option EnvM} {g : TG} {l : LF} {ft fe : EF} {js vs : List Nat} (tg : TgOk K js gd g) (hj : ∀ j ∈ js, j ∈ vs) {Q : VK} (h : tG K W (DO K) (eComp l gd ft fe vs) σ H Q) :
    tLc (tI K W false l) g (tT K WN ft) (tG K WN (DE K) fe) vs σ H Q := by
  obtain ⟨N0, F, Ad, M, env, m, en, r⟩ := h
  refine ⟨N0, F, Ad, M, env, m, en, ?_⟩
  unfold eComp at r
  cases ql : l env M with
  | exc x M1 => rw [ql] at r; exact r
  | stuck => rw [ql] at r; exact r
  | ok ds M1 =>
    rw [ql, RL.bind_ok] at r
    intro J ks F1 Ad1 H1 g1 m1 it k1 k2 _ D hD
    have en1 := en.gr g1
    let Inv' : Nat → Hp → Prop := fun i H2 => i ≤ ds.length ∧ ∃ F2 Ad2 M2 vacc acc, Gr F1 Ad1 H1 F2 Ad2 H2 ∧ MemOk K F2 Ad2 M2 H2 ∧ F2 D = none ∧ D ∉ Ad2 ∧ H2 D = some (.lst vacc) ∧ DenL K F2 Ad2 vacc acc ∧
      RP K (fun c d H => W c d σ H) (DO K) F Ad H Q (compL gd ft fe (wipeE env vs) (ds.drop i) acc M2)
    refine ⟨fun i mm H2 => mm = ds.length - i ∧ Inv' i H2, ⟨_, rfl, Nat.zero_le _, F1, Ad1, M1, [], [], gr_own hD, mem_own m1 hD, m1.none hD, m1.notin hD, upd_same, .nil, by simpa using r⟩, ?_⟩
    rintro i mm H2 ⟨rfl, hi, F2, Ad2, M2, vacc, acc, g2, m2, nF, nA, hH, da, r2⟩
    have kk := KsOk.gr g2 k1 k2
    by_cases hlt : i < ds.length
    · right
      refine ⟨it.go i F2 Ad2 M2 H2 hlt g2.fle g2.pre m2 kk, fun H' => Inv' (i + 1) H', fun H' h' => ⟨_, by omega, rfl, h'⟩, fun x H3 hy => ?_⟩
      obtain ⟨d, F3, hd, g3, m3, x3⟩ := it.yld i F2 Ad2 M2 H2 x H3 hlt g2.fle g2.pre m2 kk hy
      have hdrop : ds.drop i = d :: ds.drop (i + 1) := by
        rw [List.drop_eq_getElem_cons hlt]
        rw [List.getElem?_eq_getElem hlt] at hd
        cases hd; rfl
      rw [hdrop] at r2
      unfold compL at r2
      cases hg : gd d (wipeE env vs) with
      | none => rw [hg] at r2; exact r2.elim
      | some env1 =>
        rw [hg] at r2
        dsimp only at r2
        have g23 := g2.trans g3
        have enw : EnvOk K N0 F3 Ad2 H3 (L2.wipe σ vs) (wipeE env vs) := (en1.gr g23).wipe vs
        refine tg.ok N0 F3 Ad2 M2 H3 _ _ x d env1 _ m3 enw x3 hg fun σ' en' hw => ⟨?_, ?_⟩
        · have hwv := hw vs hj
          rw [hwv]
          have ww : ∀ ws : List Nat, (∀ w ∈ ws, w ∈ vs) → L2.wipe (L2.wipe σ vs) ws = L2.wipe σ vs := by
            intro ws
            induction ws with
            | nil => intro _; rfl
            | cons w ws ih =>
              intro hws
              show (L2.wipe (L2.wipe σ vs) ws).set w none = _
              rw [ih fun z hz => hws z (List.mem_cons_of_mem _ hz)]
              have hwm := hws w (by simp)
              have wn : ∀ us : List Nat, w ∈ us → (L2.wipe σ us).set w none = L2.wipe σ us := by
                intro us
                induction us with
                | nil => intro h; cases h
                | cons u us ih2 =>
                  intro h
                  show ((L2.wipe σ us).set u none).set w none = (L2.wipe σ us).set u none
                  by_cases e : w = u
                  · subst e; rw [List.set_set]
                  · rw [List.set_comm _ _ (fun z => e z.symm), ih2 (by simpa [e] using h)]
              exact wn vs hwm
          exact ww vs fun _ h => h
        · refine ⟨N0, F3, Ad2, M2, env1, m3, en', ?_⟩
          have hDH : ∀ {F4 Ad4 H4}, Gr F3 Ad2 H3 F4 Ad4 H4 → H4 D = some (.lst vacc) ∧ F4 D = none ∧ D ∉ Ad4 := fun {F4 Ad4 H4} g4 => by
            have e3 : H3 D = some (.lst vacc) := g3.keep D _ hH trivial nF nA
            have n3 : F3 D = none := g3.fnew D _ hH trivial nF nA
            exact ⟨g4.keep D _ e3 trivial n3 nA, g4.fnew D _ e3 trivial n3 nA, g4.notin (by rw [e3]; simp) nA⟩
          cases ht : ft env1 M2 with
          | exc x M3 => rw [ht] at r2; exact r2.elim
          | stuck => rw [ht] at r2; exact r2.elim
          | ok b M3 =>
            rw [ht] at r2
            cases b with
            | bl b =>
              intro F4 Ad4 H4 g4 m4
              have en4 := en'.gr g4
              cases b with
              | true =>
                dsimp only at r2
                rw [if_pos rfl]
                refine ⟨N0, F4, Ad4, M3, env1, m4, en4, ?_⟩
                cases he : fe env1 M3 with
                | exc x M5 => rw [he] at r2; exact r2.elim
                | stuck => rw [he] at r2; exact r2.elim
                | ok y M5 =>
                  rw [he] at r2
                  dsimp only at r2
                  intro v F5 Ad5 H5 g5 m5 x5
                  have g35 := g4.trans g5
                  obtain ⟨hD5, nF5, nA5⟩ := hDH g35
                  split at r2
                  · rename_i hsz
                    have g25 := g23.trans g35
                    have g_acc := g3.trans g35
                    have da5 := da.mono g_acc.fle g_acc.pre
                    have ap := da5.append (.cons x5 .nil)
                    refine ⟨vacc, hD5, by rw [da.length]; exact hsz, by omega, F5, Ad5, M5, _, acc ++ [y], ?_, ?_, nF5, nA5, upd_same, ap, r2⟩
                    · refine ⟨g25.fle, g25.fnew, g25.apre, fun a o ha ro hf hn => ?_, fun a ha => ?_⟩
                      · rw [upd_ne (fun e => by rw [e, hD] at ha; cases ha)]; exact g25.keep a o ha ro hf hn
                      · rw [upd_ne (fun e => ha (by rw [e]; exact hD))]; exact g25.alive a ha
                    · refine ⟨fun a u h => ?_, m5.len, m5.nd, fun n a d' h1 h2 => ?_, tabs_root m5.tab hD5 trivial⟩
                      · rw [upd_ne (fun e => by rw [e, nF5] at h; cases h)]; exact m5.sub a u h
                      · obtain ⟨z1, z2⟩ := m5.cel n a d' h1 h2
                        exact ⟨z1, z2.mono (FLe.refl _) (fun _ _ h => h) (by rw [upd_ne (fun e => nA5 (by rw [← e]; exact List.mem_of_getElem? h1))])⟩
                  · exact r2.elim
              | false =>
                dsimp only at r2
                rw [if_neg (by decide)]
                obtain ⟨hD4, nF4, nA4⟩ := hDH g4
                have g24 := g3.trans g4
                exact ⟨by omega, F4, Ad4, M3, vacc, acc, g2.trans g24, m4, nF4, nA4, hD4, da.mono g24.fle g24.pre, r2⟩
            | _ => exact r2.elim
    · left
      have hi2 : i = ds.length := by omega
      subst hi2
      refine ⟨it.stop F2 Ad2 M2 H2 g2.fle g2.pre m2 kk, ?_⟩
      rw [List.drop_length] at r2
      have hD0 : H D = none := by
        cases qq : H D with
        | none => rfl
        | some o => exact absurd hD (g1.alive D (by rw [qq]; simp))
      exact r2 (.ref D) F2 Ad2 H2 (g1.trans g2) m2 ⟨D, rfl, nF, nA, hD0, .lst hH da⟩
theorem so_lc {elt tg iter : Expr} {ifs : List Expr} {scope : Scope} {own : List (Str × Nat)} {pos : Pos} {gd : D → EnvM → Option EnvM} {g : TG} {l : LF} {ft fe : EF} {js : List Nat} (hc : X.calm = true) (hN : X.N.Nodup) (hi : SI X W false tg iter l) (ok : BlkOk X.N X.env.scope scope own)
    (tgo : TgOk X.K js gd g) (hj : ∀ j ∈ js, j ∈ own.map (·.2))
    (hg : ∀ (s : Shared) (H : Hp) (C : Addr) (cl : List (Str × Addr)) (fp : List Addr), PG (X.blk s H scope (compEnvC scope cl C X.env) fp) tg g) (ht : ∀ (s : Shared) (H : Hp) (C : Addr) (cl : List (Str × Addr)) (fp : List Addr), STs (X.blk s H scope (compEnvC scope cl C X.env) fp) WN ifs ft)
    (he : ∀ (s : Shared) (H : Hp) (C : Addr) (cl : List (Str × Addr)) (fp : List Addr), SE (X.blk s H scope (compEnvC scope cl C X.env) fp) WN elt fe) (hs : ∀ x, foldedSetIterable iter X.env x = pure x := by intro _; rfl) :
    SO X W (.ListComp elt [⟨tg, iter, ifs, 0⟩] scope pos) (eComp l gd ft fe (own.map (·.2))) :=
  PE.imp (pe_lc hc hN hi ok hg ht he hs) fun σ H Q h => lc_read (Wb := WN) tgo hj h
end
end MP
set_option maxRecDepth 100000
set_option maxHeartbeats 1000000
namespace MP
open PySem PySem.Spec PyProof.Rows L2
variable [TabsP] [ThkP]
section
variable {X : Cx} {kx vx tg iter : Expr} {ifs : List Expr} {scope : Scope} {own : List (Str × Nat)} {pos : Pos} {wi : TI} {g : TG} {tt : TT} {tk tv : TE}
end
def dcompT (gd : D → EnvM → Option EnvM) (ft fk fe : EF) (env0 : EnvM) : List D → List (List Key × D) → List D → R
  | [], acc, M => .ok (.dT acc) M
  | d :: ds, acc, M => match gd d env0 with
    | none => .stuck
    | some env1 => match ft env1 M with
      | .ok (.bl true) M1 => (match fk env1 M1 with
        | .ok (.tup kd) M2 => (match keysD kd with
          | some ks => (match fe env1 M2 with
            | .ok y M3 => if acc.length < sizeLine then dcompT gd ft fk fe env0 ds (insK acc ks y) M3 else .stuck
            | _ => .stuck)
          | none => .stuck)
        | _ => .stuck)
      | .ok (.bl false) M1 => dcompT gd ft fk fe env0 ds acc M1
      | _ => .stuck
def eDcT (l : LF) (gd : D → EnvM → Option EnvM) (ft fk fe : EF) (vs : List Nat) : EF := fun env M => (l env M).bind fun ds M1 => dcompT gd ft fk fe (wipeE env vs) ds [] M1
section
variable {X : Cx} {W : WX} {K : PySem.W.Frag} {N0 : Ent} {F F1 H H1 : Hp} {Ad Ad1 : List Addr} {M : List D} {env : EnvM} {σ : St} {e : Expr} {f : EF}
theorem wr_fresh {a : Addr} {o : HO} (g : Gr F Ad H F1 Ad1 H1) (m : MemOk K F1 Ad1 M H1) (h0 : H a = none) (nF : F1 a = none) (nA : a ∉ Ad1) {u0 : HO} (hu : H1 a = some u0) (ru : RootO u0) : Gr F Ad H F1 Ad1 (upd H1 a o) ∧ MemOk K F1 Ad1 M (upd H1 a o) := by
  refine ⟨⟨g.fle, g.fnew, g.apre, fun b u hb ro hf hn => ?_, fun b hb => ?_⟩, ⟨fun b u h => ?_, m.len, m.nd, fun n b d' h1 h2 => ?_, tabs_root m.tab hu ru⟩⟩
  · rw [upd_ne (fun e => by rw [e, h0] at hb; cases hb)]; exact g.keep b u hb ro hf hn
  · rw [upd_ne (fun e => hb (by rw [e]; exact h0))]; exact g.alive b hb
  · rw [upd_ne (fun e => by rw [e, nF] at h; cases h)]; exact m.sub b u h
  · obtain ⟨z1, z2⟩ := m.cel n b d' h1 h2
    exact ⟨z1, z2.mono (FLe.refl _) (fun _ _ h => h) (by rw [upd_ne (fun e => nA (by rw [← e]; exact List.mem_of_getElem? h1))])⟩
end
end MP
set_option maxRecDepth 100000
set_option maxHeartbeats 1000000
namespace MP
open PySem PySem.Spec PyProof.Rows L2
variable [TabsP] [ThkP]
abbrev GrE (N0 : Ent) (F : Hp) (Ad : List Addr) (H : Hp) : Prop := Gr N0.fz N0.ad N0.hp F Ad H
def RPS (K : PySem.W.Frag) (W : WX) (DR : DRel) (D : Ends) (N0 : Ent) (F : Hp) (Ad : List Addr) : RS → Prop
  | .next env M => ∀ σ F' Ad' H', GrE N0 F' Ad' H' → FLe F F' → Pre Ad Ad' → MemOk K F' Ad' M H' → EnvOk K N0 F' Ad' H' σ env → D.nx σ H'
  | .ret d M => ∀ v F' Ad' H', GrE N0 F' Ad' H' → MemOk K F' Ad' M H' → DR N0.hp F' Ad' H' v d → D.rt v H'
  | .brk env M => ∀ σ F' Ad' H', GrE N0 F' Ad' H' → FLe F F' → Pre Ad Ad' → MemOk K F' Ad' M H' → EnvOk K N0 F' Ad' H' σ env → D.bk σ H'
  | .cont env M => ∀ σ F' Ad' H', GrE N0 F' Ad' H' → FLe F F' → Pre Ad Ad' → MemOk K F' Ad' M H' → EnvOk K N0 F' Ad' H' σ env → D.ct σ H'
  | .exc x env M => ∀ cls dx σ F' Ad' H', GrE N0 F' Ad' H' → FLe F F' → Pre Ad Ad' → MemOk K F' Ad' M H' → EnvOk K N0 F' Ad' H' σ env → XOk K F' Ad' H' x cls dx → W cls dx σ H'
  | .stuck => False
def tS (K : PySem.W.Frag) (W : WX) (DR : DRel) (b : SF) : TS := fun D σ H => ∃ N0 F Ad M env, GrE N0 F Ad H ∧ MemOk K F Ad M H ∧ EnvOk K N0 F Ad H σ env ∧ RPS K W DR D N0 F Ad (b env M)
abbrev SS (X : Cx) (W : WX) (DR : DRel) (st : Stmt) (b : SF) : Prop := PS X st (tS X.K W DR b)
abbrev SSs (X : Cx) (W : WX) (DR : DRel) (st : List Stmt) (b : SF) : Prop := PSs X st (tS X.K W DR b)
def bSeq (a b : SF) : SF := fun env M => match a env M with
  | .next env M => b env M
  | r => r
def bNext : SF := fun env M => .next env M
section
variable {X : Cx} {W : WX} {K : PySem.W.Frag} {DR : DRel} {D : Ends} {N0 : Ent} {F F1 H H1 : Hp} {Ad Ad1 : List Addr} {M : List MP.D} {env : EnvM} {σ : St} {e tg iter : Expr} {f : EF} {st : Stmt} {rest p q : List Stmt} {b b' : SF} {pos : Pos} {l : LF}
theorem Pre.trans {A B C : List Addr} (h : Pre A B) (h' : Pre B C) : Pre A C := fun n a q => h' n a (h n a q)
theorem RPS.gr {r : RS} (h : RPS K W DR D N0 F Ad r) (l : FLe F F1) (p : Pre Ad Ad1) : RPS K W DR D N0 F1 Ad1 r := by
  cases r with
  | next env M => exact fun σ F' Ad' H' g l' p' => h σ F' Ad' H' g (l.trans l') (p.trans p')
  | ret d M => exact h
  | brk env M => exact fun σ F' Ad' H' g l' p' => h σ F' Ad' H' g (l.trans l') (p.trans p')
  | cont env M => exact fun σ F' Ad' H' g l' p' => h σ F' Ad' H' g (l.trans l') (p.trans p')
  | exc x env M => exact fun cls dx σ F' Ad' H' g l' p' => h cls dx σ F' Ad' H' g (l.trans l') (p.trans p')
  | stuck => exact h
theorem ss_nil : SSs X W DR [] bNext := PSs.imp pss_nil fun D σ H ⟨N0, F, Ad, M, env, g, m, en, r⟩ => r σ F Ad H g (FLe.refl F) pre_refl m en
theorem tS_seq {t : SF} (h : tS K W DR (bSeq b t) D σ H) : tS K W DR b { D with nx := tS K W DR t D } σ H := by
  obtain ⟨N0, F, Ad, M, env, g, m, en, r⟩ := h
  refine ⟨N0, F, Ad, M, env, g, m, en, ?_⟩
  unfold bSeq at r
  cases q : b env M with
  | next env1 M1 => rw [q] at r; exact fun σ' F' Ad' H' g' l' p' m' en' => ⟨N0, F', Ad', M1, env1, g', m', en', RPS.gr r l' p'⟩
  | ret d M1 => rw [q] at r; exact r
  | brk env1 M1 => rw [q] at r; exact r
  | cont env1 M1 => rw [q] at r; exact r
  | exc x env1 M1 => rw [q] at r; exact r
  | stuck => rw [q] at r; exact r
theorem ss_cons (h : SS X W DR st b) (h' : SSs X W DR rest b') : SSs X W DR (st :: rest) (bSeq b b') := PSs.imp (pss_cons h h') fun D σ H x => tS_seq x
theorem ss_one (h : SS X W DR st b) : SSs X W DR [st] b := pss_one h
theorem tE_of {DE' : DRel} {k : MP.D → List MP.D → RS} {Q : VK} (g : GrE N0 F Ad H) (m : MemOk K F Ad M H) (en : EnvOk K N0 F Ad H σ env)
    (r : RPS K W DR D N0 F Ad ((f env M).bindS env k)) (hq : ∀ d M1 v F1 Ad1 H1, Gr F Ad H F1 Ad1 H1 → GrE N0 F1 Ad1 H1 → MemOk K F1 Ad1 M1 H1 → EnvOk K N0 F1 Ad1 H1 σ env → DE' H F1 Ad1 H1 v d → RPS K W DR D N0 F1 Ad1 (k d M1) → Q v H1) : tG K W DE' f σ H Q := by
  refine ⟨N0, F, Ad, M, env, m, en, ?_⟩
  unfold MP.R.bindS at r
  cases q : f env M with
  | ok d M1 => rw [q] at r; exact fun v F' Ad' H' g' m' x => hq d M1 v F' Ad' H' g' (g.trans g') m' (en.gr g') x (RPS.gr r g'.fle g'.pre)
  | exc x M1 => rw [q] at r; exact fun cls dx F' Ad' H' g' m' z => r cls dx σ F' Ad' H' (g.trans g') g'.fle g'.pre m' (en.gr g') z
  | stuck => rw [q] at r; exact r
theorem tT_of {k : MP.D → List MP.D → RS} {Q : Bool → Hp → Prop} (g : GrE N0 F Ad H) (m : MemOk K F Ad M H) (en : EnvOk K N0 F Ad H σ env)
    (r : RPS K W DR D N0 F Ad ((f env M).bindS env k)) (hn : ∀ d M1, (∀ c, d ≠ .bl c) → k d M1 = .stuck) (hq : ∀ c M1 F1 Ad1 H1, GrE N0 F1 Ad1 H1 → MemOk K F1 Ad1 M1 H1 → EnvOk K N0 F1 Ad1 H1 σ env → RPS K W DR D N0 F1 Ad1 (k (.bl c) M1) → Q c H1) : tT K W f σ H Q := by
  refine ⟨N0, F, Ad, M, env, m, en, ?_⟩
  unfold MP.R.bindS at r
  cases q : f env M with
  | ok d M1 =>
    rw [q] at r
    cases d with
    | bl c => exact fun F' Ad' H' g' m' => hq c M1 F' Ad' H' (g.trans g') m' (en.gr g') (RPS.gr r g'.fle g'.pre)
    | _ => dsimp only at r; rw [hn _ M1] at r; exact r.elim; intro c z; cases z
  | exc x M1 => rw [q] at r; exact fun cls dx F' Ad' H' g' m' z => r cls dx σ F' Ad' H' (g.trans g') g'.fle g'.pre m' (en.gr g') z
  | stuck => rw [q] at r; exact r
def bPass : SF := fun env M => .next env M
def bBrk : SF := fun env M => .brk env M
def bCont : SF := fun env M => .cont env M
def bRet (f : EF) : SF := fun env M => (f env M).bindS env fun d M1 => .ret d M1
theorem ss_ret (dr : DRok DR) (h : PE X e (tG X.K W DR f)) : SS X W DR (.Return (some e) pos) (bRet f) := PS.imp (ps_ret h) fun D σ H ⟨N0, F, Ad, M, env, g, m, en, r⟩ =>
  tE_of g m en r fun d M1 v F1 Ad1 H1 g1 ge m1 en1 x1 r1 => r1 v F1 Ad1 H1 ge m1 (dr _ _ _ _ _ _ _ _ _ _ _ g x1)
def bRetN : SF := fun _ M => .ret .non M
def bExpr (f : EF) : SF := fun env M => (f env M).bindS env fun _ M1 => .next env M1
def bIf (f : EF) (a b : SF) : SF := fun env M => (f env M).bindS env fun d M1 => match d with
  | .bl true => a env M1
  | .bl false => b env M1
  | _ => .stuck
theorem ss_if {c : Expr} (hc : ST X W c f) (ha : SSs X W DR p b) (hb : SSs X W DR q b') : SS X W DR (.If c p q pos) (bIf f b b') := PS.imp (ps_if hc ha hb) fun D σ H ⟨N0, F, Ad, M, env, g, m, en, r⟩ =>
  tT_of g m en r (fun d M1 hd => by cases d <;> first | rfl | exact absurd rfl (hd _)) fun c M1 F1 Ad1 H1 ge m1 en1 r1 => by
    cases c with
    | true => exact ⟨N0, F1, Ad1, M1, env, ge, m1, en1, r1⟩
    | false => exact ⟨N0, F1, Ad1, M1, env, ge, m1, en1, r1⟩
def bSet (j : Nat) (f : EF) : SF := fun env M => (f env M).bindS env fun d M1 => match gN j d env with
  | some env1 => .next env1 M1
  | none => .stuck
theorem ss_asg {gd : MP.D → EnvM → Option EnvM} {g : TG} {js : List Nat} (tgo : TgOk X.K js gd g) {t : TS} (h : PS X st t) (ht : ∀ D σ H, tAsg (tG X.K W (DE X.K) f) g D σ H → t D σ H) : SS X W DR st (fun env M => (f env M).bindS env fun d M1 => match gd d env with
  | some env1 => .next env1 M1
  | none => .stuck) := PS.imp h fun D σ H ⟨N0, F, Ad, M, env, ge0, m, en, r⟩ => ht D σ H (tE_of ge0 m en r fun d M1 v F1 Ad1 H1 g1 ge m1 en1 x1 r1 => by
    cases hd : gd d env with
    | none => rw [hd] at r1; exact r1.elim
    | some env1 =>
      rw [hd] at r1
      exact tgo.ok N0 F1 Ad1 M1 H1 σ env v d env1 _ m1 en1 x1 hd fun σ' en' _ => r1 σ' F1 Ad1 H1 ge (FLe.refl _) pre_refl m1 en')
theorem ss_set {i : Nat} {x : Str} {pos' : Pos} (hN : X.N.Nodup) (hi : X.N[i]? = some x) (hx : Loc X.env.scope x) (he : SE X W e f) (hs : swapsWith e (some (.Name x pos')) pos.line X.env = pure false := by rfl) (hf : X.fn x = true ∨ X.env.scope.names.lookup x = some .local := by first | exact .inl rfl | exact .inr rfl | assumption) :
    SS X W DR (.Assign [.Name x pos'] e pos) (bSet i f) := ss_asg tg_n (ps_set hN hi hx he hs hf) fun D σ H h => h
def bSetT (js : List Nat) (f : EF) : SF := fun env M => (f env M).bindS env fun d M1 => match gT js d env with
  | some env1 => .next env1 M1
  | none => .stuck
def oN (j : Nat) (d : MP.D) (env : EnvM) : Option EnvM := match env[j]? with
  | some (.slf _) => none
  | some _ => some (env.set j (.own d))
  | none => none
def bOwn (j : Nat) (f : EF) : SF := fun env M => (f env M).bindS env fun d M1 => match oN j d env with
  | some env1 => .next env1 M1
  | none => .stuck
theorem wr_own {a : Addr} {o' : HO} {d d' : MP.D} {i : Nat} (g : GrE N0 F Ad H) (m : MemOk K F Ad M H) (en : EnvOk K N0 F Ad H σ env) (hi : env[i]? = some (.own d)) (ha : σ[i]? = some (some (.ref a))) (r : Root K F Ad (upd H a o') a d') :
    GrE N0 F Ad (upd H a o') ∧ MemOk K F Ad M (upd H a o') ∧ EnvOk K N0 F Ad (upd H a o') σ (env.set i (.own d')) := by
  obtain ⟨c, c1, c2, c3, c4, c5⟩ := en.own i d hi
  rw [ha] at c1
  cases c1
  have hl : i < env.length := (List.getElem?_eq_some_iff.mp hi).1
  refine ⟨⟨g.fle, g.fnew, g.apre, fun b o hb ro hf hn => ?_, fun b hb => ?_⟩, ⟨fun b u hb => ?_, m.len, m.nd, fun n b e h1 h2 => ?_, (let ⟨_, hu, ru⟩ := c5.obj; tabs_root m.tab hu ru)⟩, ⟨by simp [en.len], fun j e hj => ?_, fun j e hj => ?_, fun j k e1 e2 b h1 h2 h3 h4 => ?_, fun j e hj => ?_, en.parM (FLe.refl _) (fun x dd h1 h2 h3 h4 h5 => ⟨h1, h2, h4.mono (FLe.refl _) (fun _ _ h => h) (upd_ne fun z => h5 (z ▸ .inl ⟨i, d, hi, ha⟩)), fun z => h5 (z.setE ⟨.inr ⟨d, hi⟩, .inl (by intro _ z; cases z)⟩)⟩) (par_setE (by intro _ z; cases z)), fun j hj => ?_⟩⟩
  · rw [upd_ne (fun e => by rw [e, c4] at hb; cases hb)]; exact g.keep b o hb ro hf hn
  · by_cases e : b = a
    · subst e; rw [upd_same]; simp
    · rw [upd_ne e]; exact g.alive b hb
  · rw [upd_ne (fun e => by rw [e, c2] at hb; cases hb)]; exact m.sub b u hb
  · obtain ⟨z1, z2⟩ := m.cel n b e h1 h2
    exact ⟨z1, z2.mono (FLe.refl _) (fun _ _ h => h) (by rw [upd_ne (fun e => c3 (by rw [← e]; exact List.mem_of_getElem? h1))])⟩
  · have e1 : i ≠ j := fun e1 => by subst e1; rw [List.getElem?_set_self hl] at hj; cases hj
    rw [List.getElem?_set_ne e1] at hj; exact en.shr j e hj
  · by_cases e1 : i = j
    · subst e1
      rw [List.getElem?_set_self hl] at hj; cases hj
      exact ⟨a, ha, c2, c3, c4, r⟩
    · rw [List.getElem?_set_ne e1] at hj
      obtain ⟨b, b1, b2, b3, b4, b5⟩ := en.own j e hj
      have ne : b ≠ a := fun z => by subst z; exact e1 (en.dis i j d e b hi hj ha b1)
      exact ⟨b, b1, b2, b3, b4, b5.mono (FLe.refl _) (fun _ _ h => h) (by rw [upd_ne ne])⟩
  · have q1 : ∃ e1', env[j]? = some (.own e1') := by
      by_cases e : i = j
      · subst e; exact ⟨_, hi⟩
      · rw [List.getElem?_set_ne e] at h1; exact ⟨_, h1⟩
    have q2 : ∃ e2', env[k]? = some (.own e2') := by
      by_cases e : i = k
      · subst e; exact ⟨_, hi⟩
      · rw [List.getElem?_set_ne e] at h2; exact ⟨_, h2⟩
    obtain ⟨_, q1⟩ := q1
    obtain ⟨_, q2⟩ := q2
    exact en.dis j k _ _ b q1 q2 h3 h4
  · have e1 : i ≠ j := fun e1 => by subst e1; rw [List.getElem?_set_self hl] at hj; cases hj
    rw [List.getElem?_set_ne e1] at hj
    obtain ⟨z0, z1, z2, z3, z4, z5, z6⟩ := en.slf j e hj
    have ne : N0.me ≠ a := fun z => z6 i d hi (by rw [ha, z])
    refine ⟨z0, z1, z2, z3, z4, z5.mono (FLe.refl _) (fun _ _ h => h) (by rw [upd_ne ne]), fun k d2 hk => ?_⟩
    by_cases e2 : i = k
    · subst e2; exact z6 i d hi
    · rw [List.getElem?_set_ne e2] at hk; exact z6 k d2 hk
  · have e1 : i ≠ j := fun e1 => by subst e1; rw [List.getElem?_set_self hl] at hj; cases hj
    rw [List.getElem?_set_ne e1] at hj; exact ⟨(en.raw j hj).1, (en.raw j hj).2.1, ⟨g.fle, g.fnew, g.apre, fun b o hb ro hf hn => (by rw [upd_ne (fun e => by rw [e, c4] at hb; cases hb)]; exact g.keep b o hb ro hf hn), fun b hb => (by
      by_cases e : b = a
      · subst e; rw [upd_same]; simp
      · rw [upd_ne e]; exact g.alive b hb)⟩⟩
theorem wr_slf {o' : HO} {d d' : MP.D} {i : Nat} (g : GrE N0 F Ad H) (m : MemOk K F Ad M H) (en : EnvOk K N0 F Ad H σ env) (hi : env[i]? = some (.slf d)) (r : Root K F Ad (upd H N0.me o') N0.me d') :
    GrE N0 F Ad (upd H N0.me o') ∧ MemOk K F Ad M (upd H N0.me o') ∧ EnvOk K N0 F Ad (upd H N0.me o') σ (env.set i (.slf d')) := by
  obtain ⟨c0, c1, c2, c3, c4, c5, c6⟩ := en.slf i d hi
  have hl : i < env.length := (List.getElem?_eq_some_iff.mp hi).1
  refine ⟨⟨g.fle, g.fnew, g.apre, fun b o hb ro hf hn => ?_, fun b hb => ?_⟩, ⟨fun b u hb => ?_, m.len, m.nd, fun n b e h1 h2 => ?_, (let ⟨_, hu, ru⟩ := c5.obj; tabs_root m.tab hu ru)⟩, ⟨by simp [en.len], fun j e hj => ?_, fun j e hj => ?_, fun j k e1 e2 b h1 h2 h3 h4 => ?_, fun j e hj => ?_, en.parM (FLe.refl _) (fun x dd h1 h2 h3 h4 h5 => ⟨h1, h2, h4.mono (FLe.refl _) (fun _ _ h => h) (upd_ne fun z => h5 (z ▸ .inr ⟨i, d, hi, rfl⟩)), fun z => h5 (z.setE ⟨.inl (by intro _ z; cases z), .inr ⟨d, hi⟩⟩)⟩) (par_setE (by intro _ z; cases z)), fun j hj => ?_⟩⟩
  · rw [upd_ne (fun e => by rw [e, c4] at hb; cases hb)]; exact g.keep b o hb ro hf hn
  · by_cases e : b = N0.me
    · subst e; rw [upd_same]; simp
    · rw [upd_ne e]; exact g.alive b hb
  · rw [upd_ne (fun e => by rw [e, c2] at hb; cases hb)]; exact m.sub b u hb
  · obtain ⟨z1, z2⟩ := m.cel n b e h1 h2
    exact ⟨z1, z2.mono (FLe.refl _) (fun _ _ h => h) (by rw [upd_ne (fun e => c3 (by rw [← e]; exact List.mem_of_getElem? h1))])⟩
  · have e1 : i ≠ j := fun e1 => by subst e1; rw [List.getElem?_set_self hl] at hj; cases hj
    rw [List.getElem?_set_ne e1] at hj; exact en.shr j e hj
  · have e1 : i ≠ j := fun e1 => by subst e1; rw [List.getElem?_set_self hl] at hj; cases hj
    rw [List.getElem?_set_ne e1] at hj
    obtain ⟨b, b1, b2, b3, b4, b5⟩ := en.own j e hj
    have ne : b ≠ N0.me := fun z => c6 j e hj (by rw [b1, z])
    exact ⟨b, b1, b2, b3, b4, b5.mono (FLe.refl _) (fun _ _ h => h) (by rw [upd_ne ne])⟩
  · have e1' : i ≠ j := fun e1 => by subst e1; rw [List.getElem?_set_self hl] at h1; cases h1
    have e2' : i ≠ k := fun e1 => by subst e1; rw [List.getElem?_set_self hl] at h2; cases h2
    rw [List.getElem?_set_ne e1'] at h1
    rw [List.getElem?_set_ne e2'] at h2
    exact en.dis j k _ _ b h1 h2 h3 h4
  · by_cases e1 : i = j
    · subst e1
      rw [List.getElem?_set_self hl] at hj; cases hj
      refine ⟨c0, c1, c2, c3, c4, r, fun k d2 hk => ?_⟩
      by_cases e2 : i = k
      · subst e2; rw [List.getElem?_set_self hl] at hk; cases hk
      · rw [List.getElem?_set_ne e2] at hk; exact c6 k d2 hk
    · rw [List.getElem?_set_ne e1] at hj
      obtain ⟨z0, _⟩ := en.slf j e hj
      exact absurd (c0.trans z0.symm) e1
  · have e1 : i ≠ j := fun e1 => by subst e1; rw [List.getElem?_set_self hl] at hj; cases hj
    rw [List.getElem?_set_ne e1] at hj; exact ⟨(en.raw j hj).1, (en.raw j hj).2.1, ⟨g.fle, g.fnew, g.apre, fun b o hb ro hf hn => (by rw [upd_ne (fun e => by rw [e, c4] at hb; cases hb)]; exact g.keep b o hb ro hf hn), fun b hb => (by
      by_cases e : b = N0.me
      · subst e; rw [upd_same]; simp
      · rw [upd_ne e]; exact g.alive b hb)⟩⟩
theorem wr_cel {a : Addr} {n : Nat} {o' : HO} {d' : MP.D} (g : GrE N0 F Ad H) (m : MemOk K F Ad M H) (en : EnvOk K N0 F Ad H σ env) (hn : Ad[n]? = some a) (r : Root K F Ad (upd H a o') a d') (hg : ∀ b o, N0.hp b = some o → b ∉ N0.ad → b ≠ a) :
    GrE N0 F Ad (upd H a o') ∧ MemOk K F Ad (M.set n d') (upd H a o') ∧ EnvOk K N0 F Ad (upd H a o') σ env := by
  have hF : F a = none := by
    have hlt : n < M.length := by rw [← m.len]; exact (List.getElem?_eq_some_iff.mp hn).1
    exact (m.cel n a _ hn (List.getElem?_eq_getElem hlt)).1
  refine ⟨⟨g.fle, g.fnew, g.apre, fun b o hb ro hf hna => ?_, fun b hb => ?_⟩, ⟨fun b u hb => ?_, by rw [m.len]; simp, m.nd, fun k b e h1 h2 => ?_, (let ⟨_, hu, ru⟩ := (m.cel n a _ hn (List.getElem?_eq_getElem (by rw [← m.len]; exact (List.getElem?_eq_some_iff.mp hn).1))).2.obj; tabs_root m.tab hu ru)⟩, ⟨en.len, fun j e hj => en.shr j e hj, fun j e hj => ?_, en.dis, fun j e hj => ?_, en.parM (FLe.refl _) (fun x dd h1 h2 h3 h4 h5 => ⟨h1, h2, h4.mono (FLe.refl _) (fun _ _ h => h) (upd_ne fun z => h2 (z ▸ List.mem_of_getElem? hn)), h5⟩) (fun _ _ h => ⟨h, rfl⟩), fun j hj => ⟨(en.raw j hj).1, (en.raw j hj).2.1, ⟨g.fle, g.fnew, g.apre, fun b o hb ro hf hna => (by rw [upd_ne (hg b o hb hna)]; exact g.keep b o hb ro hf hna), fun b hb => (by
      by_cases e : b = a
      · subst e; rw [upd_same]; simp
      · rw [upd_ne e]; exact g.alive b hb)⟩⟩⟩⟩
  · rw [upd_ne (hg b o hb hna)]; exact g.keep b o hb ro hf hna
  · by_cases e : b = a
    · subst e; rw [upd_same]; simp
    · rw [upd_ne e]; exact g.alive b hb
  · rw [upd_ne (fun e => by rw [e, hF] at hb; cases hb)]; exact m.sub b u hb
  · by_cases e1 : n = k
    · subst e1
      rw [hn] at h1; cases h1
      rw [List.getElem?_set_self (by rw [← m.len]; exact (List.getElem?_eq_some_iff.mp hn).1)] at h2
      cases h2
      exact ⟨hF, r⟩
    · rw [List.getElem?_set_ne e1] at h2
      obtain ⟨z1, z2⟩ := m.cel k b e h1 h2
      have ne : b ≠ a := fun z => by
        subst z
        exact e1 ((List.getElem?_inj (List.getElem?_eq_some_iff.mp hn).1 m.nd).mp (hn.trans h1.symm))
      exact ⟨z1, z2.mono (FLe.refl _) (fun _ _ h => h) (by rw [upd_ne ne])⟩
  · obtain ⟨b, b1, b2, b3, b4, b5⟩ := en.own j e hj
    have ne : b ≠ a := fun z => b3 (by rw [z]; exact List.mem_of_getElem? hn)
    exact ⟨b, b1, b2, b3, b4, b5.mono (FLe.refl _) (fun _ _ h => h) (by rw [upd_ne ne])⟩
  · obtain ⟨z0, z1, z2, z3, z4, z5, z6⟩ := en.slf j e hj
    have ne : N0.me ≠ a := fun z => z3 (by rw [z]; exact List.mem_of_getElem? hn)
    exact ⟨z0, z1, z2, z3, z4, z5.mono (FLe.refl _) (fun _ _ h => h) (by rw [upd_ne ne]), z6⟩
theorem cel_off {a : Addr} (g : GrE N0 F Ad H) (hn : a ∈ Ad) : ∀ b o, N0.hp b = some o → b ∉ N0.ad → b ≠ a := fun b o hb hna e => by
  subst e
  obtain ⟨more, e1, e2⟩ := g.apre
  rw [e1] at hn
  rcases List.mem_append.mp hn with z | z
  · exact hna z
  · rw [e2 b z] at hb; cases hb
end
end MP
set_option maxRecDepth 100000
set_option maxHeartbeats 1000000
namespace MP
open PySem PySem.Spec PyProof.Rows L2
variable [TabsP] [ThkP]
def cont (i : Nat) (env : EnvM) (M : List D) : Option D := match env[i]? with
  | some (.own d) => some d
  | some (.slf d) => some d
  | some (.shr (.cel n)) => M[n]?
  | _ => none
def store (i : Nat) (u : D → Option D) : SF := fun env M => match env[i]? with
  | some (.own d) => (match u d with | some d' => .next (env.set i (.own d')) M | none => .stuck)
  | some (.slf d) => (match u d with | some d' => .next (env.set i (.slf d')) M | none => .stuck)
  | some (.shr (.cel n)) => (match M[n]? with
    | some d => (match u d with | some d' => .next env (M.set n d') | none => .stuck)
    | none => .stuck)
  | _ => .stuck
def putFD (f : Str) (v : D) : List (Str × D) → List (Str × D)
  | [] => [(f, v)]
  | (g, x) :: r => if g = f then (g, v) :: r else (g, x) :: putFD f v r
def stSub (k v d : D) : Option D := match d with
  | .lst xs => (match k with
    | .int i => (match ixN xs.length i with | some j => some (.lst (xs.set j v)) | none => none)
    | _ => none)
  | .dK kvs => (match keyD k with
    | some q => if kvs.length < sizeLine then some (.dK (insK kvs q v)) else none
    | none => none)
  | .dT kvs => (match k with
    | .tup ks => (match keysD ks with
      | some q => if kvs.length < sizeLine then some (.dT (insK kvs q v)) else none
      | none => none)
    | _ => none)
  | _ => none
def stApp (v d : D) : Option D := match d with
  | .lst xs => if xs.length < sizeLine then some (.lst (xs ++ [v])) else none
  | _ => none
def stFld (c f : Str) (v d : D) : Option D := match d with
  | .ins c' fs => if c' = c ∧ fs.length < 1000 then some (.ins c (putFD f v fs)) else none
  | _ => none
section
variable {X : Cx} {W : WX} {K : PySem.W.Frag} {DR : DRel} {E : Ends} {N0 : Ent} {F F1 H H1 : Hp} {Ad Ad1 : List Addr} {M : List D} {env : EnvM} {σ : St} {e tg iter : Expr} {f fk fv : EF} {st : Stmt} {rest p q body : List Stmt} {b b' : SF} {pos : Pos} {l : LF} {i : Nat} {u : D → Option D}
theorem DenF.put {g : Str} {v d} : ∀ {vs ds}, DenF K F Ad vs ds → Den K F Ad v d → DenF K F Ad (putF g v vs) (putFD g d ds)
  | _, _, .nil, h => .cons h .nil
  | _, _, .cons (k := k) q r, h => by
    unfold putF putFD
    by_cases e : k = g
    · rw [if_pos e, if_pos e]; exact .cons h r
    · rw [if_neg e, if_neg e]; exact .cons q (r.put h)
theorem store_ok (g : GrE N0 F Ad H) (m : MemOk K F Ad M H) (en : EnvOk K N0 F Ad H σ env) (r : RPS K W DR E N0 F Ad (store i u env M)) :
    ∃ a d d', σ[i]? = some (some (.ref a)) ∧ cont i env M = some d ∧ u d = some d' ∧ Root K F Ad H a d ∧ ∀ o', Root K F Ad (upd H a o') a d' → E.nx σ (upd H a o') := by
  unfold store at r
  split at r
  · rename_i d hd
    split at r
    · rename_i d' hu
      obtain ⟨a, c1, c2, c3, c4, c5⟩ := en.own i d hd
      refine ⟨a, d, d', c1, by unfold cont; rw [hd], hu, c5, fun o' ro => ?_⟩
      obtain ⟨g', m', en'⟩ := wr_own g m en hd c1 ro
      exact r σ F Ad _ g' (FLe.refl _) pre_refl m' en'
    · exact r.elim
  · rename_i d hd
    split at r
    · rename_i d' hu
      obtain ⟨c0, c1, c2, c3, c4, c5, c6⟩ := en.slf i d hd
      refine ⟨_, d, d', c1, by unfold cont; rw [hd], hu, c5, fun o' ro => ?_⟩
      obtain ⟨g', m', en'⟩ := wr_slf g m en hd ro
      exact r σ F Ad _ g' (FLe.refl _) pre_refl m' en'
    · exact r.elim
  · rename_i n hn
    split at r
    · rename_i d hd
      split at r
      · rename_i d' hu
        obtain ⟨v, c1, c2⟩ := en.shr i _ hn
        cases c2 with
        | @cel a _ ha =>
          refine ⟨a, d, d', c1, by unfold cont; rw [hn]; exact hd, hu, (m.cel n a d ha hd).2, fun o' ro => ?_⟩
          obtain ⟨g', m', en'⟩ := wr_cel g m en ha ro (cel_off g (List.mem_of_getElem? ha))
          exact r σ F Ad _ g' (FLe.refl _) pre_refl m' en'
      · exact r.elim
    · exact r.elim
  · exact r.elim
def rSetAll : TSet := fun o i v H Q => rSetL o i v H Q ∨ ∃ a H4, o = .ref a ∧ DPut H a i v H4 ∧ Q H4
theorem set_all (hu : X.A.units + 1 < cLine) : PSet X rSetAll := by
  intro pins s σ H o i v ov iv u Q I ro ri rv h
  rcases h with h | ⟨a, H4, rfl, hp, hq⟩
  · exact set_list pins s σ H o i v ov iv u Q I ro ri rv h
  · obtain rfl : ov = Value.ref a := ro
    exact d_setItem hu I hp ri rv fun s' I' => ⟨H4, I', hq⟩
theorem set_of {v k : V} {dv dk d d' : D} {a : Addr} {Q : Hp → Prop} (m : MemOk K F Ad M H) (xv : Den K F Ad v dv) (xk : Den K F Ad k dk) (r : Root K F Ad H a d) (hu : stSub dk dv d = some d') (hq : ∀ o', Root K F Ad (upd H a o') a d' → Q (upd H a o')) : rSetAll (.ref a) k v H Q := by
  unfold stSub at hu
  cases r with
  | lst h r =>
    dsimp only at hu
    split at hu
    · rename_i i
      split at hu
      · rename_i oo j hj
        cases hu
        cases xk
        exact .inl ⟨a, _, i, j, rfl, rfl, h, by rw [r.length]; exact hj, hq _ (.lst upd_same (r.set j xv))⟩
      · cases hu
    · cases hu
  | dK h r =>
    dsimp only at hu
    split at hu
    · rename_i oo kk hk
      split at hu
      · rename_i hl
        cases hu
        exact .inr ⟨a, _, rfl, .inl ⟨_, kk, h, keyD_v xk hk, by rw [r.length]; exact hl, rfl⟩, hq _ (.dK upd_same (r.put xv))⟩
      · cases hu
    · cases hu
  | dT h r =>
    dsimp only at hu
    split at hu
    · rename_i ks
      split at hu
      · rename_i oo kk hk
        split at hu
        · rename_i hl
          cases hu
          cases xk with
          | tup h2 r2 =>
            have h2 := h2.key r2 hk
            rw [keysD_v r2 hk] at h2
            exact .inr ⟨a, _, rfl, .inr ⟨_, kk, _, h, rfl, m.sub _ _ h2, by rw [r.length]; exact hl, rfl⟩, hq _ (.dT upd_same (r.put xv))⟩
        · cases hu
      · cases hu
    · cases hu
  | ins h r => exact nomatch hu
def has (i : Nat) (env : EnvM) : Bool := match env[i]? with
  | some (.shr _) => true
  | some (.own _) => true
  | some (.slf _) => true
  | _ => false
theorem EnvOk.has (en : EnvOk K N0 F Ad H σ env) (h : has i env = true) : ∃ v, σ[i]? = some (some v) := by
  unfold MP.has at h
  split at h
  · rename_i d hd; obtain ⟨v, h1, _⟩ := en.shr i d hd; exact ⟨v, h1⟩
  · rename_i d hd; obtain ⟨v, h1, _⟩ := en.own i d hd; exact ⟨_, h1⟩
  · rename_i d hd; obtain ⟨_, h1, _⟩ := en.slf i d hd; exact ⟨_, h1⟩
  · cases h
def bSub (i : Nat) (fk fv : EF) : SF := fun env M => (fv env M).bindS env fun dv M1 => if has i env = true then (fk env M1).bindS env fun dk M2 => store i (stSub dk dv) env M2 else .stuck
theorem ss_sub {x : Str} {k value : Expr} {pos' pos2 : Pos} (hu : X.A.units + 1 < cLine) (hN : X.N[i]? = some x) (hv : Vis X.env.scope x) (hk : SE X W k fk) (he : SE X W value fv)
    (ha : ∀ v, assign (.Subscript (.Name x pos2) k pos') X.env v = (do
      let ov ← holding [v] (eval (.Name x pos2) X.env)
      let iv ← holding [v, ov] (eval k X.env)
      standAt pos'
      holding [v, ov, iv] (setItem ov iv v)
      release [v, ov, iv] []) := by intro _; rfl)
    (hs : swapsWithSole [.Subscript (.Name x pos2) k pos'] value pos.line X.env = pure false := by rfl) (hw : swappedStores [.Subscript (.Name x pos2) k pos'] value X.env = pure none := by rfl)
    (h1 : (assignEach [.Subscript (.Name x pos2) k pos'] X.env).map (·.2) = [assign (.Subscript (.Name x pos2) k pos') X.env] := by rfl)
    (hd : (x == ("__debug__" : Str)) = false := by decide) (hcd : (x == ("__classdict__" : Str)) = false := by decide) :
    SS X W DR (.Assign [.Subscript (.Name x pos2) k pos'] value pos) (bSub i fk fv) :=
  PS.imp (ps_asg he (pg_sub (pe_var hN hv hd hcd) hk (set_all hu) ha) hs hw h1) fun D σ H ⟨N0, F, Ad, M, env, ge0, m, en, r⟩ =>
    tE_of ge0 m en r fun dv M1 v F1 Ad1 H1 g1 ge m1 en1 x1 r1 => by
      split at r1
      · rename_i hh
        obtain ⟨v0, hv0⟩ := en1.has hh
        refine ⟨v0, hv0, tE_of ge m1 en1 r1 fun dk M2 vk F2 Ad2 H2 g2 ge2 m2 en2 x2 r2 => ?_⟩
        obtain ⟨a, d, d', c1, c2, c3, c4, c5⟩ := store_ok ge2 m2 en2 r2
        rw [hv0] at c1; cases c1
        exact set_of m2 (x1.mono g2.fle g2.pre) x2 c4 c3 c5
      · exact r1.elim
def isLst : Option D → Bool
  | some (.lst _) => true
  | _ => false
def bApp (i : Nat) (fv : EF) : SF := fun env M => if isLst (cont i env M) = true then (fv env M).bindS env fun dv M1 => store i (stApp dv) env M1 else .stuck
def bFld (i : Nat) (c f : Str) (fv : EF) : SF := fun env M => (fv env M).bindS env fun dv M1 => store i (stFld c f dv) env M1
def forL (gd : D → EnvM → Option EnvM) (b : SF) : List D → SF
  | [], env, M => .next env M
  | d :: ds, env, M => match gd d env with
    | none => .stuck
    | some env1 => match b env1 M with
      | .next env2 M2 => forL gd b ds env2 M2
      | .cont env2 M2 => forL gd b ds env2 M2
      | .brk env2 M2 => .next env2 M2
      | r => r
def bFor (l : LF) (gd : D → EnvM → Option EnvM) (b : SF) : SF := fun env M => match l env M with
  | .ok ds M1 => forL gd b ds env M1
  | .exc x M1 => .exc x env M1
  | .stuck => .stuck
theorem ss_for {gd : D → EnvM → Option EnvM} {g : TG} {js : List Nat} (hp : PassesOwn (model X.prog X.w) X.A X.env X.xe) (hc : X.calm = true) (hi : SI X W true tg iter l) (tgo : TgOk X.K js gd g) (hg : PG X tg g) (hb : SSs X W DR body b) (hs : ∀ x, foldedSetIterable iter X.env x = pure x := by intro _; rfl) :
    SS X W DR (.For tg iter body [] pos) (bFor l gd b) := PS.imp (ps_for hp hc hi hg hb hs) fun E σ H ⟨N0, F, Ad, M, env, ge0, m, en, r⟩ => by
  refine ⟨N0, F, Ad, M, env, m, en, ?_⟩
  unfold bFor at r
  cases ql : l env M with
  | exc x M1 => rw [ql] at r; exact fun cls dx F' Ad' H' g' m' z => r cls dx σ F' Ad' H' (ge0.trans g') g'.fle g'.pre m' (en.gr g') z
  | stuck => rw [ql] at r; exact r
  | ok ds M1 =>
    rw [ql] at r
    intro J ks F1 Ad1 H1 g1 m1 it k1 k2 kz
    have kz := kz rfl
    subst kz
    refine ⟨fun i mm σ2 H2 => mm = ds.length - i ∧ i ≤ ds.length ∧ ∃ F2 Ad2 M2 env2, GrE N0 F2 Ad2 H2 ∧ FLe F1 F2 ∧ Pre Ad1 Ad2 ∧ MemOk X.K F2 Ad2 M2 H2 ∧ EnvOk X.K N0 F2 Ad2 H2 σ2 env2 ∧ RPS X.K W DR E N0 F2 Ad2 (forL gd b (ds.drop i) env2 M2),
      ⟨_, rfl, Nat.zero_le _, F1, Ad1, M1, env, ge0.trans g1, FLe.refl _, pre_refl, m1, en.gr g1, by simpa using RPS.gr r g1.fle g1.pre⟩, ?_⟩
    rintro i mm σ2 H2 ⟨rfl, hi, F2, Ad2, M2, env2, ge2, l2, p2, m2, en2, r2⟩
    by_cases hlt : i < ds.length
    · right
      refine ⟨it.go i F2 Ad2 M2 H2 hlt l2 p2 m2 (fun _ z => nomatch z), fun σ' H' => i + 1 ≤ ds.length ∧ ∃ F3 Ad3 M3 env3, GrE N0 F3 Ad3 H' ∧ FLe F1 F3 ∧ Pre Ad1 Ad3 ∧ MemOk X.K F3 Ad3 M3 H' ∧ EnvOk X.K N0 F3 Ad3 H' σ' env3 ∧ RPS X.K W DR E N0 F3 Ad3 (forL gd b (ds.drop (i + 1)) env3 M3),
        fun σ' H' ⟨h1, h2⟩ => ⟨ds.length - (i + 1), by omega, rfl, h1, h2⟩, fun x H3 hy => ?_⟩
      obtain ⟨d, F3, hd, g3, m3, x3⟩ := it.yld i F2 Ad2 M2 H2 x H3 hlt l2 p2 m2 (fun _ z => nomatch z) hy
      have hdrop : ds.drop i = d :: ds.drop (i + 1) := by
        rw [List.drop_eq_getElem_cons hlt]
        rw [List.getElem?_eq_getElem hlt] at hd
        cases hd; rfl
      rw [hdrop] at r2
      unfold forL at r2
      cases hgd : gd d env2 with
      | none => rw [hgd] at r2; exact r2.elim
      | some env3 =>
        rw [hgd] at r2
        dsimp only at r2
        refine tgo.ok N0 F3 Ad2 M2 H3 σ2 env2 x d env3 _ m3 (en2.gr g3) x3 hgd fun σ' en' _ => ?_
        refine ⟨N0, F3, Ad2, M2, env3, ge2.trans g3, m3, en', ?_⟩
        have r3 := RPS.gr r2 g3.fle (pre_refl (Ad := Ad2))
        have stp : ∀ env4 M4, RPS X.K W DR E N0 F3 Ad2 (forL gd b (ds.drop (i + 1)) env4 M4) → ∀ σ F' Ad' H', GrE N0 F' Ad' H' → FLe F3 F' → Pre Ad2 Ad' → MemOk X.K F' Ad' M4 H' → EnvOk X.K N0 F' Ad' H' σ env4 →
            (i + 1 ≤ ds.length ∧ ∃ F3 Ad3 M3 env3, GrE N0 F3 Ad3 H' ∧ FLe F1 F3 ∧ Pre Ad1 Ad3 ∧ MemOk X.K F3 Ad3 M3 H' ∧ EnvOk X.K N0 F3 Ad3 H' σ env3 ∧ RPS X.K W DR E N0 F3 Ad3 (forL gd b (ds.drop (i + 1)) env3 M3)) :=
          fun env4 M4 r4 σ F' Ad' H' g' l' p' m' en' => ⟨hlt, F', Ad', M4, env4, g', (l2.trans g3.fle).trans l', p2.trans p', m', en', RPS.gr r4 l' p'⟩
        cases hb : b env3 M2 with
        | next env4 M4 => rw [hb] at r3; exact stp env4 M4 r3
        | cont env4 M4 => rw [hb] at r3; exact stp env4 M4 r3
        | brk env4 M4 => rw [hb] at r3; exact r3
        | ret d M4 => rw [hb] at r3; exact r3
        | exc z env4 M4 => rw [hb] at r3; exact r3
        | stuck => rw [hb] at r3; exact r3
    · left
      have hi2 : i = ds.length := by omega
      subst hi2
      refine ⟨it.stop F2 Ad2 M2 H2 l2 p2 m2 (fun _ z => nomatch z), ?_⟩
      rw [List.drop_length] at r2
      exact r2 σ2 F2 Ad2 H2 ge2 (FLe.refl _) pre_refl m2 en2
end
end MP
set_option maxRecDepth 100000
set_option maxHeartbeats 1000000
namespace MP
open PySem PySem.Spec PyProof.Rows L2
variable [TabsP] [ThkP]
def D.tyN : D → Option String
  | .non => some "NoneType"
  | .bl _ => some "bool"
  | .int _ => some "int"
  | .str _ => some "str"
  | .tup _ => some "tuple"
  | .ktp _ => some "tuple"
  | .lst _ => some "list"
  | .scr _ => some "list"
  | .dK _ => some "dict"
  | .dT _ => some "dict"
  | _ => none
def tyNs : List String := ["NoneType", "bool", "int", "str", "tuple", "list", "dict"]
section
variable {X : Cx} {W : WX} {K : PySem.W.Frag} {E : XK} {DR : DRel} {N0 : Ent} {F H : Hp} {Ad : List Addr} {M : List D} {env : EnvM} {σ : St} {Q : VK} {x : V} {e c : Expr} {f : EF} {pos p pc : Pos}
theorem sqT_ty {a : Addr} {xs : List V} (h : SqT K H a xs) : TyX K H (.ref a) (.type "tuple") := by
  rcases h with (h | ⟨o, h⟩) | ⟨o, its, n, hk, hc, _⟩
  · exact .base (.tup h)
  · exact .fTuple h
  · exact .kTuple hk hc
theorem sqL_ty {a : Addr} {xs : List V} (h : SqL K H a xs) : TyX K H (.ref a) (.type "list") := by
  rcases h with (h | ⟨o, h⟩) | ⟨o, its, n, hk, hc, _⟩
  · exact .base (.lst h)
  · exact .base (.frz h)
  · exact .kList hk hc
theorem DV.ty (m : MemOk K F Ad M H) {d : D} {n : String} (h : DV K F Ad H x d) (e : d.tyN = some n) (hd : ∀ k, d ≠ .dT k) : TyX K H x (.type n) := by
  cases d with
  | non => cases e; rw [h.non]; exact .base .non
  | bl b => cases e; rw [h.bl]; exact .base (.bl _)
  | int b => cases e; rw [h.int]; exact .base (.int _)
  | str b => cases e; rw [h.str]; exact .base (.str _)
  | tup b => cases e; obtain ⟨a, vs, rfl, h1, _⟩ := h.tup m; exact sqT_ty h1
  | ktp b => cases e; obtain ⟨a, vs, rfl, h1, _⟩ := h.ktp m; exact sqT_ty h1
  | lst b => cases e; obtain ⟨a, vs, rfl, h1, _⟩ := h.lst m; exact .base (.lst h1)
  | scr b => cases e; obtain ⟨a, rfl, h1⟩ := h.scr m; exact sqL_ty h1
  | dK b =>
    cases e
    obtain ⟨a, vs, rfl, h1, _⟩ := h.dK m
    rcases h1 with h1 | ⟨o, h1⟩
    · exact .base (.dK h1)
    · exact .fDict h1
  | dT b => exact absurd rfl (hd b)
  | ins c fs => cases e
  | cel n => cases e
  | cls n => cases e
  | xo c fs => cases e
structure ClsT (K : PySem.W.Frag) (c : Str) : Prop where
  cl : Cls K (He.ga K c)
  ha : PySem.W.findIn K (.ref (He.ga K c)) "__class__" = some (some (.builtin "object.__class__"))
  hn : PySem.W.specialIn K (.builtin "object.__class__") "__get__" = some (some (.builtin "getset_descriptor.__get__"))
  htk : PySem.W.takesIn K (.builtin "object.__class__") = some true
  hm : PySem.W.mroIn K (He.ga K c) (.type "object") = some true
def oIsi (k : D → Option Bool) (d : D) (M : List D) : R := match k (view M d) with
  | some b => .ok (.bl b) M
  | none => .stuck
theorem pe_tyN {n : String} {y : Str} (hg : Gl X y) (hm : X.mg y = none) (hv : bootBuiltins y = some (.type n)) (hn : y ≠ "__name__" := by decide) (hd : (y == ("__debug__" : Str)) = false := by decide) : PE X (.Name y pos) (fun _ H Q => Q (.ty n) H) :=
  pe_bltn (v := .ty n) hg hm hv (show RelV (.ty n) (.type n) from rfl) hn hd
end
def env0 (n : Nat) (ds : List D) : EnvM := ds.map B.shr ++ List.replicate (n - ds.length) B.no
def endE (r : RS) : R := match r with
  | .ret d M => .ok d M
  | .next _ M => .ok .non M
  | .exc x _ M => .exc x M
  | _ => .stuck
section
variable {P : Program} {w : World} {K : PySem.W.Frag} {mg : Str → Option Value} {base : Heap} {x qual : Str} {params : Arguments} {body : List Stmt} {scope : Scope} {dvs : List V} {kws : List (Str × V)} {f : Addr} {fd : FuncData} {N ps : List Str} {k : Nat} {F H : Hp} {Ad : List Addr} {M : List D}
abbrev wxE (E : XK) : WX := fun c d _ H => E c d H
theorem env0_ok {vs : List V} {ds : List D} (x : DenL K F Ad vs ds) (me : Addr) : EnvOk K ⟨H, F, Ad, me⟩ F Ad H (L2.start N vs) (env0 N.length ds) := by
  have hl := x.length
  have hs : ∀ {i : Nat} {b : B}, (env0 N.length ds)[i]? = some b → b ≠ .no → ∃ d, ds[i]? = some d ∧ b = .shr d := fun {i b} h hb => by
    unfold env0 at h
    by_cases hi : i < ds.length
    · rw [List.getElem?_append_left (by simpa using hi), List.getElem?_map, List.getElem?_eq_getElem hi] at h
      exact ⟨_, List.getElem?_eq_getElem hi, by simpa using h.symm⟩
    · rw [List.getElem?_append_right (by simpa using hi), List.getElem?_replicate] at h
      split at h
      · cases h; exact absurd rfl hb
      · cases h
  refine ⟨by unfold env0 L2.start; simp [hl], fun i d h => ?_, fun i d h => ?_, fun i j d e a h _ _ _ => ?_, fun i d h => ?_, fun i d h => ?_, fun i h => ?_⟩
  · obtain ⟨d', h1, h2⟩ := hs h (fun z => nomatch z)
    cases h2
    obtain ⟨v, h3, h4⟩ := x.get h1
    refine ⟨v, ?_, h4⟩
    unfold L2.start
    rw [List.getElem?_append_left (by simpa using (List.getElem?_eq_some_iff.mp h3).1), List.getElem?_map, h3]; rfl
  · obtain ⟨d', h1, h2⟩ := hs h (fun z => nomatch z); cases h2
  · obtain ⟨d', h1, h2⟩ := hs h (fun z => nomatch z); cases h2
  · obtain ⟨d', h1, h2⟩ := hs h (fun z => nomatch z); cases h2
  · obtain ⟨d', h1, h2⟩ := hs h (fun z => nomatch z); cases h2
  · obtain ⟨d', h1, h2⟩ := hs h (fun z => nomatch z); cases h2
theorem fnok_of {DR : DRel} {fin : RS → R} {n : Nat} {b : SF} (Fd : FunD K x qual params body scope dvs kws f fd) (S : FnScope N ps scope) (hn : ps.length = n)
    (hfin : ∀ (E : XK) (Q : VK) (F H : Hp) (Ad : List Addr) (r : RS), RP K E DR F Ad H Q (fin r) → RPS K (wxE E) DR { nx := fun _ H' => Q .non H', rt := Q } ⟨H, F, Ad, 0⟩ F Ad r)
    (hbody : ∀ (cdv : Value) (A : Around) (outer : List Env) (s : Shared) (H : Hp) (E : XK), Room k (A.deeper (envOfC qual scope s.heap.objs.size f cdv)) → SSs (cxOf (L2.CX P w) P w K mg base N qual scope f cdv A outer s H E) (wxE E) DR body b) :
    FnOk P w K mg base (L2.CX P w) (k + 1) f fd ps (spD K DR n (fun ds M => fin (b (env0 N.length ds) M))) := by
  refine MP.fn_of Fd S (fun vs H Q E h => h.1.trans hn.symm) fun cdv A outer s H vs Q E hr hsp => ⟨_, hbody cdv A outer s H E hr, ?_⟩
  obtain ⟨_, F, Ad, M, ds, m, dx, r⟩ := hsp
  exact ⟨⟨H, F, Ad, 0⟩, F, Ad, M, _, Gr.refl, m, env0_ok dx 0, hfin E Q F H Ad _ r⟩
theorem fnk_of {DR : DRel} {fin : RS → R} {n : Nat} {dd : List D} {us : List Value} {b : SF} (Fd : FunD K x qual params body scope dvs kws f fd) (S : FnScope N ps scope) (hn : ps.length = n) (hb : Binds K fd ps us) (hv : Vals dvs us) (hdd : ∀ F Ad, DenL K F Ad dvs dd)
    (hfin : ∀ (E : XK) (Q : VK) (F H : Hp) (Ad : List Addr) (r : RS), RP K E DR F Ad H Q (fin r) → RPS K (wxE E) DR { nx := fun _ H' => Q .non H', rt := Q } ⟨H, F, Ad, 0⟩ F Ad r)
    (hbody : ∀ (cdv : Value) (A : Around) (outer : List Env) (s : Shared) (H : Hp) (E : XK), Room k (A.deeper (envOfC qual scope s.heap.objs.size f cdv)) → SSs (cxOf (L2.CX P w) P w K mg base N qual scope f cdv A outer s H E) (wxE E) DR body b) :
    FnK P w K mg base DR (k + 1) n f dd (fun ds M => fin (b (env0 N.length ds) M)) := ⟨fd, ps, dvs, us, fnok_of Fd S hn hfin hbody, hb, hv, hdd, Fd.kp⟩
theorem finE (E : XK) (Q : VK) (F H : Hp) (Ad : List Addr) (r : RS) (h : RP K E (DE K) F Ad H Q (endE r)) : RPS K (wxE E) (DE K) { nx := fun _ H' => Q .non H', rt := Q } ⟨H, F, Ad, 0⟩ F Ad r := by
  cases r with
  | next env M => exact fun σ F' Ad' H' g l p m en => h .non F' Ad' H' g m .non
  | ret d M => exact fun v F' Ad' H' g m x => h v F' Ad' H' g m x
  | brk env M => exact h.elim
  | cont env M => exact h.elim
  | exc x env M => exact fun cls dx σ F' Ad' H' g l p m en z => h cls dx F' Ad' H' g m z
  | stuck => exact h
end
end MP
set_option maxRecDepth 100000
set_option maxHeartbeats 1000000
namespace MP
open PySem PySem.Spec PyProof.Rows L2
variable [TabsP] [ThkP]
structure XcC (K : PySem.W.Frag) (C fI : Addr) (f : Str) : Prop where
  over : ∃ (B newId initId : String) (bmB : List Value), ExcBaseFacts B newId initId bmB ∧ StoreFacts B bmB "object.__setattr__" "object" ∧ PySem.W.excInitIn K C bmB newId = true ∧ PySem.W.excOver K C bmB = true
  tk : PySem.W.takerIn K C f = some none
  hd : PySem.W.hasDictIn K C = true
  sa : PySem.W.findIn K (.ref C) "__setattr__" = some (some (.builtin "object.__setattr__"))
  iC : PySem.W.findIn K (.ref C) "__init__" = some (some (.ref fI))
  tI : PySem.W.typeIn K (.ref fI) = some (.type "function")
  kC : PySem.W.keepIn K (.ref C) = true
  exC : PySem.W.subIn K (.ref C) (.type "BaseException") = some true
  tyC : PySem.W.typeIn K (.ref C) = some (.type "type")
  xf : XfC K C
  no : PySem.W.findIn K (.ref C) f = some none
def exTail (n : String) : List Value := [.type n, .type "Exception", .type "BaseException", .type "object"]
def isSN {α : Type} : Option (Option α) → Bool
  | some none => true
  | _ => false
theorem isSN_ok {α : Type} {o : Option (Option α)} (h : isSN o = true) : o = some none := by
  unfold isSN at h
  split at h
  · rfl
  · cases h
def isTyp (n : String) : Option Value → Bool
  | some (.type m) => decide (m = n)
  | _ => false
theorem isTyp_ok {n : String} {o : Option Value} (h : isTyp n o = true) : o = some (.type n) := by
  unfold isTyp at h
  split at h
  · rw [of_decide_eq_true h]
  · cases h
def isAdr (a : Addr) : Option (Option Value) → Bool
  | some (some (.ref b)) => decide (b = a)
  | _ => false
theorem isAdr_ok {a : Addr} {o : Option (Option Value)} (h : isAdr a o = true) : o = some (some (.ref a)) := by
  unfold isAdr at h
  split at h
  · rw [of_decide_eq_true h]
  · cases h
def xcB (K : PySem.W.Frag) (C fI : Addr) (f : Str) : Bool :=
  ((PySem.W.excInitIn K C (exTail "ValueError") "ValueError.__new__" && PySem.W.excOver K C (exTail "ValueError")) || ((PySem.W.excInitIn K C (exTail "LookupError") "LookupError.__new__" && PySem.W.excOver K C (exTail "LookupError")) || (PySem.W.excInitIn K C (exTail "ArithmeticError") "ArithmeticError.__new__" && PySem.W.excOver K C (exTail "ArithmeticError")))) &&
  (isSN (PySem.W.takerIn K C f) && (PySem.W.hasDictIn K C && (He.eqO (PySem.W.findIn K (.ref C) "__setattr__") (some (some (.builtin "object.__setattr__"))) && (isAdr fI (PySem.W.findIn K (.ref C) "__init__") && (isTyp "function" (PySem.W.typeIn K (.ref fI)) &&
  (PySem.W.keepIn K (.ref C) && (decide (PySem.W.subIn K (.ref C) (.type "BaseException") = some true) && (isTyp "type" (PySem.W.typeIn K (.ref C)) && (xfB K C && isSN (PySem.W.findIn K (.ref C) f))))))))))
theorem xcB_ok {K : PySem.W.Frag} {C fI : Addr} {f : Str} (h : xcB K C fI f = true) : XcC K C fI f := by
  unfold xcB at h
  simp only [Bool.and_eq_true, Bool.or_eq_true, decide_eq_true_eq] at h
  obtain ⟨h0, h1, h2, h3, h4, h5, h6, h7, h8, h9, h10⟩ := h
  refine ⟨?_, isSN_ok h1, h2, He.eqO_ok h3, isAdr_ok h4, isTyp_ok h5, h6, h7, isTyp_ok h8, xfB_ok h9, isSN_ok h10⟩
  rcases h0 with ⟨a, b⟩ | ⟨a, b⟩ | ⟨a, b⟩
  · exact ⟨_, _, _, _, PySem.F.excBase_ValueError, PySem.F.store_ValueError, a, b⟩
  · exact ⟨_, _, _, _, PySem.F.excBase_LookupError, PySem.F.store_LookupError, a, b⟩
  · exact ⟨_, _, _, _, PySem.F.excBase_ArithmeticError, PySem.F.store_ArithmeticError, a, b⟩
def xnCB (K : PySem.W.Frag) (C : Addr) : Bool :=
  (PySem.W.excIn K C (exTail "ValueError") "ValueError.__new__" || (PySem.W.excIn K C (exTail "LookupError") "LookupError.__new__" || PySem.W.excIn K C (exTail "ArithmeticError") "ArithmeticError.__new__")) &&
  (PySem.W.keepIn K (.ref C) && (decide (PySem.W.subIn K (.ref C) (.type "BaseException") = some true) && isTyp "type" (PySem.W.typeIn K (.ref C))))
def codeOf (K : PySem.W.Frag) (f : Addr) : Addr := match K.lookup f with
  | some ⟨_, _, .func fd, _⟩ => (match fd.code with | .ref c => c | _ => 0)
  | _ => 0
def tblOf (K : PySem.W.Frag) (c : Addr) : Addr := match K.lookup c with
  | some ⟨_, _, .fields vs, _⟩ => (match (vs[11]? : Option Value) with | some (Value.ref P) => P | _ => 0)
  | _ => 0
def codeB (K : PySem.W.Frag) (f : Addr) : Bool := match K.lookup f with
  | some ⟨_, _, .func fd, _⟩ => (match fd.code with
    | .ref c => (match K.lookup c with
      | some ⟨.type t, _, .fields vs, _⟩ => decide (t = "code") && (match (vs[11]? : Option Value), vs.getD 18 .none, vs.getD 7 .none, vs.getD 9 .none, vs.getD 10 .none with
        | some (Value.ref P), Value.str _ _, Value.int _ _, Value.bool _, Value.int _ _ => decide (c ≠ P) && (K.lookup P).isNone
        | _, _, _, _, _ => false)
      | _ => false)
    | _ => false)
  | _ => false
def codes (K : PySem.W.Frag) (fs : List Str) : List (Addr × Addr) := fs.map fun x => (codeOf K (He.ga K x), tblOf K (codeOf K (He.ga K x)))
end MP
set_option maxRecDepth 100000
set_option maxHeartbeats 1000000
namespace MP
open PySem PySem.Spec PyProof.Rows L2
variable [TabsP] [ThkP]
def prA (K : PySem.W.Frag) (C f : Str) : Addr := match PySem.W.recIn K (He.ma K (He.ga K C) f) "property" with
  | some (.ref g :: _) => g
  | _ => 0
def cmA (K : PySem.W.Frag) (C f : Str) : Addr := match PySem.W.recIn K (He.ma K (He.ga K C) f) "classmethod" with
  | some (.ref g :: _) => g
  | _ => 0
inductive Loc3 where
  | g (x : Str) | m (C f : Str) | p (C f : Str) | c (C f : Str)
def Loc3.at_ (K : PySem.W.Frag) : Loc3 → Addr
  | .g x => He.ga K x
  | .m C f => He.ma K (He.ga K C) f
  | .p C f => prA K C f
  | .c C f => cmA K C f
structure DefM where
  loc : Loc3
  name : Str
  qual : Str
  params : Arguments
  body : List Stmt
  scope : Scope
  dfl : List He.Dv := []
  kwd : List (Str × He.Dv) := []
def DefM.val (d : DefM) : He.FnW := some (d.name, d.qual, d.params, .stmts d.body, d.scope, mainGlobals, [], builtinsNs)
def DefM.dvs (K : PySem.W.Frag) (d : DefM) : List V := d.dfl.map (He.Dv.v K)
def DefM.kws (K : PySem.W.Frag) (d : DefM) : List (Str × V) := d.kwd.map fun p => (p.1, p.2.v K)
def fnA (K : PySem.W.Frag) (a : Addr) : He.FnW := match K.lookup a with
  | some ⟨_, _, .func fd, _⟩ => some (fd.name, fd.qualname, fd.params, fd.body, fd.scope, fd.globals, fd.closure, fd.builtins)
  | _ => none
def DefM.ok (K : PySem.W.Frag) (d : DefM) : Bool := PySem.W.keepIn K (.ref (d.loc.at_ K)) && (match K.lookup (d.loc.at_ K) with
  | some ⟨_, _, .func fd, _⟩ => PySem.W.codeIn K fd.code d.qual && (He.dflB K fd.defaults (d.dvs K) && He.kwdB K fd.kwdefaults (d.kws K))
  | _ => false)
theorem DefM.funD {K : PySem.W.Frag} {d : DefM} (e : fnA K (d.loc.at_ K) = d.val) (c : d.ok K = true) : ∃ fd, FunD K d.name d.qual d.params d.body d.scope (d.dvs K) (d.kws K) (d.loc.at_ K) fd := by
  obtain ⟨kp, c2⟩ := He.ba c
  unfold fnA at e
  cases q : K.lookup (d.loc.at_ K) with
  | none => rw [q] at c2; cases c2
  | some o =>
    rw [q] at c2 e
    obtain ⟨oc, od, dt, osl⟩ := o
    cases dt with
    | func fd =>
      obtain ⟨n1, n2, n3, n4, n5, n6, n7, n8, n9, n10, n11, n12, n13, n14, n15⟩ := fd
      have e2 : (some (n1, n2, n3, n4, n5, n6, n7, n15) : He.FnW) = d.val := e
      unfold DefM.val at e2
      simp only [Option.some.injEq, Prod.mk.injEq] at e2
      obtain ⟨h1, h2, h3, h4, h5, h6, h7, h8⟩ := e2
      subst h1 h2 h3 h4 h5 h6 h7 h8
      obtain ⟨k1, k2⟩ := He.ba c2
      obtain ⟨k3, k4⟩ := He.ba k2
      exact ⟨_, ⟨oc, od, n8, n9, n10, n11, n12, n13, n14, osl, rfl, q, k1, He.dflB_ok k3, He.kwdB_ok k4⟩, kp⟩
    | _ => cases c2
inductive Fm where
  | prop (C f : Str)
  | clsT (c : Str)
  | kit (c : Str) (T : String) (b : Bool)
  | kitT (T : String) (c : Str) (b : Bool)
  | kitC (c d : Str) (b : Bool)
  | kitA (c : Str)
  | strs (x : Str) (ws : List Str)
  | cm (C f : Str)
  | xc (C f : Str)
  | exm (c d : Str) (b : Bool)
  | xf (c f : Str)
  | code (x : Str)
  | dtup (C f : Str) (i : Nat)
  | excC (c : Str)
  | neO (c : Str)
  | eqO (c : Str)
  | xn (C : Str)
def clsTB (K : PySem.W.Frag) (c : Str) : Bool := (He.Fa.cls c).ok K && (He.eqO (PySem.W.findIn K (.ref (He.ga K c)) "__class__") (some (some (.builtin "object.__class__"))) && (He.eqO (PySem.W.specialIn K (.builtin "object.__class__") "__get__") (some (some (.builtin "getset_descriptor.__get__"))) &&
  (decide (PySem.W.takesIn K (.builtin "object.__class__") = some true) && decide (PySem.W.mroIn K (He.ga K c) (.type "object") = some true))))
def propB (K : PySem.W.Frag) (C f : Str) : Bool := He.eqO (PySem.W.findIn K (.ref (He.ga K C)) f) (some (some (.ref (He.ma K (He.ga K C) f)))) && (He.eqO (PySem.W.specialIn K (.ref (He.ma K (He.ga K C) f)) "__get__") (some (some (.builtin "property.__get__"))) &&
  (decide (PySem.W.takesIn K (.ref (He.ma K (He.ga K C) f)) = some true) && (match PySem.W.recIn K (He.ma K (He.ga K C) f) "property" with
    | some (.ref _ :: _) => true
    | _ => false)))
def isTupC : Value → Bool
  | .type n => decide (n = "tuple")
  | _ => false
def strsB (K : PySem.W.Frag) (x : Str) (ws : List Str) : Bool := match K.lookup (He.ga K x) with
  | some ⟨cls, _, .seq its _, _⟩ => isTupC cls && (decide (its.size ≤ sizeLine) && He.relAll (ws.map V.str) its.toList)
  | _ => false
def dtupB (K : PySem.W.Frag) (C f : Str) (i : Nat) : Bool := match K.lookup (He.dflAt (C, some f) i K) with
  | some ⟨cls, _, .seq its _, _⟩ => isTupC cls && decide (its.toList = [])
  | _ => false
structure CmOf (K : PySem.W.Frag) (C : Addr) (f : Str) (p g : Addr) : Prop where
  rd : PySem.W.readsIn K C (.type "type") = true
  ga : PySem.W.specialIn K (.ref C) "__getattribute__" = some (some (.builtin "type.__getattribute__"))
  at_ : PySem.W.findCls K (.ref C) (.type "type") f = some (.get (.builtin "classmethod.__get__") (.ref p) .none (.ref C))
  rc : ∃ rest, PySem.W.recIn K p "classmethod" = some (.ref g :: rest)
  fi : PySem.W.fnIn K g = true
def cmB (K : PySem.W.Frag) (C f : Str) : Bool := PySem.W.readsIn K (He.ga K C) (.type "type") && (He.eqO (PySem.W.specialIn K (.ref (He.ga K C)) "__getattribute__") (some (some (.builtin "type.__getattribute__"))) && ((match PySem.W.findCls K (.ref (He.ga K C)) (.type "type") f with
    | some (.get (.builtin b) (.ref p) .none (.ref d)) => decide (b = "classmethod.__get__") && (decide (p = He.ma K (He.ga K C) f) && decide (d = He.ga K C))
    | _ => false) && ((match PySem.W.recIn K (He.ma K (He.ga K C) f) "classmethod" with
    | some (.ref _ :: _) => true
    | _ => false) && PySem.W.fnIn K (cmA K C f))))
def excCB (K : PySem.W.Frag) (C : Addr) : Bool := xfB K C && (He.eqO (PySem.W.findIn K (.ref C) "__class__") (some (some (.builtin "object.__class__"))) && (He.eqO (PySem.W.specialIn K (.builtin "object.__class__") "__get__") (some (some (.builtin "getset_descriptor.__get__"))) && (decide (PySem.W.takesIn K (.builtin "object.__class__") = some true) && decide (PySem.W.mroIn K C (.type "object") = some true))))
def Fm.ok (K : PySem.W.Frag) : Fm → Bool
  | .prop C f => propB K C f
  | .clsT c => clsTB K c
  | .kit c T b => decide (PySem.W.kitOne K (.ref (He.ga K c)) (.type T) = some b)
  | .kitT T c b => decide (PySem.W.kitOne K (.type T) (.ref (He.ga K c)) = some b)
  | .kitC c d b => decide (PySem.W.kitOne K (.ref (He.ga K c)) (.ref (He.ga K d)) = some b)
  | .kitA c => tyNs.all fun n => decide (PySem.W.kitOne K (.type n) (.ref (He.ga K c)) = some false)
  | .strs x ws => strsB K x ws
  | .cm C f => cmB K C f
  | .xc C f => xcB K (He.ga K C) (He.ma K (He.ga K C) "__init__") f
  | .exm c d b => decide (PySem.W.exmOne K (.ref (He.ga K c)) (.ref (He.ga K d)) = some b)
  | .xf c f => xfB K (He.ga K c) && isSN (PySem.W.findIn K (.ref (He.ga K c)) f)
  | .code x => codeB K (He.ga K x)
  | .dtup C f i => dtupB K C f i
  | .excC c => excCB K (He.ga K c)
  | .xn c => xnCB K (He.ga K c)
  | .eqO c => He.eqO (PySem.W.findIn K (.ref (He.ga K c)) "__eq__") (some (some (.builtin "object.__eq__"))) && decide (PySem.W.mroIn K (He.ga K c) (.type "object") = some true)
  | .neO c => He.eqO (PySem.W.findIn K (.ref (He.ga K c)) "__ne__") (some (some (.builtin "object.__ne__"))) && decide (PySem.W.mroIn K (He.ga K c) (.type "object") = some true)
abbrev AlM : Type := Bool × List He.FnW
def obsM (fa : List He.Fa) (fm : List Fm) (fn : List DefM) (K : PySem.W.Frag) : AlM := ((fa.all fun f => f.ok K) && ((fm.all fun f => f.ok K) && fn.all fun d => d.ok K), fn.map fun d => fnA K (d.loc.at_ K))
def valM (fn : List DefM) : AlM := (true, fn.map DefM.val)
def SaysM (fa : List He.Fa) (fm : List Fm) (fn : List DefM) (K : PySem.W.Frag) : Prop := obsM fa fm fn K = valM fn
section
variable {fa : List He.Fa} {fm : List Fm} {fn : List DefM} {K : PySem.W.Frag}
theorem SaysM.all (c : SaysM fa fm fn K) : (fa.all fun f => f.ok K) = true ∧ (fm.all fun f => f.ok K) = true ∧ (fn.all fun d => d.ok K) = true := by
  have e : ((fa.all fun f => f.ok K) && ((fm.all fun f => f.ok K) && fn.all fun d => d.ok K)) = true := congrArg (fun z : AlM => z.1) c
  obtain ⟨h1, h⟩ := He.ba e
  obtain ⟨h2, h3⟩ := He.ba h
  exact ⟨h1, h2, h3⟩
theorem SaysM.a (c : SaysM fa fm fn K) (i : Nat) {f : He.Fa} (h : fa[i]? = some f) : f.ok K = true := List.all_eq_true.mp c.all.1 f (List.mem_of_getElem? h)
theorem SaysM.b (c : SaysM fa fm fn K) (i : Nat) {f : Fm} (h : fm[i]? = some f) : f.ok K = true := List.all_eq_true.mp c.all.2.1 f (List.mem_of_getElem? h)
theorem SaysM.d (c : SaysM fa fm fn K) (i : Nat) {d : DefM} (h : fn[i]? = some d) : ∃ fd, FunD K d.name d.qual d.params d.body d.scope (d.dvs K) (d.kws K) (d.loc.at_ K) fd := by
  refine DefM.funD ?_ (List.all_eq_true.mp c.all.2.2 d (List.mem_of_getElem? h))
  have e : (fn.map fun d => fnA K (d.loc.at_ K)) = fn.map DefM.val := congrArg (fun z : AlM => z.2) c
  have e2 := congrArg (fun l : List He.FnW => l[i]?) e
  simp only [List.getElem?_map, h, Option.map_some, Option.some.injEq] at e2
  exact e2
end
theorem takesX {P : Program} {w : World} {K : PySem.W.Frag} {mg : Str → Option Value} {base : Heap} {N : List Str} {qual : Str} {scope : Scope} {f : Addr} {cd : Value} {A : Around} {outer : List Env} {s : Shared} {H : Hp} {E : XK} :
    Takes (cxOf (L2.CX P w) P w K mg base N qual scope f cd A outer s H E) (wxE E) := takes_of (X := cxOf (L2.CX P w) P w K mg base N qual scope f cd A outer s H E) (E := E) rfl rfl rfl rfl
theorem pasX {P : Program} {w : World} {K : PySem.W.Frag} {mg : Str → Option Value} {base : Heap} {N : List Str} {qual : Str} {scope : Scope} {f : Addr} {cd : Value} {A : Around} {outer : List Env} {s : Shared} {H : Hp} {E : XK} :
    Pas (cxOf (L2.CX P w) P w K mg base N qual scope f cd A outer s H E) (wxE E) := fun σ => passAt takesX σ
theorem ownX {P : Program} {w : World} {K : PySem.W.Frag} {mg : Str → Option Value} {base : Heap} {N : List Str} {qual : Str} {scope : Scope} {f : Addr} {cd : Value} {A : Around} {outer : List Env} {s : Shared} {H : Hp} {E : XK} :
    PassesOwn (model (cxOf (L2.CX P w) P w K mg base N qual scope f cd A outer s H E).prog w) (cxOf (L2.CX P w) P w K mg base N qual scope f cd A outer s H E).A (cxOf (L2.CX P w) P w K mg base N qual scope f cd A outer s H E).env (cxOf (L2.CX P w) P w K mg base N qual scope f cd A outer s H E).xe := passes_of (X := cxOf (L2.CX P w) P w K mg base N qual scope f cd A outer s H E) rfl
def CXa (P : Program) : CXT := fun outer H s E u s' => ∃ w, L2.CX P w outer H s E u s'
theorem fn_any {P : Program} {w : World} {K : PySem.W.Frag} {mg : Str → Option Value} {base : Heap} {k : Nat} {f : Addr} {fd : FuncData} {ps : List Str} {sp : Sp} (F : FnOk P w K mg base (L2.CX P w) k f fd ps sp) : FnOk P w K mg base (CXa P) k f fd ps sp := by
  refine ⟨F.len, fun A outer s H args us vs Q E hr he hb hv hs => codeAny_mono (F.run A outer s H args us vs Q E hr he hb hv hs) fun r s' q => ?_⟩
  cases r with
  | error e => exact ⟨w, q⟩
  | ok fl => cases fl <;> exact q
theorem cxa_end {P : Program} (H : Hp) (s : Shared) (e : Value) (s' : Shared) (c : CXa P [] H s (fun _ _ _ => False) e s') : False := by
  obtain ⟨_, _, _, _, _, _, _, _, _, _, _, _, _, z⟩ := c
  exact z
theorem law_sp {K : PySem.W.Frag} {c : List D → List D → R} {H : Hp} {a : Addr} {ns : List Int} (hS : SqL K H a (ns.map V.int)) (h : ∃ M, c [.scr ns] [] = .ok (.bl true) M) (hT : LamX.Tabs TabsP.ts H := by exact fun _ z => nomatch z) : spD K (DE K) 1 c [.ref a] H (fun v _ => v = .bl true) fun _ _ _ => False := by
  refine ⟨rfl, H, [], [], [.scr ns], ⟨fun _ _ h => h, rfl, List.nodup_nil, fun n a d h => by simp at h, hT⟩, .cons (.scr hS) .nil, ?_⟩
  obtain ⟨M, h⟩ := h
  rw [h]
  intro v F' Ad' H' _ _ x
  cases x; rfl
end MP
set_option maxRecDepth 100000
set_option maxHeartbeats 2000000
namespace MP
open PySem PySem.Spec PyProof.Rows L2
variable [TabsP] [ThkP]
theorem law_callG {P : Program} {w : World} {K : PySem.W.Frag} {mg mb : Str → Option Value} {CX : CXT} {k : Nat} {fa a : Addr} {fd : FuncData} {x : Str} {sp : Sp} {s₁ : Shared} {vs : List Value} {ns : List Int}
    (KX : K.In s₁.heap) (hns : s₁.heap.Ns mainGlobals mg) (hb : s₁.heap.Ns builtinsNs mb) (hbb : ∀ x : Str, x ≠ "__name__" → mb x = bootBuiltins x) (hlim : s₁.heap.NoLimit) (hg : s₁.gens = #[])
    (ha : s₁.heap.get? a = some { cls := .type "list", data := .seq vs.toArray }) (hi : IntsAre vs ns) (hl : ns.length ≤ sizeLine) (hr : MP.Room k callerA)
    (F : ∀ base : Heap, K.In base → base.Ns mainGlobals mg → MP.FnOk P w K mg base CX k fa fd [x] sp) (hbind : ∀ (s : Shared) (u : Value), BindsTo s fd ⟨[u], []⟩ [(x, u)])
    (hsp : ∀ H : Hp, Only H → SqL K H a (ns.map V.int) → sp [.ref a] H (fun v _ => v = .bl true) fun _ _ _ => False)
    (hCX : ∀ H e s', CX [] H s₁ (fun _ _ _ => False) e s' → False) :
    codeAny (model P w) callerA (.call (.ref fa) ⟨[.ref a], []⟩) (fun r s' => r = .ok (.ret (.bool true)) ∧ OldK s₁.heap s'.heap ∧ s'.os = s₁.os ∧ AllBare s'.gens) s₁ := by
  have core : ∀ H : Hp, Only H → SqL K H a (ns.map V.int) → HOk P w H s₁.heap → (∀ b, H b ≠ none → b = a) → (H a ≠ none → K.lookup a = none) →
      codeAny (model P w) callerA (.call (.ref fa) ⟨[.ref a], []⟩) (fun r s' => r = .ok (.ret (.bool true)) ∧ OldK s₁.heap s'.heap ∧ s'.os = s₁.os ∧ AllBare s'.gens) s₁ := by
    intro H hO hS hok hA hK
    have out : ∀ {b : Addr} {o : Obj}, s₁.heap.get? b = some o → b ≠ a → (hidT s₁.heap H).get? b = some o := fun {b o} e ne => hidT_get e (by
      cases q : H b with
      | none => rfl
      | some u => exact absurd (hA b (by simp [q])) ne)
    have nsK : ∀ {b : Addr} {m : Str → Option Value}, s₁.heap.Ns b m → (hidT s₁.heap H).Ns b m := fun {b m} ⟨o, es, ep, e, d, r⟩ => ⟨o, es, ep, out e (by
      rintro rfl
      rw [ha] at e; cases e
      exact Data.noConfusion d), d, r⟩
    have hKb : K.In (hidT s₁.heap H) := fun b o e => by
      by_cases z : b = a
      · subst z
        refine hidT_get (KX b o e) ?_
        cases q : H b with
        | none => rfl
        | some u => rw [hK (by simp [q])] at e; cases e
      · exact out (KX b o e) z
    obtain ⟨mc, l1, l2⟩ := hlim
    have hM : Mod K mg (hidT s₁.heap H) := ⟨hKb, nsK hns, ⟨mb, nsK hb, hbb⟩, ⟨mc, nsK l1, l2⟩⟩
    have e0 : Env0 P w K mg (hidT s₁.heap H) callerA [] s₁ H := ⟨rfl, hM, fun b o e => of_hidT e, Nat.le_of_eq (hidT_size _ _), trivial, fun b hb => absurd (show b ∈ ([] : List Addr) from hb) (by simp), hok, .of_eq hg⟩
    refine codeAny_mono ((F _ hKb (nsK hns)).run callerA [] s₁ H ⟨[.ref a], []⟩ [.ref a] [.ref a] _ _ hr e0 (hbind s₁ (.ref a)) (.cons rfl .nil) (hsp H hO hS)) fun r s' h => ?_
    cases r with
    | error e => exact (hCX H e s' h).elim
    | ok fl => cases fl with
      | ret u =>
        obtain ⟨v, H', os, bare, un, hok', r', q⟩ := h
        cases (show v = .bl true from q)
        cases (show u = Value.bool true from r')
        refine ⟨rfl, OldK.of_keep fun b o e => ?_, os, bare⟩
        cases q : H b with
        | none => exact un.keep b o e q (by intro z; exact absurd (show b ∈ ([] : List Addr) from z) (by simp)) (by simp)
        | some u =>
          rcases hO b with z | ⟨ob, xs, z⟩
          · rw [q] at z; cases z
          · have e1 := (hok b _ z).1
            have e2 := (hok' b _ (un.frzs b ob _ z)).1
            rw [e] at e1; cases e1
            exact e2
      | _ => exact (show False from h).elim
  cases hk : K.lookup a with
  | some o =>
    have e := KX a o hk
    rw [ha] at e; cases e
    exact core (fun _ => none) (fun _ => .inl rfl) (.inr ⟨_, vs.toArray, _, hk, rfl, rfl, rfl, by rw [List.size_toArray, hi.length]; exact hl, by simpa using vals_ints hi⟩) (fun b u z => nomatch z) (fun b z => absurd rfl z) fun z => absurd rfl z
  | none =>
    have at_ : ∀ {b : Addr} {u : HO}, (if b = a then some (HO.frz { cls := .type "list", data := .seq vs.toArray } (.lst (ns.map V.int))) else none) = some u → b = a ∧ u = .frz { cls := .type "list", data := .seq vs.toArray } (.lst (ns.map V.int)) := fun {b u} z => by
      split at z
      · exact ⟨‹_›, by cases z; rfl⟩
      · cases z
    refine core (fun b => if b = a then some (.frz { cls := .type "list", data := .seq vs.toArray } (.lst (ns.map V.int))) else none) (fun b => ?_) (.inl (.inr ⟨{ cls := .type "list", data := .seq vs.toArray }, if_pos rfl⟩)) (fun b u z => ?_) (fun b z => ?_) fun _ => hk
    · by_cases hb : b = a
      · exact .inr ⟨_, _, if_pos hb⟩
      · exact .inl (if_neg hb)
    · obtain ⟨rfl, rfl⟩ := at_ z
      exact ⟨ha, by rw [List.length_map]; exact hl, vs, _, vals_ints hi, ha⟩
    · by_cases hb : b = a
      · exact hb
      · exact absurd (if_neg hb) z
theorem walk_ofG {l : PySem.W.OpenLaw} {n k : Nat} {q : Program} {loose : List Str} {XP : (Str → Option Value) → Heap → Prop} {YP : World → Heap → Prop} {d : DefRec} {CX : CXT} {x : Str}
    (hn : l.most = some n) (hn2 : n ≤ sizeLine) (hdf : d.params.defaults = []) (hr : L2.Room k callerA)
    (F : ∀ (w : World) (mg : Str → Option Value) (fa : Addr) (h : Heap), YP w h → h.Ns mainGlobals mg → mg d.name = some (.ref fa) →
      ∃ (K : PySem.W.Frag) (fd : FuncData) (sp : Sp), K.In h ∧ (∀ (s : Shared) (u : Value), BindsTo s fd ⟨[u], []⟩ [(x, u)]) ∧
        (∀ (H : Hp) (a : Addr) (ns : List Int), ns.length ≤ n → Only H → SqL K H a (ns.map V.int) → sp [.ref a] H (fun v _ => v = .bl true) fun _ _ _ => False) ∧
        ∀ base : Heap, K.In base → base.Ns mainGlobals mg → MP.FnOk l.prog w K mg base CX k fa fd [x] sp)
    (hCX : ∀ (H : Hp) (s : Shared) (e : Value) (s' : Shared), CX [] H s (fun _ _ _ => False) e s' → False) :
    PySem.W.WalkO q loose XP YP l.row.toRowW d [] (fun f vs => PySem.call f vs) :=
  Att.attach_call hn hdf fun w s₀ s₁ mg mb fa o pm cd doc a vs ns G Y ho hd hcd hmg hobj hints hlen hg => by
    obtain ⟨K, fd, sp, KX, hb, hsp, hF⟩ := F w mg fa _ Y G.T.g hmg
    exact law_callG KX G.T.g G.T.b G.T.builtins G.T.nolimit hg hobj hints (Nat.le_trans hlen hn2) ⟨hr, rfl⟩ hF hb (fun H hO hS => hsp H a ns hlen hO hS) fun H e s' => hCX H s₁ e s'
end MP
set_option maxRecDepth 100000
set_option maxHeartbeats 1000000
namespace MP
open PySem PySem.Spec PyProof.Rows L2
variable [TabsP] [ThkP]
section
variable {X : Cx} {W : WX} {K : PySem.W.Frag} {DR : DRel} {N0 : Ent} {F H : Hp} {Ad : List Addr} {M : List D} {env : EnvM} {σ : St} {Q : VK} {a b c : Expr} {fa fb fc : EF} {pos : Pos}
def bPar (i j : Nat) (fa fb : EF) : SF := fun env M => (fa env M).bindS env fun d M1 => (fb env M1).bindS env fun d2 M2 => match gAll [i, j] [d, d2] env with
  | some env1 => .next env1 M2
  | none => .stuck
end
end MP
set_option maxRecDepth 100000
set_option maxHeartbeats 1000000
namespace MP
open PySem PySem.Spec PyProof.Rows L2
variable [TabsP] [ThkP]
section
variable {X : Cx} {W : WX} {x : Str} {pos : Pos}
theorem vE (i : Nat) (hN : X.N[i]? = some x := by rfl) (hv : Vis X.env.scope x := by first | exact Or.inl rfl | exact Or.inr (Or.inl rfl) | exact Or.inr (Or.inr rfl)) (hd : (x == ("__debug__" : Str)) = false := by decide) (hcd : (x == ("__classdict__" : Str)) = false := by decide) : SE X W (.Name x pos) (eV i) := se_var hN hv hd hcd
theorem vB (i : Nat) (hN : X.N[i]? = some x := by rfl) (hv : Vis X.env.scope x := by first | exact Or.inl rfl | exact Or.inr (Or.inl rfl) | exact Or.inr (Or.inr rfl)) (hd : (x == ("__debug__" : Str)) = false := by decide) (hcd : (x == ("__classdict__" : Str)) = false := by decide) : SB X W (.Name x pos) (eVB i) := sb_var hN hv hd hcd
theorem pgN (i : Nat) (hN : X.N.Nodup) (hi : X.N[i]? = some x := by rfl) (hx : Loc X.env.scope x := by first | exact Or.inl rfl | exact Or.inr rfl) (hf : X.fn x = true ∨ X.env.scope.names.lookup x = some .local := by first | exact .inl rfl | exact .inr rfl) : PG X (.Name x pos) (gName i) := pg_name hN hi hx hf
end
theorem u1 {k : Nat} {A : Around} (r : Room k A) : A.units + 1 < cLine := by have := r.units; omega
def clsB : Stmt → List Stmt
  | .ClassDef (body := b) .. => b
  | _ => []
end MP
set_option maxRecDepth 100000
set_option maxHeartbeats 1000000
namespace MP
open PySem L2
variable [TabsP] [ThkP]
@[simp] theorem R.bind_stuck {k} : R.stuck.bind k = .stuck := rfl
def RS.seq (r : RS) (k : SF) : RS := match r with
  | .next env M => k env M
  | r => r
@[simp] theorem RS.seq_next {env M k} : (RS.next env M).seq k = k env M := rfl
@[simp] theorem RS.seq_ret {d M k} : (RS.ret d M).seq k = .ret d M := rfl
@[simp] theorem RS.seq_cont {d M k} : (RS.cont d M).seq k = .cont d M := rfl
@[simp] theorem RS.seq_brk {d M k} : (RS.brk d M).seq k = .brk d M := rfl
@[simp] theorem RS.seq_stuck {k} : RS.stuck.seq k = .stuck := rfl
section
variable {f g fa fb fc fk fv a b c : EF} {l : LF} {env : EnvM} {M : List D} {p q : SF} {i j n : Nat} {d x y : D} {G : D → D → List D → R}
@[simp] theorem bSeq_eq : bSeq p q env M = (p env M).seq q := rfl
@[simp] theorem bNext_eq : bNext env M = .next env M := rfl
@[simp] theorem bPass_eq : bPass env M = .next env M := rfl
@[simp] theorem bBrk_eq : bBrk env M = .brk env M := rfl
@[simp] theorem bCont_eq : bCont env M = .cont env M := rfl
@[simp] theorem bRetN_eq : bRetN env M = .ret .non M := rfl
@[simp] theorem bRet_eq : bRet f env M = (f env M).bindS env fun d M1 => .ret d M1 := rfl
@[simp] theorem bExpr_eq : bExpr f env M = (f env M).bindS env fun _ M1 => .next env M1 := rfl
def setR (o : Option EnvM) (M : List D) : RS := match o with
  | some env1 => .next env1 M
  | none => .stuck
@[simp] theorem setR_some : setR (some env) M = .next env M := rfl
@[simp] theorem bSet_eq : bSet i f env M = (f env M).bindS env fun d M1 => setR (gN i d env) M1 := rfl
@[simp] theorem bSetT_eq {js} : bSetT js f env M = (f env M).bindS env fun d M1 => setR (gT js d env) M1 := rfl
@[simp] theorem bOwn_eq : bOwn i f env M = (f env M).bindS env fun d M1 => setR (oN i d env) M1 := rfl
@[simp] theorem bPar_eq : bPar i j fa fb env M = (fa env M).bindS env fun d M1 => (fb env M1).bindS env fun d2 M2 => setR (gAll [i, j] [d, d2] env) M2 := rfl
def gNb (o : Option B) (env : EnvM) (i : Nat) (b : B) : Option EnvM := match o with
  | some (.slf _) => none
  | some _ => some (env.set i b)
  | none => none
@[simp] theorem gNb_no {b} : gNb (some .no) env i b = some (env.set i b) := rfl
@[simp] theorem gNb_shr {b} : gNb (some (.shr d)) env i b = some (env.set i b) := rfl
@[simp] theorem gNb_own {b} : gNb (some (.own d)) env i b = some (env.set i b) := rfl
def B.free (b : B) : Prop := match b with | .slf _ => False | _ => True
@[simp] theorem gNb_free {b c : B} (h : c.free) : gNb (some c) env i b = some (env.set i b) := by
  cases c <;> first | rfl | exact h.elim
@[simp] theorem free_no : B.free .no := trivial
@[simp] theorem free_shr : B.free (.shr d) := trivial
@[simp] theorem free_own : B.free (.own d) := trivial
@[simp] theorem free_par : B.free (.par d) := trivial
@[simp] theorem gN_eq : gN i d env = gNb env[i]? env i (.shr d) := by unfold gN gNb; split <;> simp_all
@[simp] theorem oN_eq : oN i d env = gNb env[i]? env i (.own d) := by unfold oN gNb; split <;> simp_all
@[simp] theorem gAll_nil : gAll [] [] env = some env := rfl
@[simp] theorem gAll_cons {js ds} : gAll (j :: js) (d :: ds) env = (gN j d env).bind (gAll js ds) := rfl
@[simp] theorem gT_tup {js ds} : gT js (.tup ds) env = gAll js ds env := rfl
def iteS (d : D) (r s : RS) : RS := match d with
  | .bl true => r
  | .bl false => s
  | _ => .stuck
@[simp] theorem iteS_bl {b : Bool} {r s} : iteS (.bl b) r s = if b = true then r else s := by cases b <;> rfl
theorem bindS_fun {k k' : D → List D → RS} (h : ∀ d M, k d M = k' d M) {r : R} : r.bindS env k = r.bindS env k' := by
  have : k = k' := by funext d M; exact h d M
  rw [this]
@[simp] theorem bIf_eq : bIf f p q env M = (f env M).bindS env fun d M1 => iteS d (p env M1) (q env M1) := by
  unfold bIf
  exact bindS_fun fun d M1 => by cases d <;> first | rfl | (rename_i b; cases b <;> rfl)
def iteR (d : D) (r s : R) : R := match d with
  | .bl true => r
  | .bl false => s
  | _ => .stuck
@[simp] theorem iteR_bl {b : Bool} {r s} : iteR (.bl b) r s = if b = true then r else s := by cases b <;> rfl
theorem iteR_fun {k k' : D → List D → R} (h : ∀ d M, k d M = k' d M) {r : R} : r.bind k = r.bind k' := by
  have : k = k' := by funext d M; exact h d M
  rw [this]
@[simp] theorem eIf_eq : eIf c a b env M = (c env M).bind fun x M1 => iteR x (a env M1) (b env M1) := by
  unfold eIf
  exact iteR_fun fun d M1 => by cases d <;> first | rfl | (rename_i b; cases b <;> rfl)
@[simp] theorem eAnd_eq : eAnd a b env M = (a env M).bind fun x M1 => iteR x (b env M1) (.ok (.bl false) M1) := by
  unfold eAnd
  exact iteR_fun fun d M1 => by cases d <;> first | rfl | (rename_i b; cases b <;> rfl)
@[simp] theorem eOr_eq : eOr a b env M = (a env M).bind fun x M1 => iteR x (.ok (.bl true) M1) (b env M1) := by
  unfold eOr
  exact iteR_fun fun d M1 => by cases d <;> first | rfl | (rename_i b; cases b <;> rfl)
def notR (d : D) (M : List D) : R := match d with | .bl c => .ok (.bl !c) M | _ => .stuck
@[simp] theorem notR_bl {b : Bool} : notR (.bl b) M = .ok (.bl !b) M := rfl
@[simp] theorem eNot_eq : eNot a env M = (a env M).bind notR := by
  unfold eNot
  exact iteR_fun fun d M1 => by cases d <;> rfl
@[simp] theorem eChain_eq {G G'} : eChain G G' a b c env M = (a env M).bind fun x M1 => (b env M1).bind fun y M2 => (G x y M2).bind fun r M3 => iteR r ((c env M3).bind fun z M4 => G' y z M4) (.ok (.bl false) M3) := by
  unfold eChain
  refine iteR_fun fun x M1 => iteR_fun fun y M2 => iteR_fun fun r M3 => ?_
  cases r <;> first | rfl | (rename_i b; cases b <;> rfl)
@[simp] theorem eC_eq : eC d env M = .ok d M := rfl
@[simp] theorem eNew_eq : eNew d env M = .ok d M := rfl
@[simp] theorem e2_eq : e2 G a b env M = (a env M).bind fun x M1 => (b env M1).bind fun y M2 => G x y M2 := rfl
@[simp] theorem e1_eq {g : D → List D → R} : e1 g a env M = (a env M).bind g := rfl
def getE (o : Option B) (M : List D) : R := match o with | some (.shr d) => .ok d M | _ => .stuck
def getB (o : Option B) (M : List D) : R := match o with | some (.shr d) => .ok d M | some (.own d) => .ok d M | some (.slf d) => .ok d M | _ => .stuck
@[simp] theorem getE_shr : getE (some (.shr d)) M = .ok d M := rfl
@[simp] theorem getB_shr : getB (some (.shr d)) M = .ok d M := rfl
@[simp] theorem getB_own : getB (some (.own d)) M = .ok d M := rfl
@[simp] theorem getB_slf : getB (some (.slf d)) M = .ok d M := rfl
@[simp] theorem eV_eq : eV i env M = getE env[i]? M := by unfold eV getE; split <;> simp_all
@[simp] theorem eVB_eq : eVB i env M = getB env[i]? M := by unfold eVB getB; split <;> simp_all
@[simp] theorem lNil_eq : lNil env M = .ok [] M := rfl
@[simp] theorem lCons_eq : lCons a l env M = (a env M).bindL fun x M1 => (l env M1).bindL fun xs M2 => .ok (x :: xs) M2 := rfl
@[simp] theorem eCall_eq {g} : eCall g l env M = (l env M).bind g := rfl
def lenR (f : List D → D) (xs : List D) (M : List D) : R := if xs.length ≤ sizeLine then .ok (f xs) M else .stuck
@[simp] theorem lenR_le {f xs} (h : xs.length ≤ sizeLine) : lenR f xs M = .ok (f xs) M := by unfold lenR; rw [if_pos h]
@[simp] theorem lenR0 {f} : lenR f [] M = .ok (f []) M := lenR_le (Nat.zero_le _)
@[simp] theorem lenR1 {f a1} : lenR f [a1] M = .ok (f [a1]) M := lenR_le (show 1 ≤ sizeLine by decide)
@[simp] theorem lenR2 {f a1 a2} : lenR f [a1, a2] M = .ok (f [a1, a2]) M := lenR_le (show 2 ≤ sizeLine by decide)
@[simp] theorem lenR3 {f a1 a2 a3} : lenR f [a1, a2, a3] M = .ok (f [a1, a2, a3]) M := lenR_le (show 3 ≤ sizeLine by decide)
@[simp] theorem lenR4 {f a1 a2 a3 a4} : lenR f [a1, a2, a3, a4] M = .ok (f [a1, a2, a3, a4]) M := lenR_le (show 4 ≤ sizeLine by decide)
@[simp] theorem eTup_eq : eTup l env M = (l env M).bind (lenR .tup) := rfl
@[simp] theorem eLst_eq : eLst l env M = (l env M).bind (lenR .lst) := rfl
@[simp] theorem eCell_eq : eCell f env M = (f env M).bind fun d M1 => .ok (.cel M1.length) (M1 ++ [d]) := rfl
@[simp] theorem apC_eq {c n dd xs} : apC c n dd xs M = if (xs ++ dd).length = n then c (xs ++ dd) M else .stuck := rfl
@[simp] theorem oAdd_int {i j : Int} : oAdd (.int i) (.int j) M = .ok (.int (i + j)) M := rfl
@[simp] theorem oSub_int {i j : Int} : oSub (.int i) (.int j) M = .ok (.int (i - j)) M := rfl
@[simp] theorem oMul_int {i j : Int} : oMul (.int i) (.int j) M = if CMulB i j then .ok (.int (i * j)) M else .stuck := rfl
@[simp] theorem oDiv_int {i j : Int} : oDiv (.int i) (.int j) M = if CDivW i j then .ok (.int (i / j)) M else .stuck := rfl
@[simp] theorem oMod_int {i j : Int} : oMod (.int i) (.int j) M = if 0 < j then .ok (.int (i % j)) M else .stuck := rfl
@[simp] theorem oPow_int {i j : Int} : oPow (.int i) (.int j) M = if CPow i j then .ok (.int (i ^ j.toNat)) M else .stuck := rfl
@[simp] theorem oNeg_int {i : Int} : oNeg (.int i) M = .ok (.int (-i)) M := rfl
@[simp] theorem oLt_int {i j : Int} : oLt (.int i) (.int j) M = .ok (.bl (decide (i < j))) M := rfl
@[simp] theorem oLe_int {i j : Int} : oLe (.int i) (.int j) M = .ok (.bl (decide (i ≤ j))) M := rfl
@[simp] theorem oGt_int {i j : Int} : oGt (.int i) (.int j) M = .ok (.bl (decide (j < i))) M := rfl
@[simp] theorem oGe_int {i j : Int} : oGe (.int i) (.int j) M = .ok (.bl (decide (j ≤ i))) M := rfl
@[simp] theorem oEq_int {i j : Int} : oEq (.int i) (.int j) M = .ok (.bl (i == j)) M := rfl
@[simp] theorem oNe_int {i j : Int} : oNe (.int i) (.int j) M = .ok (.bl (!(i == j))) M := rfl
@[simp] theorem oIs_non : oIs x .non M = .ok (.bl x.isN) M := rfl
@[simp] theorem oIsnt_non : oIsnt x .non M = .ok (.bl !x.isN) M := rfl
@[simp] theorem isN_int {i : Int} : (D.int i).isN = false := rfl
@[simp] theorem isN_non : D.non.isN = true := rfl
@[simp] theorem isN_tup {xs} : (D.tup xs).isN = false := rfl
def ixR (o : Option D) (M : List D) : R := match o with | some d => .ok d M | none => .stuck
@[simp] theorem ixR_some : ixR (some d) M = .ok d M := rfl
@[simp] theorem oIx_lst {xs} {i : Int} : oIx (.lst xs) (.int i) M = ixR (atI xs i) M := by
  unfold oIx view ixR; rfl
@[simp] theorem oIx_tup {xs} {i : Int} : oIx (.tup xs) (.int i) M = ixR (atI xs i) M := by
  unfold oIx view ixR; rfl
@[simp] theorem oIx_ktp {xs} {i : Int} : oIx (.ktp xs) (.int i) M = ixR (atI xs i) M := by
  unfold oIx view ixR; rfl
@[simp] theorem oIx_dKi {kvs} {i : Int} : oIx (.dK kvs) (.int i) M = ixR (valK kvs (.inl i)) M := by
  unfold oIx view ixR keyD; rfl
@[simp] theorem oIx_dKs {kvs} {z : Str} : oIx (.dK kvs) (.str z) M = ixR (valK kvs (.inr z)) M := by
  unfold oIx view ixR keyD; rfl
theorem oIx_scr {ns : List Int} {i v : Int} (h : atI ns i = some v) : oIx (.scr ns) (.int i) M = .ok (.int v) M := by
  show (match atI ns i with | some d => R.ok (D.int d) M | none => R.stuck) = _
  rw [h]
theorem oIx_celL {xs} {i : Int} (h : M[n]? = some (.lst xs)) : oIx (.cel n) (.int i) M = ixR (atI xs i) M := by
  have e : view M (.cel n) = .lst xs := by show (M[n]?).getD (.cel n) = _; rw [h]; rfl
  unfold oIx; rw [e]; rfl
@[simp] theorem bInt_int {i : Int} : bInt [.int i] M = .ok (.int i) M := rfl
@[simp] theorem bAbs_int {i : Int} : bAbs [.int i] M = .ok (.int (if i < 0 then -i else i)) M := rfl
@[simp] theorem bMax_int {i j : Int} : bMax [.int i, .int j] M = .ok (.int (mx2 i j)) M := rfl
@[simp] theorem bMin_int {i j : Int} : bMin [.int i, .int j] M = .ok (.int (mn2 i j)) M := rfl
@[simp] theorem bLen_lst {xs} : bLen [.lst xs] M = .ok (.int xs.length) M := rfl
@[simp] theorem bLen_tup {xs} : bLen [.tup xs] M = .ok (.int xs.length) M := rfl
@[simp] theorem bLen_ktp {xs} : bLen [.ktp xs] M = .ok (.int xs.length) M := rfl
@[simp] theorem bLen_scr {xs : List Int} : bLen [.scr xs] M = .ok (.int xs.length) M := rfl
@[simp] theorem bTup_lst {xs} : bTup [.lst xs] M = .ok (.tup xs) M := rfl
@[simp] theorem bTup_tup {xs} : bTup [.tup xs] M = .ok (.tup xs) M := rfl
@[simp] theorem store_own {u d d'} (h : env[i]? = some (.own d)) (hu : u d = some d') : store i u env M = .next (env.set i (.own d')) M := by
  unfold store; rw [h]; dsimp only; rw [hu]
theorem store_cel {u d d'} (h : env[i]? = some (.shr (.cel n))) (hm : M[n]? = some d) (hu : u d = some d') : store i u env M = .next env (M.set n d') := by
  unfold store; rw [h]; dsimp only; rw [hm]; dsimp only; rw [hu]
def guS (b : Bool) (r : RS) : RS := if b = true then r else .stuck
@[simp] theorem guS_true {r} : guS true r = r := rfl
@[simp] theorem bSub_eq : bSub i fk fv env M = (fv env M).bindS env fun dv M1 => guS (has i env) ((fk env M1).bindS env fun dk M2 => store i (stSub dk dv) env M2) := rfl
@[simp] theorem bApp_eq : bApp i fv env M = guS (isLst (cont i env M)) ((fv env M).bindS env fun dv M1 => store i (stApp dv) env M1) := rfl
@[simp] theorem bFld_eq {c g} : bFld i c g fv env M = (fv env M).bindS env fun dv M1 => store i (stFld c g dv) env M1 := rfl
def forR (gd : D → EnvM → Option EnvM) (b : SF) (env : EnvM) (r : RL) : RS := match r with
  | .ok ds M1 => forL gd b ds env M1
  | .exc x M1 => .exc x env M1
  | .stuck => .stuck
@[simp] theorem forR_ok {gd b ds} : forR gd b env (.ok ds M) = forL gd b ds env M := rfl
@[simp] theorem bFor_eq {gd b} : bFor l gd b env M = forR gd b env (l env M) := by unfold bFor forR; split <;> simp_all
@[simp] theorem forL_nil {gd b} : forL gd b [] env M = .next env M := rfl
def forK (gd : D → EnvM → Option EnvM) (b : SF) (ds : List D) (r : RS) : RS := match r with
  | .next env2 M2 => forL gd b ds env2 M2
  | .cont env2 M2 => forL gd b ds env2 M2
  | .brk env2 M2 => .next env2 M2
  | r => r
@[simp] theorem forK_next {gd b ds} : forK gd b ds (.next env M) = forL gd b ds env M := rfl
@[simp] theorem forK_ret {gd b ds} : forK gd b ds (.ret d M) = .ret d M := rfl
theorem forL_cons {gd b d ds env1} (h : gd d env = some env1) : forL gd b (d :: ds) env M = forK gd b ds (b env1 M) := by
  show (match gd d env with | none => RS.stuck | some env1 => _) = _
  rw [h]
  show (match b env1 M with | .next env2 M2 => forL gd b ds env2 M2 | .cont env2 M2 => forL gd b ds env2 M2 | .brk env2 M2 => .next env2 M2 | r => r) = _
  unfold forK; split <;> simp_all
theorem forL_inv {gd : D → EnvM → Option EnvM} {b : SF} {ds : List D} (I : Nat → EnvM → List D → Prop) (hs : ∀ i d env M, ds[i]? = some d → I i env M → ∃ env1, gd d env = some env1 ∧ ∃ env2 M2, b env1 M = .next env2 M2 ∧ I (i + 1) env2 M2) {env : EnvM} {M : List D} (h0 : I 0 env M) :
    ∃ env2 M2, forL gd b ds env M = .next env2 M2 ∧ I ds.length env2 M2 := by
  have key : ∀ (k i : Nat) (env : EnvM) (M : List D), i + k = ds.length → I i env M → ∃ env2 M2, forL gd b (ds.drop i) env M = .next env2 M2 ∧ I ds.length env2 M2 := by
    intro k
    induction k with
    | zero =>
      intro i env M hk h; have : i = ds.length := by omega
      subst this; exact ⟨env, M, by rw [List.drop_length]; rfl, h⟩
    | succ k ih =>
      intro i env M hk h
      have hlt : i < ds.length := by omega
      obtain ⟨env1, h1, env2, M2, h2, h3⟩ := hs i ds[i] env M (List.getElem?_eq_getElem hlt) h
      obtain ⟨env3, M3, h4, h5⟩ := ih (i + 1) env2 M2 (by omega) h3
      refine ⟨env3, M3, ?_, h5⟩
      rw [List.drop_eq_getElem_cons hlt, forL_cons h1, h2]
      exact h4
  simpa using key ds.length 0 env M (by omega) h0
@[simp] theorem eComp_eq {gd ft fe vs} : eComp l gd ft fe vs env M = (l env M).bind fun ds M1 => compL gd ft fe (wipeE env vs) ds [] M1 := rfl
@[simp] theorem wipeE_nil : wipeE env [] = env := rfl
@[simp] theorem wipeE_cons {v vs} : wipeE env (v :: vs) = (wipeE env vs).set v .no := rfl
def seqL (d : D) (M : List D) : RL := match d with
  | .lst xs => .ok xs M
  | .tup xs => .ok xs M
  | .ktp xs => .ok xs M
  | .scr ns => .ok (ns.map .int) M
  | .dT kvs => .ok (keysT kvs) M
  | .dK kvs => .ok (keysK kvs) M
  | _ => .stuck
@[simp] theorem seqL_lst {xs} : seqL (.lst xs) M = .ok xs M := rfl
@[simp] theorem seqL_tup {xs} : seqL (.tup xs) M = .ok xs M := rfl
@[simp] theorem seqL_ktp {xs} : seqL (.ktp xs) M = .ok xs M := rfl
@[simp] theorem seqL_scr {xs} : seqL (.scr xs) M = .ok (xs.map .int) M := rfl
@[simp] theorem seqL_dT {xs} : seqL (.dT xs) M = .ok (keysT xs) M := rfl
@[simp] theorem seqL_dK {xs} : seqL (.dK xs) M = .ok (keysK xs) M := rfl
@[simp] theorem iSeq_eq : iSeq f env M = (f env M).bindL seqL := rfl
def seqLB (d : D) (M : List D) : RL := match d with
  | .lst xs => .ok xs M
  | .tup xs => .ok xs M
  | .ktp xs => .ok xs M
  | .scr ns => .ok (ns.map .int) M
  | _ => .stuck
@[simp] theorem seqLB_lst {xs} : seqLB (.lst xs) M = .ok xs M := rfl
@[simp] theorem iSeqB_eq : iSeqB f env M = (f env M).bindL seqLB := rfl
def itmL (d : D) (M : List D) : RL := match d with
  | .dT kvs => .ok (itemsT kvs) M
  | .dK kvs => .ok (itemsK kvs) M
  | _ => .stuck
@[simp] theorem itmL_dT {xs} : itmL (.dT xs) M = .ok (itemsT xs) M := rfl
@[simp] theorem itmL_dK {xs} : itmL (.dK xs) M = .ok (itemsK xs) M := rfl
@[simp] theorem iItm_eq : iItm f env M = (f env M).bindL itmL := rfl
def enuL (d : D) (M : List D) : RL := match d with
  | .lst xs => .ok (enumD xs) M
  | .tup xs => .ok (enumD xs) M
  | .ktp xs => .ok (enumD xs) M
  | _ => .stuck
@[simp] theorem enuL_lst {xs} : enuL (.lst xs) M = .ok (enumD xs) M := rfl
@[simp] theorem enuL_tup {xs} : enuL (.tup xs) M = .ok (enumD xs) M := rfl
@[simp] theorem iEnu_eq : iEnu f env M = (f env M).bindL enuL := rfl
def rngL1 (d : D) (M : List D) : RL := match d with
  | .int j => if inR j then .ok (rngD 0 j.toNat) M else .stuck
  | _ => .stuck
@[simp] theorem rngL1_int {j : Int} (h : inR j) : rngL1 (.int j) M = .ok (rngD 0 j.toNat) M := by unfold rngL1; dsimp only; rw [if_pos h]
@[simp] theorem iRng1_eq : iRng1 f env M = (f env M).bindL rngL1 := by cases M <;> rfl
def rngL2 (d d2 : D) (M : List D) : RL := match d, d2 with
  | .int i, .int j => if inR i ∧ inR j then .ok (rngD i (j - i).toNat) M else .stuck
  | _, _ => .stuck
@[simp] theorem rngL2_int {i j : Int} (h : inR i) (h2 : inR j) : rngL2 (.int i) (.int j) M = .ok (rngD i (j - i).toNat) M := by unfold rngL2; dsimp only; rw [if_pos ⟨h, h2⟩]
@[simp] theorem iRng2_eq : iRng2 f g env M = (f env M).bindL fun d M1 => (g env M1).bindL fun d2 M2 => rngL2 d d2 M2 := by cases M <;> rfl
@[simp] theorem rngD_len {lo : Int} {n : Nat} : (rngD lo n).length = n := by simp [rngD]
def methR (cn m : Str) (d : D) (r : R) : R := match d with
  | .ins c' fs => if c' = cn ∧ fs.lookup m = none then r else .stuck
  | _ => .stuck
@[simp] theorem eMeth_eq {cn m c n dd} : eMeth cn m c n dd f l env M = (f env M).bind fun x M1 => methR cn m (view M1 x) ((l env M1).bind fun xs M2 => apC c n dd (x :: xs) M2) := by
  unfold eMeth
  refine iteR_fun fun x M1 => ?_
  unfold methR; split <;> simp_all
@[simp] theorem view_ins {c fs} : view M (.ins c fs) = .ins c fs := rfl
@[simp] theorem oIsi_int {k : D → Option Bool} {i : Int} : oIsi k (.int i) M = (match k (.int i) with | some b => .ok (.bl b) M | none => .stuck) := rfl
@[simp] theorem oIsi_non {k : D → Option Bool} : oIsi k .non M = (match k .non with | some b => .ok (.bl b) M | none => .stuck) := rfl
@[simp] theorem oIsi_tup {k : D → Option Bool} {xs} : oIsi k (.tup xs) M = (match k (.tup xs) with | some b => .ok (.bl b) M | none => .stuck) := rfl
@[simp] theorem endE_ret : endE (.ret d M) = .ok d M := rfl
@[simp] theorem endE_next : endE (.next env M) = .ok .non M := rfl
end
theorem inR_of {i : Int} (h1 : -1000000000 ≤ i) (h2 : i ≤ 1000000000) : inR i := Nat.div_eq_of_lt (by omega)
theorem cmul_r {i j : Int} (h : -1000000000000000000 ≤ j ∧ j ≤ 1000000000000000000) : CMulB i j := .inr (Nat.div_eq_of_lt (by omega))
theorem cmul_l {i j : Int} (h : -1000000000000000000 ≤ i ∧ i ≤ 1000000000000000000) : CMulB i j := .inl (Nat.div_eq_of_lt (by omega))
theorem cdiv_s {i j : Int} (h : 0 < j) (h2 : j < 2 ^ 200) : CDivW i j := by
  refine ⟨h, ?_⟩
  have e : j.natAbs < 2 ^ 200 := by omega
  by_cases z : j.natAbs = 0
  · rw [z]; decide
  · have := (Nat.log2_lt z).mpr e
    omega
end MP
set_option maxRecDepth 100000
set_option maxHeartbeats 4000000
namespace MP
open PySem PySem.Spec PyProof.Rows L2
variable [TabsP] [ThkP]
instance neDec {xs : List D} : Decidable (xs ≠ []) := match xs with
  | [] => isFalse (by simp)
  | _ :: _ => isTrue (by simp)
def repD (k : Nat) (xs : List D) : List D := (List.replicate k xs).flatten
section
variable {X : Cx} {W : WX} {K : PySem.W.Frag} {E : Ends} {DR : DRel} {N0 : Ent} {F H : Hp} {Ad : List Addr} {M : List D} {env : EnvM} {σ : St} {Q : VK} {x : V} {e c : Expr} {f : EF} {b : SF} {body : List Stmt} {pos p pc : Pos}
theorem DenL.rep {vs ds} (h : DenL K F Ad vs ds) : ∀ k, DenL K F Ad (List.replicate k vs).flatten (repD k ds)
  | 0 => .nil
  | k + 1 => by
    unfold repD
    rw [List.replicate_succ, List.replicate_succ, List.flatten_cons, List.flatten_cons]
    exact h.append (DenL.rep h k)
def whL (f : EF) (b : SF) : Nat → SF
  | 0, _, _ => .stuck
  | n + 1, env, M => (f env M).bindS env fun d M1 => match d with
    | .bl true => (match b env M1 with
      | .next env2 M2 => whL f b n env2 M2
      | .cont env2 M2 => whL f b n env2 M2
      | .brk env2 M2 => .next env2 M2
      | r => r)
    | .bl false => .next env M1
    | _ => .stuck
theorem pe_own {y : Str} {a : Addr} (hm : X.mg y = some (.ref a)) (hg : Gl X y := by rfl) (hd : (y == ("__debug__" : Str)) = false := by decide) : PE X (.Name y pos) (fun _ H Q => Q (.ref a) H) :=
  pe_glob (v := .ref a) hg hm rfl hd
end
section
variable {f : EF} {b : SF} {n : Nat} {env : EnvM} {M : List D}
def whK (f : EF) (b : SF) (n : Nat) (r : RS) : RS := match r with
  | .next env2 M2 => whL f b n env2 M2
  | .cont env2 M2 => whL f b n env2 M2
  | .brk env2 M2 => .next env2 M2
  | r => r
@[simp] theorem whK_next : whK f b n (.next env M) = whL f b n env M := rfl
end
end MP
set_option maxRecDepth 100000
set_option maxHeartbeats 4000000
namespace MP
open PySem PySem.Spec PyProof.Rows L2
variable [TabsP] [ThkP]
def pickL {α : Type} (ix : List Nat) (l : List α) : List α := ix.filterMap (l[·]?)
structure FnQ (P : Program) (w : World) (K : PySem.W.Frag) (mg : Str → Option Value) (base : Heap) (DR : DRel) (k n np : Nat) (ks : List Str) (ix : List Nat) (g : Addr) (dd : List D) (c : List D → List D → R) : Prop where
  ex : ∃ (fd : FuncData) (ps : List Str) (dvs : List V) (dds : List Value), MP.FnOk P w K mg base (L2.CX P w) k g fd ps (spD K DR n c) ∧
    (∀ (s : Shared) (us ws : List Value), K.In s.heap → us.length = np → ws.length = ks.length → BindsTo s fd ⟨us, ks.zip ws⟩ (ps.zip (pickL ix (us ++ ws ++ dds)))) ∧ Vals dvs dds ∧ (∀ F Ad, DenL K F Ad dvs dd) ∧ PySem.W.keepIn K (.ref g) = true
def apQ (c : List D → List D → R) (n np nk : Nat) (ix : List Nat) (dd xs ys M : List D) : R := if xs.length = np ∧ ys.length = nk ∧ (pickL ix (xs ++ ys ++ dd)).length = n then c (pickL ix (xs ++ ys ++ dd)) M else .stuck
def eCallQ (c : List D → List D → R) (n np nk : Nat) (ix : List Nat) (dd : List D) (l1 l2 : LF) : EF := fun env M => (l1 env M).bind fun xs M1 => (l2 env M1).bind fun ys M2 => apQ c n np nk ix dd xs ys M2
section
variable {X : Cx} {W : WX} {DR : DRel} {N0 : Ent} {F H : Hp} {Ad : List Addr} {M : List D} {env : EnvM} {σ : St} {Q : VK} {k n np : Nat} {ks : List Str} {ix : List Nat} {g : Addr} {dd : List D} {c : List D → List D → R} {es : List Expr} {e : Expr} {l l1 l2 : LF} {f : EF} {y m : Str} {p pos kpos : Pos} {kws : List Keyword} {nm : Option Str}
abbrev SK (X : Cx) (W : WX) (kws : List Keyword) (f : LF) : Prop := PK X kws (tL X.K W (DLE X.K) f)
theorem PK.imp {t t' : TA} (h : PK X kws t) (i : ∀ σ H Q, t' σ H Q → t σ H Q) : PK X kws t' := ⟨fun pos pins s σ H Q I q => h.run pos pins s σ H Q I (i σ H Q q)⟩
theorem sk_nil : SK X W [] lNil := PK.imp pk_nil fun σ H Q ⟨N0, F, Ad, M, env, m, en, r⟩ => r [] F Ad H Gr.refl m .nil
theorem sk_cons (ha : SE X W e f) (hr : SK X W kws l) : SK X W (⟨nm, e, kpos⟩ :: kws) (lCons f l) :=
  PK.imp (pk_cons ha hr) fun σ H Q ⟨N0, F, Ad, M, env, m, en, r⟩ => tG_seqL m en r fun d M1 v F1 Ad1 H1 g1 m1 en1 x1 r1 => tL_seqL m1 en1 r1 fun ds M2 vs F2 Ad2 H2 g2 m2 en2 x2 r2 =>
    r2 (v :: vs) F2 Ad2 H2 Gr.refl m2 (.cons (x1.mono g2.fle g2.pre) x2)
end
end MP
set_option maxRecDepth 100000
set_option maxHeartbeats 4000000
namespace MP
open PySem PySem.Spec PyProof.Rows L2
variable [TabsP] [ThkP]
mutual
def toPy : D → Option PyData
  | .non => some .none
  | .bl b => some (.bool b)
  | .int i => some (.int i)
  | .str s => some (.str s)
  | .tup xs => match toPyL xs with | some ps => some (.tuple ps) | none => none
  | .ktp xs => match toPyL xs with | some ps => some (.tuple ps) | none => none
  | .lst xs => match toPyL xs with | some ps => some (.list ps) | none => none
  | _ => none
def toPyL : List D → Option (List PyData)
  | [] => some []
  | d :: ds => match toPy d, toPyL ds with | some p, some ps => some (p :: ps) | _, _ => none
end
mutual
def rsz : PyData → Nat
  | .none => 4 | .bool _ => 5 | .int _ => 1921 | .str x => (reprText x).length
  | .list xs => rszL xs + 2 * xs.length + 3
  | .tuple xs => rszL xs + 2 * xs.length + 3
  | .dict _ => 0
def rszL : List PyData → Nat
  | [] => 0
  | x :: xs => rsz x + rszL xs
end
section
variable {X : Cx} {K : PySem.W.Frag} {F H : Hp} {Ad : List Addr} {M : List D} {σ : St} {pins : List (Addr × Obj)} {s : Shared}
mutual
theorem reads_of (I : Inv X pins σ H s) (m : MemOk X.K F Ad M H) : ∀ (d : D) {v : V} {u : Value} {p : PyData}, Den X.K F Ad v d → RelV v u → toPy d = some p → ∃ as, Reads s.heap u p as
  | .non, _, u, p, .non, r, e => by cases e; obtain rfl : u = Value.none := r; exact ⟨_, .none⟩
  | .bl b, _, u, p, .bl, r, e => by cases e; obtain rfl : u = Value.bool b := r; exact ⟨_, .bool b⟩
  | .int i, _, u, p, .int, r, e => by cases e; obtain ⟨t, rfl⟩ := (show ∃ t, u = Value.int i t from r); exact ⟨_, .int i t⟩
  | .str x, _, u, p, .str, r, e => by cases e; obtain ⟨t, rfl⟩ := (show ∃ t, u = Value.str x t from r); exact ⟨_, .str x t⟩
  | .tup xs, _, u, p, .tup (a := a) h d1, r, e => by
    obtain rfl : u = Value.ref a := r
    unfold toPy at e
    split at e
    · rename_i ps ep; cases e
      obtain ⟨its, rv, ⟨o, ho, hc, n, hd⟩, _⟩ := I.tuple (sqT_sub m h.sq)
      obtain ⟨as, ra⟩ := readsL_of I m xs d1 rv ep
      exact ⟨_, .tuple ho hc hd (by simpa using ra)⟩
    · cases e
  | .ktp xs, _, u, p, .ktp (a := a) h d1, r, e => by
    obtain rfl : u = Value.ref a := r
    unfold toPy at e
    split at e
    · rename_i ps ep; cases e
      obtain ⟨its, rv, ⟨o, ho, hc, n, hd⟩, _⟩ := I.tuple (sqT_sub m h)
      obtain ⟨as, ra⟩ := readsL_of I m xs d1 rv ep
      exact ⟨_, .tuple ho hc hd (by simpa using ra)⟩
    · cases e
  | .lst xs, _, u, p, .lst (a := a) h d1, r, e => by
    obtain rfl : u = Value.ref a := r
    unfold toPy at e
    split at e
    · rename_i ps ep; cases e
      obtain ⟨its, n, rv, ho, _⟩ := I.lst (m.sub _ _ h)
      obtain ⟨as, ra⟩ := readsL_of I m xs d1 rv ep
      exact ⟨_, .list ho rfl rfl (by simpa using ra)⟩
    · cases e
theorem readsL_of (I : Inv X pins σ H s) (m : MemOk X.K F Ad M H) : ∀ (ds : List D) {vs : List V} {us : List Value} {ps : List PyData}, DenL X.K F Ad vs ds → Vals vs us → toPyL ds = some ps → ∃ as, ReadsAll s.heap us ps as
  | [], _, us, ps, .nil, r, e => by cases e; cases r; exact ⟨_, .nil⟩
  | d :: ds, _, us, ps, .cons h1 h2, r, e => by
    cases r with
    | cons r1 r2 =>
      unfold toPyL at e
      split at e
      · rename_i p ps e1 e2; cases e
        obtain ⟨a1, q1⟩ := reads_of I m d h1 r1 e1
        obtain ⟨a2, q2⟩ := readsL_of I m ds h2 r2 e2
        exact ⟨_, .cons q1 q2⟩
      · cases e
end
end
end MP
set_option maxRecDepth 100000
set_option maxHeartbeats 4000000
namespace MP
open PySem PySem.Spec PyProof.Rows L2
variable [TabsP] [ThkP]
mutual
theorem shown_rsz : ∀ p : PyData, p.showable = true → p.hasDict = false → p.shown.length ≤ rsz p
  | .none, _, _ => by decide
  | .bool b, _, _ => by cases b <;> decide
  | .int i, h, _ => by
    have h' : i.natAbs.log2 < 1920 := by simpa [PyData.showable] using h
    show (Str.ofString (toString i)).length ≤ 1921
    exact PyProof.Rows.int_text_len_1921 h'
  | .str x, _, _ => by show (reprText x).length ≤ _; exact Nat.le_refl _
  | .list xs, h, g => by
    have t := shownL_rsz xs (by simpa [PyData.showable] using h) (by simpa [PyData.hasDict] using g)
    have e := listText_len_le (PyData.shownAll xs)
    show (listText (PyData.shownAll xs)).length ≤ rszL xs + 2 * xs.length + 3
    omega
  | .tuple xs, h, g => by
    have t := shownL_rsz xs (by simpa [PyData.showable] using h) (by simpa [PyData.hasDict] using g)
    have e := tupleText_len_le (PyData.shownAll xs)
    show (tupleText (PyData.shownAll xs)).length ≤ rszL xs + 2 * xs.length + 3
    omega
  | .dict _, _, g => by simp [PyData.hasDict] at g
theorem shownL_rsz : ∀ xs : List PyData, PyData.showableAll xs = true → PyData.hasDictAll xs = false → ((PyData.shownAll xs).map (·.length)).sum ≤ rszL xs ∧ (PyData.shownAll xs).length = xs.length
  | [], _, _ => ⟨Nat.le_refl _, rfl⟩
  | x :: xs, h, g => by
    simp only [PyData.showableAll, Bool.and_eq_true] at h
    simp only [PyData.hasDictAll, Bool.or_eq_false_iff] at g
    have a := shown_rsz x h.1 g.1
    have b := shownL_rsz xs h.2 g.2
    show ((PyData.shown x :: PyData.shownAll xs).map (·.length)).sum ≤ rsz x + rszL xs ∧ (PyData.shown x :: PyData.shownAll xs).length = _
    simp only [List.map_cons, List.sum_cons, List.length_cons]
    omega
end
def rOk (p : PyData) : Bool := p.showable && !p.hasDict && decide (p.depth ≤ 60) && decide (rsz p ≤ sizeLine)
def isRef : D → Bool
  | .tup _ => true | .ktp _ => true | .lst _ => true | _ => false
def bRepr (ds : List D) (M : List D) : R := match ds with
  | [d] => if isRef (view M d) = true then (match toPy (view M d) with
    | some p => if rOk p = true then .ok (.str p.shown) M else .stuck
    | none => .stuck) else .stuck
  | _ => .stuck
theorem call_reprU {X : Cx} (gd : X.A.guards = some []) (hu : X.A.units + 64 < cLine) : CallS X (DE X.K) (.builtin "repr") bRepr := by
  intro pins s σ H F Ad M E xs us ds Q I m rv x r
  unfold bRepr at r
  split at r
  · rename_i d
    obtain ⟨v, rfl, hx⟩ := x.one
    have ax := DB.view m hx
    split at r
    · rename_i hi
      split at r
      · rename_i p hp
        split at r
        · rename_i ho
          cases rv with
          | cons r1 r2 =>
            cases r2
            rename_i u
            have rd : ∃ a as, u = Value.ref a ∧ Reads s.heap (.ref a) p as := by
              revert hp ax hi
              generalize view M d = d'
              intro ax hi hp
              cases d' with
              | tup ys =>
                obtain ⟨a, vs, rfl, h1, h2⟩ := ax.tup m
                obtain rfl : u = Value.ref a := r1
                simp only [toPy] at hp
                split at hp
                · rename_i ps ep; cases hp
                  obtain ⟨its, rv, ⟨o, ho, hc, n, hd⟩, _⟩ := I.tuple (h1)
                  obtain ⟨as, ra⟩ := readsL_of I m ys h2 rv ep
                  exact ⟨a, _, rfl, .tuple ho hc hd (by simpa using ra)⟩
                · cases hp
              | ktp ys =>
                obtain ⟨a, vs, rfl, h1, h2⟩ := ax.ktp m
                obtain rfl : u = Value.ref a := r1
                simp only [toPy] at hp
                split at hp
                · rename_i ps ep; cases hp
                  obtain ⟨its, rv, ⟨o, ho, hc, n, hd⟩, _⟩ := I.tuple h1
                  obtain ⟨as, ra⟩ := readsL_of I m ys h2 rv ep
                  exact ⟨a, _, rfl, .tuple ho hc hd (by simpa using ra)⟩
                · cases hp
              | lst ys =>
                obtain ⟨a, vs, rfl, h1, h2⟩ := ax.lst m
                obtain rfl : u = Value.ref a := r1
                simp only [toPy] at hp
                split at hp
                · rename_i ps ep; cases hp
                  obtain ⟨its, n, rv, ho, _⟩ := I.lst h1
                  obtain ⟨as, ra⟩ := readsL_of I m ys h2 rv ep
                  exact ⟨a, _, rfl, .list ho rfl rfl (by simpa using ra)⟩
                · cases hp
              | _ => cases hi
            obtain ⟨a, as, rfl, rd⟩ := rd
            simp only [rOk, Bool.and_eq_true, Bool.not_eq_true', decide_eq_true_eq] at ho
            obtain ⟨⟨⟨o1, o2⟩, o3⟩, o4⟩ := ho
            refine repr_of_reads' rd o1 (PyData.noDict_hsm o2) gd (by omega) (fun _ _ e => e) (fun h' tk tk' hk => ?_) (Nat.le_trans (shown_rsz p o1 o2) o4)
            exact ⟨.str p.shown, H, I.kept hk, ⟨_, rfl⟩, RP.here r m .str⟩
        · exact r.elim
      · exact r.elim
    · exact r.elim
  · exact r.elim
end MP
set_option maxRecDepth 100000
set_option maxHeartbeats 4000000
namespace MP
open PySem PySem.Spec PyProof.Rows L2
variable [TabsP] [ThkP]
section
variable {X : Cx} {K : PySem.W.Frag} {F H : Hp} {Ad : List Addr} {M : List D}
end
end MP
set_option maxRecDepth 100000
set_option maxHeartbeats 4000000
namespace MP
open PySem PySem.Spec PyProof.Rows L2
variable [TabsP] [ThkP]
structure InQ (P : Program) (w : World) (K : PySem.W.Frag) (mg : Str → Option Value) (base : Heap) (k n np : Nat) (ks : List Str) (ix : List Nat) (cn : Str) (g : Addr) (dd : List D) (c : List D → List D → R) : Prop where
  mak : Mk K (He.ga K cn) g
  ex : ∃ (fd : FuncData) (ps : List Str) (dvs : List V) (dds : List Value), MP.FnOk P w K mg base (L2.CX P w) k g fd ps (spI K cn n c) ∧
    (∀ (s : Shared) (self : Value) (us ws : List Value), K.In s.heap → us.length = np → ws.length = ks.length → BindsTo s fd ⟨self :: us, ks.zip ws⟩ (ps.zip (self :: pickL ix (us ++ ws ++ dds)))) ∧ Vals dvs dds ∧ (∀ F Ad, DenL K F Ad dvs dd)
section
variable {X : Cx} {W : WX} {N0 : Ent} {F H : Hp} {Ad : List Addr} {M : List D} {env : EnvM} {σ : St} {Q : VK} {k n np : Nat} {ks : List Str} {ix : List Nat} {g : Addr} {dd : List D} {c : List D → List D → R} {es : List Expr} {e : Expr} {l1 l2 : LF} {y cn : Str} {p pos kpos : Pos} {kws : List Keyword}
end
end MP
set_option maxRecDepth 100000
set_option maxHeartbeats 4000000
namespace MP
open PySem PySem.Spec PyProof.Rows L2
variable [TabsP] [ThkP]
def starD : D → Option (List D)
  | .tup ds => some ds
  | .ktp ds => some ds
  | .lst ds => some ds
  | _ => none
def lStar (f : EF) (l : LF) : LF := fun env M => (f env M).bindL fun x M1 => match starD (view M1 x) with
  | some ds => (l env M1).bindL fun ys M2 => .ok (ds ++ ys) M2
  | none => .stuck
section
variable {X : Cx} {W : WX} {N0 : Ent} {F H : Hp} {Ad : List Addr} {M : List D} {env : EnvM} {σ : St} {e : Expr} {es : List Expr} {f : EF} {l : LF} {p : Pos} {x : V}
end
end MP
set_option maxRecDepth 100000
set_option maxHeartbeats 1000000
namespace MP
open PySem PySem.Spec PyProof.Rows L2
variable [TabsP] [ThkP]
section
variable {X : Cx} {W : WX} {K : PySem.W.Frag} {E : XK} {DR : DRel} {N0 : Ent} {H0 F H : Hp} {Ad : List Addr} {M : List D} {env : EnvM} {σ : St} {Q : VK} {x : V}
end
end MP
set_option maxRecDepth 100000
set_option maxHeartbeats 1000000
namespace MP
open PySem PySem.Spec PyProof.Rows L2
variable [TabsP] [ThkP]
section
variable {X : Cx} {W : WX} {K : PySem.W.Frag} {E : XK} {DR : DRel} {N0 : Ent} {H0 F H : Hp} {Ad : List Addr} {M : List D} {env : EnvM} {σ : St} {Q : VK} {x y : V} {o k e a b c : Expr} {fo fk fd fa fb fc fv : EF} {apos cpos pos : Pos}
def dictD : D → Bool
  | .dK _ => true
  | .dT _ => true
  | _ => false
def getD (dx dy : D) : Option (Option D) := match dx with
  | .dT kvs => (match dy with | .tup ks => (keysD ks).map fun k => valK kvs k | _ => none)
  | .dK kvs => (keyD dy).map fun k => valK kvs k
  | _ => none
def getR (d : D) (r : Option (Option D)) (M : List D) : R := match r with
  | some (some v) => .ok v M
  | some none => .ok d M
  | none => .stuck
def guD (b : Bool) (r : R) : R := if b = true then r else .stuck
def eGet1 (fo fk : EF) : EF := fun env M => (fo env M).bind fun x M1 => guD (dictD (view M1 x)) ((fk env M1).bind fun y M2 => getR .non (getD (view M2 x) y) M2)
def eGet2 (fo fk fd : EF) : EF := fun env M => (fo env M).bind fun x M1 => guD (dictD (view M1 x)) ((fk env M1).bind fun y M2 => (fd env M2).bind fun z M3 => getR z (getD (view M3 x) y) M3)
def eDisp1 (fk fv : EF) : EF := fun env M => (fk env M).bind fun x M1 => (fv env M1).bind fun y M2 => match keyD x with
  | some k => .ok (.dK [(k, y)]) M2
  | none => .stuck
theorem so_disp1 (hk : SE X W k fk) (hv : SE X W e fv) : SO X W (.Dict [some k] [e] pos) (eDisp1 fk fv) :=
  PE.imp (pe_disp (pps_cons hk hv pps_nil) rfl rfl (by simp) (show 1 ≤ 15 by decide)) fun σ H Q ⟨N0, F, Ad, M, env, m, en, r⟩ p hp => by
    have g0 := gr_own (F := F) (Ad := Ad) (o := .dK []) hp
    have m0 := mem_own (o := .dK []) m hp
    have hD : ∀ {F1 Ad1 H1}, Gr F Ad (upd H p (.dK [])) F1 Ad1 H1 → H1 p = some (.dK []) ∧ F1 p = none ∧ p ∉ Ad1 := fun {F1 Ad1 H1} g =>
      ⟨g.keep p _ upd_same trivial (m.none hp) (m.notin hp), g.fnew p _ upd_same trivial (m.none hp) (m.notin hp), g.notin (by rw [upd_same]; simp) (m.notin hp)⟩
    refine ⟨N0, F, Ad, M, env, m0, en.gr g0, ?_⟩
    unfold eDisp1 at r
    cases qk : fk env M with
    | exc x M1 => rw [qk] at r; exact fun c dx F' Ad' H' g' m' z => r c dx F' Ad' H' (g0.trans g') m' z
    | stuck => rw [qk] at r; exact r
    | ok d M1 =>
      rw [qk, R.bind_ok] at r
      intro v F1 Ad1 H1 g1 m1 x1
      refine ⟨N0, F1, Ad1, M1, env, m1, (en.gr g0).gr g1, ?_⟩
      cases qv : fv env M1 with
      | exc x M2 => rw [qv] at r; exact fun c dx F' Ad' H' g' m' z => r c dx F' Ad' H' (g0.trans (g1.trans g')) m' z
      | stuck => rw [qv] at r; exact r
      | ok d2 M2 =>
        rw [qv, R.bind_ok] at r
        intro v2 F2 Ad2 H2 g2 m2 x2
        cases q : keyD d with
        | none => rw [q] at r; exact r.elim
        | some kk =>
          rw [q] at r
          obtain ⟨h1, h2, h3⟩ := hD (g1.trans g2)
          have z := keyD_v x1 q
          subst z
          obtain ⟨gw, mw⟩ := wr_fresh (o := .dK [(kk, v2)]) (g0.trans (g1.trans g2)) m2 hp h2 h3 h1 trivial
          exact ⟨h1, [(kk, v2)], rfl, by simp, r _ F2 Ad2 _ gw mw ⟨p, rfl, h2, h3, hp, .dK upd_same (.cons x2 .nil)⟩⟩
def bParO (i j : Nat) (fa fb : EF) : SF := fun env M => (fa env M).bindS env fun d M1 => (fb env M1).bindS env fun d2 M2 => match (gN i d env).bind (oN j d2) with
  | some env1 => .next env1 M2
  | none => .stuck
def bPar3 (i j l : Nat) (fa fb fc : EF) : SF := fun env M => (fa env M).bindS env fun d M1 => (fb env M1).bindS env fun d2 M2 => (fc env M2).bindS env fun d3 M3 => match gAll [i, j, l] [d, d2, d3] env with
  | some env1 => .next env1 M3
  | none => .stuck
end
end MP
set_option maxRecDepth 100000
set_option maxHeartbeats 1000000
namespace MP
open PySem PySem.Spec PyProof.Rows L2
variable [TabsP] [ThkP]
section
variable {P : Program} {w : World} {A : Around} {E : Value → Shared → Prop} {s : Shared}
end
section
variable {X : Cx} {W : WX} {K : PySem.W.Frag} {DR : DRel} {F H : Hp} {Ad : List Addr} {M : List D} {σ : St} {x : V}
theorem DenT.keys : ∀ {vs ds}, DenT K F Ad vs ds → vs.map (·.1) = ds.map (·.1)
  | _, _, .nil => rfl
  | _, _, .cons _ r => by rw [List.map_cons, List.map_cons, DenT.keys r]
theorem u2 {k : Nat} {A : Around} (r : MP.Room k A) : A.units + 2 < cLine := by have := r.units; omega
end
end MP
set_option maxRecDepth 100000
set_option maxHeartbeats 4000000
namespace MP
open PySem PySem.Spec PyProof.Rows L2
variable [TabsP] [ThkP]
def eMethQ (cn m : Str) (c : List D → List D → R) (n np nk : Nat) (ix : List Nat) (dd : List D) (o : EF) (l1 l2 : LF) : EF := fun env M => (o env M).bind fun x M1 => match view M1 x with
  | .ins c' fs => if c' = cn ∧ fs.lookup m = none then (l1 env M1).bind fun xs M2 => (l2 env M2).bind fun ys M3 => apQ c n np nk ix dd (x :: xs) ys M3 else .stuck
  | _ => .stuck
section
variable {X : Cx} {W : WX} {DR : DRel} {N0 : Ent} {F H : Hp} {Ad : List Addr} {M : List D} {env : EnvM} {σ : St} {Q : VK} {k n np : Nat} {ks : List Str} {ix : List Nat} {g : Addr} {dd : List D} {c : List D → List D → R} {es : List Expr} {e : Expr} {l l1 l2 : LF} {f : EF} {y m : Str} {p pos kpos : Pos} {kws : List Keyword} {nm : Option Str}
@[simp] theorem eMethQ_eq {cn m : Str} {f : EF} : eMethQ cn m c n np nk ix dd f l1 l2 env M = (f env M).bind fun x M1 => methR cn m (view M1 x) ((l1 env M1).bind fun xs M2 => (l2 env M2).bind fun ys M3 => apQ c n np nk ix dd (x :: xs) ys M3) := by
  unfold eMethQ
  cases f env M with
  | ok x M1 => show (match view M1 x with | .ins c' fs => _ | _ => _) = methR cn m (view M1 x) _; unfold methR; split <;> simp_all
  | _ => rfl
end
end MP
set_option maxRecDepth 100000
set_option maxHeartbeats 1000000
namespace MP
open PySem PySem.Spec PyProof.Rows L2
variable [TabsP] [ThkP]
def eChain3 (g g' g'' : D → D → List D → R) (a b c d : EF) : EF := fun env M => (a env M).bind fun x M1 => (b env M1).bind fun y M2 => (g x y M2).bind fun r M3 => match r with
  | .bl true => (c env M3).bind fun z M4 => (g' y z M4).bind fun r M5 => match r with
    | .bl true => (d env M5).bind fun u M6 => g'' z u M6
    | .bl false => .ok (.bl false) M5
    | _ => .stuck
  | .bl false => .ok (.bl false) M3
  | _ => .stuck
section
variable {X : Cx} {W : WX} {K : PySem.W.Frag} {DR : DRel} {N0 : Ent} {F H : Hp} {Ad : List Addr} {M : List D} {env : EnvM} {σ : St} {Q : VK} {a b c d : Expr} {fa fb fc fd : EF} {pos : Pos}
@[simp] theorem eChain3_eq {G G' G''} : eChain3 G G' G'' fa fb fc fd env M = (fa env M).bind fun x M1 => (fb env M1).bind fun y M2 => (G x y M2).bind fun r M3 => iteR r ((fc env M3).bind fun z M4 => (G' y z M4).bind fun r M5 => iteR r ((fd env M5).bind fun u M6 => G'' z u M6) (.ok (.bl false) M5)) (.ok (.bl false) M3) := by
  unfold eChain3
  refine iteR_fun fun x M1 => iteR_fun fun y M2 => iteR_fun fun r M3 => ?_
  cases r with
  | bl k =>
    cases k with
    | false => rfl
    | true =>
      show R.bind _ _ = R.bind _ _
      refine iteR_fun fun z M4 => iteR_fun fun r M5 => ?_
      cases r with
      | bl k => cases k <;> rfl
      | _ => rfl
  | _ => rfl
end
end MP
set_option maxRecDepth 100000
set_option maxHeartbeats 1000000
namespace MP
open PySem PySem.Spec PyProof.Rows L2
variable [TabsP] [ThkP]
section
variable {X : Cx} {W : WX} {K : PySem.W.Frag} {DR : DRel} {N0 : Ent} {F H : Hp} {Ad : List Addr} {M : List D} {env : EnvM} {σ : St} {Q : VK} {a b c d : Expr} {fa fb fc fd : EF} {pos : Pos}
def bRetO (i : Nat) : SF := fun env M => match env[i]? with
  | some (.own d) => .ret d M
  | _ => .stuck
@[simp] theorem bRetO_own {i : Nat} {d : D} (h : env[i]? = some (.own d)) : bRetO i env M = .ret d M := by unfold bRetO; rw [h]
end
end MP
set_option maxRecDepth 100000
set_option maxHeartbeats 1000000
namespace MP
open PySem PySem.Spec PyProof.Rows L2
variable [TabsP] [ThkP]
section
variable {P : Program} {w : World} {T : Type} [DecidableEq T] {kd : HeapKind P w T} {A : Around} {E : Value → Shared → Prop} {s : Shared} {p o q : Addr} {kvs more xs : List (T × Addr × Value)} {k : T} {v : Value}
end
end MP
set_option maxRecDepth 100000
set_option maxHeartbeats 1000000
namespace MP
open PySem PySem.Spec PyProof.Rows L2
variable [TabsP] [ThkP]
section
variable {P : Program} {w : World} {A : Around} {E : Value → Shared → Prop} {s : Shared}
end
end MP
set_option maxRecDepth 100000
set_option maxHeartbeats 1000000
namespace MP
open PySem PySem.Spec PyProof.Rows L2
variable [TabsP] [ThkP]
section
variable {X : Cx} {W : WX} {K : PySem.W.Frag} {DR : DRel} {N0 : Ent} {F H : Hp} {Ad : List Addr} {M : List D} {env : EnvM} {σ : St} {Q : VK} {em k e : Expr} {fm fk fv : EF} {pos : Pos}
end
end MP
set_option maxRecDepth 100000
set_option maxHeartbeats 1000000
namespace MP
open PySem PySem.Spec PyProof.Rows L2
variable [TabsP] [ThkP]
section
variable {X : Cx} {W : WX} {K : PySem.W.Frag} {DR : DRel} {N0 : Ent} {F H : Hp} {Ad : List Addr} {M : List D} {env : EnvM} {σ : St} {Q : VK} {pos : Pos} {i j : Nat}
end
end MP
set_option maxRecDepth 100000
set_option maxHeartbeats 1000000
namespace MP
open PySem PySem.Spec PyProof.Rows L2
variable [TabsP] [ThkP]
section
variable {X : Cx} {W : WX} {K : PySem.W.Frag} {DR : DRel} {N0 : Ent} {F H : Hp} {Ad : List Addr} {M : List D} {env : EnvM} {σ : St} {Q : VK} {pos : Pos}
def flD : D → Option V
  | .non => some .non | .bl b => some (.bl b) | .int i => some (.int i) | .str s => some (.str s) | _ => none
def flL : List D → Option (List V)
  | [] => some []
  | d :: ds => match flD d, flL ds with | some v, some vs => some (v :: vs) | _, _ => none
theorem flD_v {d : D} {v u : V} (h : Den K F Ad u d) (e : flD d = some v) : u = v ∧ flatV v = true := by
  cases d with
  | non => cases e; cases h; exact ⟨rfl, rfl⟩
  | bl b => cases e; cases h; exact ⟨rfl, rfl⟩
  | int i => cases e; cases h; exact ⟨rfl, rfl⟩
  | str s => cases e; cases h; exact ⟨rfl, rfl⟩
  | _ => cases e
theorem flL_v : ∀ {ds : List D} {us vs : List V}, DenL K F Ad us ds → flL ds = some vs → us = vs ∧ vs.all flatV = true
  | [], _, _, .nil, e => by cases e; exact ⟨rfl, rfl⟩
  | d :: ds, _, _, .cons h1 h2, e => by
    unfold flL at e
    split at e
    · rename_i v vs e1 e2
      cases e
      obtain ⟨rfl, f1⟩ := flD_v h1 e1
      obtain ⟨rfl, f2⟩ := flL_v h2 e2
      exact ⟨rfl, by rw [List.all_cons, f1, f2]; rfl⟩
    · cases e
def seqD : D → Option (List D)
  | .lst xs => some xs | .tup xs => some xs | .ktp xs => some xs | _ => none
def oInF (neg : Bool) (x y : D) (M : List D) : R := match flD (view M x), seqD (view M y) with
  | some v, some ys => (match flL ys with
    | some vs => .ok (.bl (if neg then !inV v vs else inV v vs)) M
    | none => .stuck)
  | _, _ => .stuck
theorem inF_ {neg : Bool} {f : Value → Value → Sem Value} (h : OpR X f (rIn X.K neg)) : Op2 X (DE X.K) f (oInF neg) := by
  intro pins s σ H F Ad M E x y v u dx dy Q I m rx ry hx hy r
  have ax := DB.view m hx
  have ay := DB.view m hy
  unfold oInF at r
  revert r ax ay
  generalize view M dx = ex
  generalize view M dy = ey
  intro r ax ay
  split at r
  · rename_i vx ys e1 e2
    split at r
    · rename_i vs e3
      have fx : x = vx ∧ flatV vx = true := by
        cases ex with
        | non => cases e1; exact ⟨ax.non, rfl⟩
        | bl b => cases e1; exact ⟨ax.bl, rfl⟩
        | int i => cases e1; exact ⟨ax.int, rfl⟩
        | str z => cases e1; exact ⟨ax.str, rfl⟩
        | _ => cases e1
      obtain ⟨rfl, fx⟩ := fx
      cases ey with
      | lst xs =>
        cases e2
        obtain ⟨a, ws, rfl, h1, h2⟩ := ay.lst m
        obtain ⟨rfl, fs⟩ := flL_v h2 e3
        exact h pins s σ H _ _ v u Q I rx ry ⟨a, ws, rfl, .inl (SqL.of h1), fx, fs, RP.here r m .bl⟩
      | tup xs =>
        cases e2
        obtain ⟨a, ws, rfl, h1, h2⟩ := ay.tup m
        obtain ⟨rfl, fs⟩ := flL_v h2 e3
        exact h pins s σ H _ _ v u Q I rx ry ⟨a, ws, rfl, .inr (h1), fx, fs, RP.here r m .bl⟩
      | ktp xs =>
        cases e2
        obtain ⟨a, ws, rfl, h1, h2⟩ := ay.ktp m
        obtain ⟨rfl, fs⟩ := flL_v h2 e3
        exact h pins s σ H _ _ v u Q I rx ry ⟨a, ws, rfl, .inr h1, fx, fs, RP.here r m .bl⟩
      | _ => cases e2
    · exact r.elim
  · exact r.elim
theorem op2_inF : Op2 X (DE X.K) (compareOp .In) (oInF false) := inF_ op_in_seq
end
end MP
set_option maxRecDepth 100000
set_option maxHeartbeats 1000000
namespace MP
open PySem PySem.Spec PyProof.Rows L2
variable [TabsP] [ThkP]
def bReprA (ds : List D) (M : List D) : R := match ds with
  | [d] => (match view M d with
    | .non => .ok (.str "None") M
    | .bl b => .ok (.str (if b then "True" else "False")) M
    | .int i => if i.natAbs.log2 < 1920 then .ok (.str (toString i)) M else .stuck
    | .str x => if (reprText x).length ≤ sizeLine then .ok (.str (reprText x)) M else .stuck
    | _ => bRepr [d] M)
  | _ => .stuck
theorem call_reprAU {X : Cx} (gd : X.A.guards = some []) (hu : X.A.units + 64 < cLine) : CallS X (DE X.K) (.builtin "repr") bReprA := by
  intro pins s σ H F Ad M E xs us ds Q I m rv x r
  unfold bReprA at r
  split at r
  · rename_i d
    obtain ⟨v, rfl, hx⟩ := x.one
    have ax := DB.view m hx
    obtain ⟨u, rfl, ru⟩ := vals1 rv
    split at r
    · rename_i e; rw [e] at ax
      rw [ax.non] at ru
      obtain rfl : u = Value.none := ru
      exact PySem.P.repr_of_none ⟨.str _, H, I.tok _, ⟨_, rfl⟩, RP.here r m .str⟩
    · rename_i b e; rw [e] at ax
      rw [ax.bl] at ru
      obtain rfl : u = Value.bool b := ru
      exact PySem.P.repr_of_bool ⟨.str _, H, I.tok _, ⟨_, rfl⟩, RP.here r m .str⟩
    · rename_i i e; rw [e] at ax
      rw [ax.int] at ru
      obtain ⟨t, rfl⟩ := (show ∃ t, u = Value.int i t from ru)
      split at r
      · rename_i hl
        exact PySem.P.repr_of_int hl ⟨.str _, H, I.tok _, ⟨_, rfl⟩, RP.here r m .str⟩
      · exact r.elim
    · rename_i z e; rw [e] at ax
      rw [ax.str] at ru
      obtain ⟨t, rfl⟩ := (show ∃ t, u = Value.str z t from ru)
      split at r
      · rename_i hl
        exact PySem.P.repr_of_str ⟨.str _, H, I.tok _, ⟨_, rfl⟩, RP.here r m .str⟩ hl
      · exact r.elim
    · exact call_reprU gd hu pins s σ H F Ad M E [v] [u] [d] Q I m rv x r
  · exact r.elim
end MP
set_option maxRecDepth 100000
set_option maxHeartbeats 1000000
namespace MP
open PySem PySem.Spec PyProof.Rows L2
variable [TabsP] [ThkP]
section
variable {X : Cx} {K : PySem.W.Frag} {F H : Hp} {Ad : List Addr} {M : List D}
end
end MP
set_option maxRecDepth 100000
set_option maxHeartbeats 1000000
namespace MP
open PySem PySem.Spec PyProof.Rows L2
variable [TabsP] [ThkP]
section
variable {X : Cx} {K : PySem.W.Frag} {F H : Hp} {Ad : List Addr} {M : List D}
end
end MP
set_option maxRecDepth 100000
set_option maxHeartbeats 1000000
namespace MP
open PySem PySem.Spec PyProof.Rows L2
variable [TabsP] [ThkP]
section
variable {X : Cx} {K : PySem.W.Frag} {F H : Hp} {Ad : List Addr} {M : List D}
def oMulL (x y : D) (M : List D) : R := match view M x, view M y with
  | .lst xs, .int k => if 0 ≤ k ∧ k ≤ 1000 ∧ xs.length ≤ 1000 then .ok (.lst (repD k.toNat xs)) M else .stuck
  | _, _ => .stuck
theorem op2_mulL : Op2 X (DE X.K) (binaryOp .Mult) oMulL := by
  intro pins s σ H F Ad M E x y v u dx dy Q I m rx ry hx hy r
  have ax := DB.view m hx
  have ay := DB.view m hy
  unfold oMulL at r
  revert r ax ay
  generalize view M dx = ex
  generalize view M dy = ey
  intro r ax ay
  split at r
  · rename_i xs k
    split at r
    · rename_i hc
      obtain ⟨h1, h2, h3⟩ := hc
      obtain ⟨a, vs, rfl, g1, g2⟩ := ax.lst m
      have hz : vs.length * k.toNat ≤ sizeLine := by
        have e : vs.length ≤ 1000 := by rw [g2.length]; exact h3
        exact Nat.le_trans (Nat.mul_le_mul e (show k.toNat ≤ 1000 by omega)) (by decide)
      exact op_rep pins s σ H _ y v u Q I rx ry ⟨a, k, vs, rfl, ay.int, g1, by omega, by omega, hz, fun p hp => RP.newLst r m (g2.rep _) hp⟩
    · exact r.elim
  · exact r.elim
end
end MP
set_option maxRecDepth 100000
set_option maxHeartbeats 1000000
namespace MP
open PySem PySem.Spec PyProof.Rows L2
variable [TabsP] [ThkP]
section
variable {X : Cx} {pins : List (Addr × Obj)} {σ : St} {H : Hp} {s : Shared} {d : Addr}
end
section
variable {X : Cx} {tg e : Expr} {td : TE} {apos cpos : Pos}
end
section
variable {X : Cx} {W : WX} {tg e : Expr} {f : EF} {apos cpos pos p : Pos}
end
section
variable {prog : Program} {w : World} {A : Around} {R : Result → Shared → Prop} {I : Addr} {fp wr : List Addr} {n : Nat} {P : Nat → Value → Prop} {St : Nat → Heap → Prop}
end
section
variable {X : Cx} {W : WX} {a e : Expr} {fx f : EF} {apos cpos pos : Pos}
end
section
variable {X : Cx} {W : WX} {tg e : Expr} {td : TE} {f : EF} {apos cpos : Pos} {K : PySem.W.Frag} {F : Hp} {Ad : List Addr} {a : Addr}
end
end MP
set_option maxRecDepth 100000
set_option maxHeartbeats 1000000
namespace HQ
open PySem PySem.W PySem.Calls PyProof.Rows HandSHeadRun
noncomputable section
section
variable (st : SharedT → Thread → Option (SharedT × Thread)) (n0 : Nat) (ann : Option Value)
def goP : Nat → SharedT → Thread → Option (SharedT × Thread)
  | 0, s, t => some (s, t)
  | m + 1, s, t => match through t with
    | true => none
    | false => match stepOk n0 ann t with
      | false => none
      | true => match st s t with
        | some (s2, t2) => frS s2 fun s3 => goP m s3 t2
        | none => none
end
def beg (st : SharedT → Thread → Option (SharedT × Thread)) (k : Nat) (p : Program) (w : World) (os : OsState) : Option (SharedT × Thread) := match putAll (boot_heap w.params).objs.toList .nil 0 with
  | some (t, n) => frNat n fun n0 => goP st n0 (bootAnn w) k (bootT w os (t, n0)) (topStub p)
  | none => none
def bootN (w : World) : Option Nat := (putAll (boot_heap w.params).objs.toList .nil 0).map (·.2)
theorem goP_F {st : SharedT → Thread → Option (SharedT × Thread)} {n0 : Nat} {ann : Option Value} (m : Nat) : ∀ {k : Nat} {s s2 : SharedT} {t t2 : Thread}, goP st n0 ann k s t = some (s2, t2) → goF st n0 ann (k + m) s t = goF st n0 ann m s2 t2
  | 0, s, s2, t, t2, h => by
    have e : some (s, t) = some (s2, t2) := h
    cases e
    rw [Nat.zero_add]
  | k + 1, s, s2, t, t2, h => by
    rw [show k + 1 + m = (k + m) + 1 by omega]
    unfold goP at h
    conv => lhs; unfold goF
    cases ht : through t with
    | true => rw [ht] at h; cases h
    | false =>
      rw [ht] at h
      dsimp only at h ⊢
      cases hk : stepOk n0 ann t with
      | false => rw [hk] at h; cases h
      | true =>
        rw [hk] at h
        dsimp only at h ⊢
        cases hs : st s t with
        | none => rw [hs] at h; cases h
        | some r =>
          obtain ⟨s4, t4⟩ := r
          rw [hs] at h
          dsimp only at h ⊢
          rw [frS_eq] at h ⊢
          exact goP_F m h
theorem beg_F {st : SharedT → Thread → Option (SharedT × Thread)} {p : Program} {w : World} {os : OsState} {n0 k : Nat} (m : Nat) {s : SharedT} {t : Thread} (hn : bootN w = some n0) (h : beg st k p w os = some (s, t)) : endF st (k + m) p w os = goF st n0 (bootAnn w) m s t := by
  unfold beg at h
  unfold endF
  unfold bootN at hn
  cases e : putAll (boot_heap w.params).objs.toList .nil 0 with
  | none => rw [e] at h; cases h
  | some r =>
    obtain ⟨tr, n⟩ := r
    rw [e] at h hn
    cases hn
    dsimp only at h ⊢
    rw [frNat_eq] at h ⊢
    exact goP_F m h
def hS (w : World) (s : Str) : Int := reduceHash (w.params.strHash s.cps)
def stOf (w : World) (os : OsState) (l : List Obj) (n toks : Nat) : SharedT := ⟨((putAll l .nil 0).map (·.1)).getD .nil, n, (boot_heap w.params).life, #[], boot_drawn, toks, os⟩
def envT (p : Program) (code : Nat) (fr : Nat) : Env := { scope := p.main.scope, locals := mainNs, globals := mainNs, cells := [], code := .ref code, frame := some fr }
def thOf (p : Program) (w : World) (os : OsState) (code fr i : Nat) (pos : Pos) : Thread := ⟨denQ tabQ (.body ((behindTheImports p).drop i) (envT p code fr)), .body (behindTheImports p) (envT p code fr), pos, match beg (stepQ (denQ tabQ) p w) 12 p w os with
  | some (_, t) => t.stack
  | none => []⟩
end
end HQ
namespace MP
open PySem PySem.Spec PyProof.Rows L2
def hookL (as : List Addr) (fa : List He.Fa) (fm : List Fm) (fn : List DefM) : PySem.W.Hook where
  α := AlM
  obs := fun s => obsM fa fm fn (He.frG s.heap.get? as)
  val := fun _ => valM fn
  says := fun _ h => ∃ K : PySem.W.Frag, K.In h ∧ SaysM fa fm fn K
  of := fun _ _ e => ⟨_, He.frG_in, e⟩
  keeps := fun _ _ _ ⟨K, hK, c⟩ k => ⟨K, PySem.W.Frag.In.keeps hK k, c⟩
def obL (as : List Addr) (fa : List He.Fa) (fm : List Fm) (fn : List DefM) (g : Addr → Option Obj) : AlM := obsM fa fm fn (He.frG g as)
theorem obL_eq {as : List Addr} {fa : List He.Fa} {fm : List Fm} {fn : List DefM} {g : Addr → Option Obj} {s : Shared} (h : ∀ a, g a = s.heap.get? a) : obL as fa fm fn g = (hookL as fa fm fn).obs s := by
  have e : g = s.heap.get? := funext h
  subst e
  rfl
end MP
set_option maxRecDepth 100000
set_option maxHeartbeats 1000000
namespace MP
open PySem PySem.Spec PyProof.Rows L2
variable [TabsP] [ThkP]
def DP (K : PySem.W.Frag) : DRel := fun H0 F Ad H v d => ∃ a x y d1 d2, v = .ref a ∧ d = .tup [d1, d2] ∧ H a = some (.tup [.ref x, .ref y]) ∧ F a = none ∧ H0 a = none ∧ DO K H0 F Ad H (.ref x) d1 ∧ DO K H0 F Ad H (.ref y) d2 ∧ x ≠ y
theorem DP.ok {K} : DRok (DP K) := fun F0 Ad0 H0 F Ad H F' Ad' H' v d g ⟨a, x, y, d1, d2, h1, h2, h3, h4, h5, h6, h7, h8⟩ => ⟨a, x, y, d1, d2, h1, h2, h3, h4, by
  cases q : H0 a with
  | none => rfl
  | some o => exact absurd h5 (g.alive a (by rw [q]; simp)), DO.ok _ _ _ _ _ _ _ _ _ _ _ g h6, DO.ok _ _ _ _ _ _ _ _ _ _ _ g h7, h8⟩
section
variable {K : PySem.W.Frag} {F H H1 : Hp} {Ad : List Addr} {M : List D} {env : EnvM} {σ : St} {N0 : Ent}
theorem notRoot_tup {K F Ad H a d vs} (h : H a = some (.tup vs)) : ¬ Root K F Ad H a d := fun r => by
  cases r with
  | lst h' _ => rw [h] at h'; cases h'
  | dK h' _ => rw [h] at h'; cases h'
  | dT h' _ => rw [h] at h'; cases h'
  | ins h' _ => rw [h] at h'; cases h'
theorem addT {F0 H0 : Hp} {Ad0 : List Addr} {a : Addr} {vs : List V} (g : Gr F0 Ad0 H0 F Ad H) (m : MemOk K F Ad M H) (h : H a = some (.tup vs)) (n : F a = none) (n0 : H0 a = none) :
    Gr F0 Ad0 H0 (upd F a (.tup vs)) Ad H ∧ MemOk K (upd F a (.tup vs)) Ad M H ∧ FLe F (upd F a (.tup vs)) := by
  have fl : FLe F (upd F a (.tup vs)) := fle_new n
  refine ⟨⟨g.fle.trans fl, fun b ob hb ro h1 na1 => ?_, g.apre, g.keep, g.alive⟩, ⟨fun b u hb => ?_, m.len, m.nd, fun k b e h1 h2 => ?_, m.tab⟩, fl⟩
  · rw [upd_ne (fun e => by rw [e, n0] at hb; cases hb)]; exact g.fnew b ob hb ro h1 na1
  · by_cases e : b = a
    · subst e; rw [upd_same] at hb; cases hb; exact h
    · rw [upd_ne e] at hb; exact m.sub b u hb
  · obtain ⟨f, q⟩ := m.cel k b e h1 h2
    have ne : b ≠ a := fun z => notRoot_tup (z ▸ h) q
    exact ⟨by rw [upd_ne ne]; exact f, q.mono fl (fun _ _ h => h) rfl⟩
theorem freezeP {F0 H0 : Hp} {Ad0 : List Addr} {v d} (g : Gr F0 Ad0 H0 F Ad H) (m : MemOk K F Ad M H) (h : DP K H0 F Ad H v d) : ∃ F', Gr F0 Ad0 H0 F' Ad H ∧ MemOk K F' Ad M H ∧ Den K F' Ad v d := by
  obtain ⟨a, x, y, d1, d2, rfl, rfl, h3, h4, h5, h6, h7, h8⟩ := h
  obtain ⟨F1, g1, m1, e1, l1, o1⟩ := freeze g m h6
  have h7' : DO K H0 F1 Ad H (.ref y) d2 := by
    obtain ⟨y', e, q1, q2, q3, q4⟩ := h7
    cases e
    exact ⟨y, rfl, o1 y q1 (fun z => h8 (by cases z; rfl)), q2, q3, q4.mono l1 (fun _ _ h => h) rfl⟩
  obtain ⟨F2, g2, m2, e2, l2, o2⟩ := freeze g1 m1 h7'
  have hx : x ≠ a := fun z => by obtain ⟨x', e, _, _, _, q⟩ := h6; cases e; exact notRoot_tup h3 (z ▸ q)
  have hy : y ≠ a := fun z => by obtain ⟨x', e, _, _, _, q⟩ := h7; cases e; exact notRoot_tup h3 (z ▸ q)
  have n2 : F2 a = none := o2 a (o1 a h4 (fun z => hx (by cases z; rfl))) (fun z => hy (by cases z; rfl))
  obtain ⟨g3, m3, l3⟩ := addT g2 m2 h3 n2 h5
  exact ⟨_, g3, m3, .tup (.inl upd_same) (.cons (e1.mono (l2.trans l3) fun _ _ h => h) (.cons (e2.mono l3 fun _ _ h => h) .nil))⟩
end
section
variable {X : Cx} {W : WX} {K : PySem.W.Frag} {DR : DRel} {N0 : Ent} {F H : Hp} {Ad : List Addr} {M : List D} {env : EnvM} {σ : St} {Q : VK} {pos : Pos}
theorem SP.e {e : Expr} {f : EF} (h : PE X e (tG X.K W (DP X.K) f)) : SE X W e f := PE.imp h fun σ H Q ⟨N0, F, Ad, M, env, m, en, r⟩ => ⟨N0, F, Ad, M, env, m, en, by
  cases q : f env M with
  | ok d M1 =>
    rw [q] at r
    intro v F' Ad' H' g m' x
    obtain ⟨F2, g2, m2, x2⟩ := freezeP g m' x
    exact r v F2 Ad' H' g2 m2 x2
  | exc x M1 => rw [q] at r; exact r
  | stuck => rw [q] at r; exact r⟩
def bRetP (i j : Nat) : SF := fun env M => match env[i]?, env[j]? with
  | some (.own d1), some (.own d2) => .ret (.tup [d1, d2]) M
  | _, _ => .stuck
@[simp] theorem bRetP_own {i j : Nat} {d1 d2 : D} (h : env[i]? = some (.own d1)) (h2 : env[j]? = some (.own d2)) : bRetP i j env M = .ret (.tup [d1, d2]) M := by unfold bRetP; rw [h, h2]
end
end MP
set_option maxRecDepth 100000
set_option maxHeartbeats 1000000
namespace MP
open PySem PySem.Spec PyProof.Rows L2
variable [TabsP] [ThkP]
section
variable {X : Cx} {W : WX} {K : PySem.W.Frag} {DR : DRel} {N0 : Ent} {F H : Hp} {Ad : List Addr} {M : List D} {env : EnvM} {σ : St} {Q : VK} {e : Expr} {es : List Expr} {l : LF} {pos p apos : Pos} {k n : Nat} {g : Addr} {dd : List D} {c : List D → List D → R}
end
end MP
set_option maxRecDepth 100000
set_option maxHeartbeats 1000000
namespace MP
open PySem PySem.Spec PyProof.Rows L2
variable [TabsP] [ThkP]
section
variable {X : Cx} {W : WX} {K : PySem.W.Frag} {DR : DRel} {N0 : Ent} {F H : Hp} {Ad : List Addr} {M : List D} {env : EnvM} {σ : St} {Q : VK} {pos : Pos}
end
end MP
set_option maxRecDepth 100000
set_option maxHeartbeats 1000000
namespace MP
open PySem PySem.Spec PyProof.Rows L2
variable [TabsP] [ThkP]
section
variable {X : Cx} {W : WX} {K : PySem.W.Frag} {DR : DRel} {N0 : Ent} {F H : Hp} {Ad : List Addr} {M : List D} {env : EnvM} {σ : St} {Q : VK} {e o tg : Expr} {es : List Expr} {f fo fe : EF} {l : LF} {pos p apos cpos : Pos}
inductive SJ (X : Cx) (W : WX) : List Expr → List EF → Prop where
  | nil : SJ X W [] []
  | cons {e : Expr} {f : EF} {es : List Expr} {fs : List EF} (h : SE X W e f) (r : SJ X W es fs) : SJ X W (e :: es) (f :: fs)
end
end MP
set_option maxRecDepth 100000
set_option maxHeartbeats 1000000
namespace MP
open PySem PySem.Spec PyProof.Rows L2
variable [TabsP] [ThkP]
section
variable {X : Cx} {W : WX} {K : PySem.W.Frag} {DR : DRel} {N0 : Ent} {F H : Hp} {Ad : List Addr} {M : List D} {env : EnvM} {σ : St} {Q : VK} {e o tg : Expr} {es : List Expr} {f fo fe : EF} {l : LF} {pos p apos cpos : Pos} {k n : Nat} {g : Addr} {dd : List D} {c : List D → List D → R}
structure TgsG (K : PySem.W.Frag) (js : List Nat) (ga : List D → EnvM → Option EnvM) (g : TGs) : Prop where
  ok : ∀ (N0 : Ent) (F : Hp) Ad M H σ env vs ds env' (Q : St → Hp → Prop), MemOk K F Ad M H → EnvOk K N0 F Ad H σ env → DenL K F Ad vs ds → ga ds env = some env' → (∀ σ', EnvOk K N0 F Ad H σ' env' → (∀ us, (∀ j ∈ js, j ∈ us) → wipe σ' us = wipe σ us) → Q σ' H) → g vs σ H Q
end
end MP
set_option maxRecDepth 100000
set_option maxHeartbeats 1000000
namespace MP
open PySem PySem.Spec PyProof.Rows L2
variable [TabsP] [ThkP]
section
variable {X : Cx} {W : WX} {K : PySem.W.Frag} {DR : DRel} {N0 : Ent} {F H : Hp} {Ad : List Addr} {M : List D} {env : EnvM} {σ : St} {Q : VK} {e o tg : Expr} {es : List Expr} {f fo fe : EF} {l : LF} {pos p apos cpos : Pos} {k n : Nat} {g : Addr} {dd : List D} {c : List D → List D → R}
inductive DispOk (X : Cx) (n : Nat) : List (Str × (List D → List D → R)) → Prop where
  | nil : DispOk X n []
  | cons {x : Str} {k : Nat} {c : List D → List D → R} {r : List (Str × (List D → List D → R))} (Fk : FnX X (DE X.K) k n (He.ga X.K x) [] c) (hr : MP.Room k X.A) (t : DispOk X n r) : DispOk X n ((x, c) :: r)
theorem DispOk.get {n : Nat} {x : Str} {c : List D → List D → R} : ∀ {l : List (Str × (List D → List D → R))}, DispOk X n l → l.lookup x = some c → ∃ k, MP.Room k X.A ∧ FnX X (DE X.K) k n (He.ga X.K x) [] c
  | _, .nil, e => by cases e
  | _, .cons (x := y) Fk hr t, e => by
    rw [List.lookup_cons] at e
    split at e
    · rename_i h
      cases e
      obtain rfl := beq_iff_eq.mp h
      exact ⟨_, hr, Fk⟩
    · exact t.get e
abbrev Tb : Type := Str × List (Str × He.Dv)
abbrev AlMT : Type := AlM × List (Option (List (Option (Str × Int))) × Bool)
def obsMT (fa : List He.Fa) (fm : List Fm) (fn : List DefM) (ts : List Tb) (K : PySem.W.Frag) : AlMT := (obsM fa fm fn K, ts.map fun t => (He.dicW K (He.ga K t.1), He.valsB K (He.ga K t.1) t.2))
def valMT (fn : List DefM) (ts : List Tb) (w : World) : AlMT := (valM fn, ts.map fun t => (some (He.keysIn w.params (t.2.map (·.1))), true))
def SaysMT (fa : List He.Fa) (fm : List Fm) (fn : List DefM) (ts : List Tb) (w : World) (K : PySem.W.Frag) : Prop := obsMT fa fm fn ts K = valMT fn ts w
section
variable {fa : List He.Fa} {fm : List Fm} {fn : List DefM} {ts : List Tb} {w : World}
theorem SaysMT.m (c : SaysMT fa fm fn ts w K) : SaysM fa fm fn K := congrArg (fun z : AlMT => z.1) c
theorem SaysMT.a (c : SaysMT fa fm fn ts w K) (i : Nat) {f : He.Fa} (h : fa[i]? = some f) : f.ok K = true := c.m.a i h
theorem SaysMT.b (c : SaysMT fa fm fn ts w K) (i : Nat) {f : Fm} (h : fm[i]? = some f) : f.ok K = true := c.m.b i h
theorem SaysMT.d (c : SaysMT fa fm fn ts w K) (i : Nat) {d : DefM} (h : fn[i]? = some d) : ∃ fd, FunD K d.name d.qual d.params d.body d.scope (d.dvs K) (d.kws K) (d.loc.at_ K) fd := c.m.d i h
structure TbOk (K : PySem.W.Frag) (w : World) (x : Str) (vs : List (Str × He.Dv)) : Prop where
  kd : ∃ es n, KDict K w (He.ga K x) es n
  vl : He.valsB K (He.ga K x) vs = true
theorem SaysMT.t (c : SaysMT fa fm fn ts w K) (i : Nat) {t : Tb} (h : ts[i]? = some t) : TbOk K w t.1 t.2 := by
  have e : ts.map (fun t => (He.dicW K (He.ga K t.1), He.valsB K (He.ga K t.1) t.2)) = ts.map fun t => (some (He.keysIn w.params (t.2.map (·.1))), true) := congrArg (fun z : AlMT => z.2) c
  have e2 := congrArg (fun l : List (Option (List (Option (Str × Int))) × Bool) => l[i]?) e
  simp only [List.getElem?_map, h, Option.map_some, Option.some.injEq, Prod.mk.injEq] at e2
  exact ⟨He.dicW_ok e2.1, e2.2⟩
end
end
end MP
set_option maxRecDepth 100000
set_option maxHeartbeats 1000000
namespace MP
open PySem PySem.Spec PyProof.Rows L2
variable [TabsP] [ThkP]
section
variable {X : Cx} {W : WX} {K : PySem.W.Frag} {F H : Hp} {Ad : List Addr} {M : List D} {env : EnvM} {σ : St} {Q : VK} {e o tg : Expr} {es : List Expr} {f fo fe : EF} {l : LF} {pos p apos cpos : Pos}
def oInD (neg : Bool) (x y : D) (M : List D) : R := match (view M x).pd, view M y with
  | some p, .lst ys => (match D.pdL ys with
    | some qs => if SeqAt.shaped p = true ∧ SeqAt.shaped (.list qs) = true then .ok (.bl (if neg then !(qs.any fun z => PyData.eqv z p) else qs.any fun z => PyData.eqv z p)) M else .stuck
    | none => .stuck)
  | _, _ => .stuck
end
end MP
set_option maxRecDepth 100000
set_option maxHeartbeats 1000000
namespace MP
open PySem PySem.Spec PyProof.Rows L2
variable [TabsP] [ThkP]
section
variable {X : Cx} {W : WX} {K : PySem.W.Frag} {F H : Hp} {Ad : List Addr} {M : List D} {env : EnvM} {σ : St} {Q : VK} {e e' : Expr} {f f' : EF} {pos p : Pos}
end
end MP
set_option maxRecDepth 100000
set_option maxHeartbeats 1000000
namespace MP
open PySem PySem.Spec PyProof.Rows L2
variable [TabsP] [ThkP]
section
variable {X : Cx} {W : WX} {K : PySem.W.Frag} {DR : DRel} {N0 : Ent} {F H : Hp} {Ad : List Addr} {M : List D} {env : EnvM} {σ : St} {Q : VK} {a b c e : Expr} {f fa fb fc : EF} {pos p : Pos}
end
end MP
set_option maxRecDepth 100000
set_option maxHeartbeats 1000000
namespace XcX
open PySem PySem.W PySem.Calls PyProof.Rows PySem.HandSPX
section
open Builtin Builtin.ObjectAttr
variable {P : Program} {w : World} {A : Around} {R : Result → Shared → Prop} {hp : Heap} {gs : Array GenState} {dr : Drawn} {t : Nat} {os : OsState}
theorem put_first {K : W.Frag} {nm : Str} {tk : Tok} {v : Value} {x C t0 : Addr} {B : String} {bmB : List Value} (SF : StoreFacts B bmB "object.__setattr__" "object")
    (X : K.In hp) (hx : hp.get? x = some (excO C t0)) (ho : excOver K C bmB = true) (ht : takerIn K C nm = some none) (hh : hasDictIn K C = true)
    (hq : ∀ h' tk' dx, (∀ b o, b ≠ x → hp.get? b = some o → h'.get? b = some o) → hp.objs.size ≤ dx → dx ≠ x → h'.get? x = some { cls := .ref C, dict := some dx, data := .fields #[.ref t0, .none, .none, .none, .bool false, .none] } →
      h'.Ns1 dx (fun y => if y = nm then some v else none) → R (.ok (.ret .none)) ⟨h', gs, dr, tk', os⟩) :
    codeAny (model P w) A (.call (.builtin "object.__setattr__") ⟨[.ref x, .str nm tk, v], []⟩) R ⟨hp, gs, dr, t, os⟩ := by
  have nx : x ≠ hp.objs.size := Nat.ne_of_lt (Heap.lt_size hx)
  obtain ⟨cd, hc, hd'⟩ := any_some hh
  refine osa_openX (s := ⟨hp, gs, dr, t, os⟩) (od := none) (ox := excO C t0) SF X ⟨hx, rfl, rfl, trivial⟩ ho ht fun b => ?_
  have hcls : W.Looks (model P w) hp (classData C) cd := W.looks_clsIn X hc
  show wpAny _ _ (storeInOwnDict (.ref x) (.ref C) (.str nm tk) nm v b) _ _ _
  obtain ⟨nm', bs, mro, ns, qn, hd, sn, sb, ab, col, del⟩ := cd
  dsimp only at hd'
  subst hd'
  unfold storeInOwnDict ownDictForStores
  repeat (first | with_reducible refine store_in_new ?_ ?_ | with_reducible refine wpAny_loadPart_at hx ?_ | with_reducible refine hcls.at ?_ | wp_step)
  · exact ⟨_, #[], _, (Heap.get?_update_ne _ _ _ _ nx.symm).trans (Heap.get?_push_at rfl rfl), rfl, fun e he => absurd he (by simp), fun _ => rfl⟩
  · intro h' tk' hn' hs
    have hx1 : (hp.push { cls := .type "dict", data := .dict #[] }).get? x = some (excO C t0) := Heap.get?_push_of_some _ hx
    refine hq h' tk' hp.objs.size (fun b o hb he => ?_) (Nat.le_refl _) nx.symm ?_ hn'
    · exact (hs.2 b (Nat.ne_of_lt (Heap.lt_size he))).trans ((Heap.get?_update_ne _ _ _ _ hb).trans (Heap.get?_push_of_some _ he))
    · exact (hs.2 x nx).trans (Heap.get?_update_self _ hx1 rfl)
end
end XcX
namespace MP
open PySem PySem.Spec PyProof.Rows L2
variable [TabsP] [ThkP]
section
variable {X : Cx} {pins : List (Addr × Obj)} {σ : St} {H : Hp} {s : Shared} {a C fI : Addr} {f : Str} {y : V} {u : Value} {E : Value → Shared → Prop} {A : Around}
theorem xc_store {Q : Unit → Shared → Prop} (T : XcC X.K C fI f) (I : Inv X pins σ H s) (e : H a = some (exo a C none)) (ry : RelV y u)
    (h : ∀ dx s', H dx = none → dx ≠ a → Inv X pins σ (upd (upd H dx (exd dx [(f, y)])) a (exo a C (some dx))) s' → Q () s') : wpAny (model X.prog X.w) A (setAttr (.ref a) f u) Q E s := by
  obtain ⟨B, newId, initId, bmB, _, SF, _, ho⟩ := T.over
  obtain ⟨t1, hx⟩ := exo_at I.hok e
  obtain ⟨hp, gs, dr, tk, os⟩ := s
  refine PySem.W.set_plain I.kIn (ox := { cls := .ref C, dict := none, data := .fields #[.ref t1, .none, .none, .none, .bool false, .none] }) (od := none) ⟨hx, rfl, rfl, trivial⟩ T.sa ?_
  refine XcX.put_first SF I.kIn hx ho T.tk T.hd fun h' tk' dx k dn dne hx' hn => ?_
  have nd : H dx = none := I.hok.fresh dn
  have off : ∀ {b : Addr} {o : Obj}, hp.get? b = some o → b ≠ dx := fun {b o} q => Nat.ne_of_lt (Nat.lt_of_lt_of_le (Heap.lt_size q) dn)
  have offa : ∀ {b : Addr}, H b = none → b ≠ a := fun {b} n z => by rw [z, e] at n; cases n
  have other : ∀ {b : Addr} {o : HO}, H b = some o → o ≠ exo a C none → upd (upd H dx (exd dx [(f, y)])) a (exo a C (some dx)) b = some o := fun {b o} q n => by
    rw [upd_ne (fun z => by rw [z, e] at q; exact n (Option.some.inj q).symm), upd_ne (fun z => by rw [z, nd] at q; cases q)]; exact q
  have U : Un X.fs [] H (upd (upd H dx (exd dx [(f, y)])) a (exo a C (some dx))) hp h' :=
    ⟨fun b o q n _ _ => k b o (offa n) q, fun b o q n _ _ => ⟨o.slots, k b o (offa n) q⟩, fun b o q n _ => by rw [upd_ne (offa n), upd_ne (off q)]; exact n,
     fun b o q _ => by
      by_cases z : b = a
      · exact ⟨_, by rw [z]; exact hx'⟩
      · exact ⟨o, k b o z q⟩,
     fun b xs q => other q fun z => exo_tup z.symm, fun b o v q => other q fun z => exo_frz z.symm, fun b ps q => ⟨#[], by rw [other q fun z => exo_tbl z.symm]; simp⟩⟩
  refine h dx _ nd dne (I.un (t' := tk') U fun b o q => ?_)
  by_cases z : b = a
  · subst z; rw [upd_same] at q; cases q; exact exo_ok hx'
  · rw [upd_ne z] at q
    by_cases z2 : b = dx
    · subst z2; rw [upd_same] at q; cases q; exact exd_ok hn (relO_put (fs := []) ry fun g => True.intro)
    · rw [upd_ne z2] at q
      refine (I.hok b o q).stay (fun c v hc w => k c v ?_ w) (fun c hc => other hc fun w => exo_own w.symm) fun c xs hc => other hc fun w => exo_tup w.symm
      rcases hc with hc | hc
      · rw [hc]; exact z
      · exact at_ne e hc exo_own
end
def tXst (C : Addr) (f : Str) (to te : TE) : TS := fun D σ H => te σ H fun y H1 => to σ H1 fun x H2 => ∃ a : Addr, x = .ref a ∧ H2 a = some (exo a C none) ∧ ∀ dx, H2 dx = none → dx ≠ a → D.nx σ (upd (upd H2 dx (exd dx [(f, y)])) a (exo a C (some dx)))
theorem ps_xst {X : Cx} {o e : Expr} {to te : TE} {f : Str} {C fI : Addr} {p' pos : Pos} (T : XcC X.K C fI f) (ho : PE X o to) (he : PE X e te) (hs : swapsWith e (some (.Attribute o f p')) pos.line X.env = pure false := by rfl) : PS X (.Assign [.Attribute o f p'] e pos) (tXst C f to te) := by
  refine ⟨fun pins s σ H D I h => ?_⟩
  refine plainObj_wpAny_Assign_Attribute (thn (he.run pins s σ H _ I h) fun v s1 ⟨y, H1, I1, r1, q1⟩ => thn (ho.run pins s1 σ H1 _ I1 q1) fun u s2 ⟨x, H2, I2, r2, a, ex, ea, q⟩ => ?_) hs
  subst ex
  obtain rfl : u = Value.ref a := r2
  exact xc_store T I2 ea r1 fun dx s' n ne J => ⟨σ, _, J, q dx n ne⟩
def spXc (C : Addr) (f : Str) : Sp := fun vs H Q E => ∃ (a : Addr) (v : V), vs = [.ref a, v] ∧ H a = some (exo a C none) ∧ ∀ dx, H dx = none → dx ≠ a → Q .non (upd (upd H dx (exd dx [(f, v)])) a (exo a C (some dx)))
structure XnK (P : Program) (w : World) (K : PySem.W.Frag) (mg : Str → Option Value) (base : Heap) (cn f : Str) (g : Addr) : Prop where
  cls : XcC K (He.ga K cn) g f
  ex : ∃ (fd : FuncData) (ps : List Str), MP.FnOk P w K mg base (L2.CX P w) 1 g fd ps (spXc (He.ga K cn) f) ∧ Binds K fd ps []
section
variable {P : Program} {w : World} {K : PySem.W.Frag} {mg : Str → Option Value} {base : Heap} {qual p f cn : Str} {params : Arguments} {scope : Scope} {g : Addr} {fd : FuncData} {q1 q2 q3 q4 : Pos}
theorem xnk_of (T : XcC K (He.ga K cn) g f) (Fd : FunD K "__init__" qual params [.Assign [.Attribute (.Name "self" q1) f q2] (.Name p q3) q4] scope [] [] g fd) (S : FnScope ["self", p] ["self", p] scope) (hb : Binds K fd ["self", p] [])
    (h1 : Vis scope "self") (h2 : Vis scope p) (d1 : (p == ("__debug__" : Str)) = false := by decide) (d2 : (p == ("__classdict__" : Str)) = false := by decide) : XnK P w K mg base cn f g := by
  refine ⟨T, fd, ["self", p], MP.fn_of Fd S (fun vs H Q E h => ?_) fun cdv A outer s H vs Q E hr hsp => ?_, hb⟩
  · obtain ⟨a, v, e, _⟩ := h; rw [e]; rfl
  · obtain ⟨a, v, rfl, ha, hq⟩ := hsp
    refine ⟨_, pss_one (ps_xst T (pe_var (i := 0) rfl h1 (by decide) (by decide)) (pe_var (i := 1) rfl h2 d1 d2)), ?_⟩
    exact ⟨v, rfl, .ref a, rfl, a, rfl, ha, hq⟩
end
end MP
set_option maxRecDepth 100000
set_option maxHeartbeats 1000000
namespace MP
open PySem PySem.Spec PyProof.Rows L2
variable [TabsP] [ThkP]
section
variable {X : Cx} {W : WX} {K : PySem.W.Frag} {DR : DRel} {D : Ends} {N0 : Ent} {F F1 H H1 : Hp} {Ad Ad1 : List Addr} {M : List MP.D} {env : EnvM} {σ : St} {e : Expr} {f : EF} {pos p p2 : Pos} {cn fn y : Str} {g : Addr}
end
end MP
set_option maxRecDepth 100000
set_option maxHeartbeats 1000000
namespace MP
open PySem PySem.Spec PyProof.Rows L2
variable [TabsP] [ThkP]
section
variable {X : Cx} {W : WX} {DR : DRel} {body : List Stmt} {b : SF} {pos pos' np pz pc pn' pa pl ps : Pos} {cn fn y n z w : Str} {i j : Nat} {tbl : List (Str × Bool)} {u : Option Str}
end
end MP
set_option maxRecDepth 100000
set_option maxHeartbeats 1000000
namespace MP
open PySem PySem.Spec PyProof.Rows L2
variable [TabsP] [ThkP]
def eChain4 (g1 g2 g3 g4 : D → D → List D → R) (a b c d e : EF) : EF := fun env M => (a env M).bind fun x M1 => (b env M1).bind fun y M2 => (g1 x y M2).bind fun r M3 => match r with
  | .bl true => (c env M3).bind fun z M4 => (g2 y z M4).bind fun r M5 => match r with
    | .bl true => (d env M5).bind fun u M6 => (g3 z u M6).bind fun r M7 => match r with
      | .bl true => (e env M7).bind fun v M8 => g4 u v M8
      | .bl false => .ok (.bl false) M7
      | _ => .stuck
    | .bl false => .ok (.bl false) M5
    | _ => .stuck
  | .bl false => .ok (.bl false) M3
  | _ => .stuck
section
variable {X : Cx} {W : WX} {K : PySem.W.Frag} {DR : DRel} {N0 : Ent} {F H : Hp} {Ad : List Addr} {M : List D} {env : EnvM} {σ : St} {Q : VK} {a b c d e : Expr} {fa fb fc fd fe : EF} {pos : Pos}
@[simp] theorem eChain4_eq {G1 G2 G3 G4} : eChain4 G1 G2 G3 G4 fa fb fc fd fe env M = (fa env M).bind fun x M1 => (fb env M1).bind fun y M2 => (G1 x y M2).bind fun r M3 => iteR r ((fc env M3).bind fun z M4 => (G2 y z M4).bind fun r M5 => iteR r ((fd env M5).bind fun u M6 => (G3 z u M6).bind fun r M7 => iteR r ((fe env M7).bind fun v M8 => G4 u v M8) (.ok (.bl false) M7)) (.ok (.bl false) M5)) (.ok (.bl false) M3) := by
  unfold eChain4
  refine iteR_fun fun x M1 => iteR_fun fun y M2 => iteR_fun fun r M3 => ?_
  cases r with
  | bl k =>
    cases k with
    | false => rfl
    | true =>
      show R.bind _ _ = R.bind _ _
      refine iteR_fun fun z M4 => iteR_fun fun r M5 => ?_
      cases r with
      | bl k =>
        cases k with
        | false => rfl
        | true =>
          show R.bind _ _ = R.bind _ _
          refine iteR_fun fun u M6 => iteR_fun fun r M7 => ?_
          cases r with
          | bl k => cases k <;> rfl
          | _ => rfl
      | _ => rfl
  | _ => rfl
end
instance (priority := 10) tabs0 : TabsP := ⟨[]⟩
instance (priority := 10) thk0 : ThkP := ⟨0, ⟨fun _ => none, fun _ => none, [], 0⟩⟩
end MP
set_option maxRecDepth 100000
set_option maxHeartbeats 1000000
namespace MP
open PySem PySem.Spec PyProof.Rows L2
variable [TabsP] [ThkP]
structure LamMd (X : Cx) (pins : List (Addr × Obj)) (σ : St) (H : Hp) (params : Arguments) (body : Expr) (scope : Scope) (H1 : Hp) (s1 : Shared) (f c : Addr) : Prop where
  inv : Inv X pins σ H1 s1
  keep : ∀ b o, H b = some o → (∀ ps, o ≠ .tbl ps) → H1 b = some o
  alive : ∀ b, H b ≠ none → H1 b ≠ none
  tab : LamX.Tabs TabsP.ts H1
  fn : ∃ pm ctv, s1.heap.get? f = some (PySem.W.kla_obj "<lambda>" (X.env.qual ++ "<lambda>") params body scope (cloFrom X.env.cells scope.names []) pm c ctv)
  fnew : H1 f = none
  ffr : f ∉ frs X.stack
  cod : H1 c = some (LamX.CodeO c (X.env.qual ++ "<lambda>"))
section
variable {X : Cx} {pins : List (Addr × Obj)} {σ : St} {H : Hp} {s : Shared} {c P : Addr} {params : Arguments} {body : Expr} {scope : Scope} {pos : Pos}
end
def eAct (i : Nat) (th : List D → R) : EF := fun env M => match env[i]? with | some .raw => th M | _ => .stuck
section
variable {X : Cx} {pins : List (Addr × Obj)} {σ : St} {H0 H F : Hp} {Ad : List Addr} {s : Shared} {params : Arguments} {body : Expr} {scope : Scope} {f c : Addr} {k i : Nat} {N0 : Ent} {env : EnvM} {fb : EF}
  {Ng : List Str} {qg : Str} {sg : Scope} {g : Addr} {cdg : Value} {Eg : XK} {a : Str} {pn : List (Addr × Obj)} {xe : Value → Shared → Prop} {W : WX} {p1 p2 : Pos}
end
structure FnTh (P : Program) (w : World) (K : PySem.W.Frag) (mg : Str → Option Value) (base : Heap) (k : Nat) (g : Addr) (T : (List D → R) → List D → R) : Prop where
  ex : ∃ (x qual : Str) (pg : Arguments) (bg : List Stmt) (sg : Scope) (fd : FuncData) (N : List Str) (a : Str) (b : (List D → R) → SF), FunD K x qual pg bg sg [] [] g fd ∧ FnScope N [a] sg ∧ Binds K fd [a] [] ∧ N[0]? = some a ∧ Vis sg a ∧ (a == ("__debug__" : Str)) = false ∧ (a == ("__classdict__" : Str)) = false ∧
    (∀ th M, T th M = endE (b th (B.raw :: List.replicate (N.length - 1) B.no) M)) ∧
    ∀ (T1 : ThkP) (th : List D → R) (cdv : Value) (A : Around) (outer : List Env) (s : Shared) (H : Hp) (E : XK), Room k (A.deeper (envOfC qual sg s.heap.objs.size g cdv)) →
      (∀ (W : WX) (pn : List (Addr × Obj)) (xe : Value → Shared → Prop) (p1 p2 : Pos), Takes ((cxOf (L2.CX P w) P w K mg base N qual sg g cdv A outer s H E).tr pn xe) W → @SE _ T1 ((cxOf (L2.CX P w) P w K mg base N qual sg g cdv A outer s H E).tr pn xe) W (.Call (.Name a p1) [] [] p2) (eAct 0 th)) →
      @SSs _ T1 (cxOf (L2.CX P w) P w K mg base N qual sg g cdv A outer s H E) (wxE E) (DE K) bg (b th)
section
variable {X : Cx} {W : WX} {c P g : Addr} {k : Nat} {x : Str} {params : Arguments} {body : Expr} {scope : Scope} {fb : EF} {T : (List D → R) → List D → R} {p lpos pos : Pos}
end
end MP
set_option maxRecDepth 100000
set_option maxHeartbeats 2000000
namespace MP
open PySem PySem.Spec PyProof.Rows L2
section
variable {P : Program} {w : World} {K : PySem.W.Frag} {mg mb : Str → Option Value} {CX : CXT} {k : Nat} {fa a : Addr} {cs : List (Addr × Addr)} {fd : FuncData} {x : Str} {sp : Sp} {s₁ : Shared} {vs : List Value} {ns : List Int}
end
end MP
set_option maxRecDepth 100000
set_option maxHeartbeats 1000000
namespace MP
open PySem PySem.Spec PyProof.Rows L2
def tabsQ (K : PySem.W.Frag) (fs : List Str) : List (Addr × Str) := fs.map fun x => (tblOf K (codeOf K (He.ga K x)), x ++ ".<locals>." ++ "<lambda>")
structure SaysTL [TabsP] (fa : List He.Fa) (fm : List Fm) (fn : List DefM) (ts : List Tb) (fs : List Str) (w : World) (K : PySem.W.Frag) (mg : Str → Option Value) (base : Heap) : Prop where
  m : SaysMT fa fm fn ts w K
  tb : ∀ p ∈ codes K fs, LamX.TabB base mg p.1 p.2
  ht : TabsP.ts = tabsQ K fs
  nd : ((codes K fs).map Prod.snd).Nodup
section
variable [TabsP] {fa : List He.Fa} {fm : List Fm} {fn : List DefM} {ts : List Tb} {fs : List Str} {w : World} {K : PySem.W.Frag} {mg : Str → Option Value} {base : Heap}
theorem SaysTL.a (c : SaysTL fa fm fn ts fs w K mg base) (i : Nat) {f : He.Fa} (h : fa[i]? = some f) : f.ok K = true := c.m.a i h
theorem SaysTL.b (c : SaysTL fa fm fn ts fs w K mg base) (i : Nat) {f : Fm} (h : fm[i]? = some f) : f.ok K = true := c.m.b i h
theorem SaysTL.d (c : SaysTL fa fm fn ts fs w K mg base) (i : Nat) {d : DefM} (h : fn[i]? = some d) : ∃ fd, FunD K d.name d.qual d.params d.body d.scope (d.dvs K) (d.kws K) (d.loc.at_ K) fd := c.m.d i h
theorem SaysTL.t (c : SaysTL fa fm fn ts fs w K mg base) (i : Nat) {t : Tb} (h : ts[i]? = some t) : TbOk K w t.1 t.2 := c.m.t i h
end
section
variable [TabsP] [ThkP] {P : Program} {w : World} {K : PySem.W.Frag} {mg : Str → Option Value} {base : Heap} {x qual : Str} {params : Arguments} {body : List Stmt} {scope : Scope} {dvs : List V} {kws : List (Str × V)} {f : Addr} {fd : FuncData} {N ps : List Str} {k : Nat}
end
end MP
namespace MP
open PySem PySem.Spec PyProof.Rows L2
end MP
set_option maxRecDepth 100000
set_option maxHeartbeats 1000000
namespace MP
open PySem PySem.Spec PyProof.Rows L2
variable [TabsP] [ThkP]
section
variable {K : PySem.W.Frag} {F H H1 : Hp} {Ad : List Addr} {M : List D} {env : EnvM} {σ : St} {N0 : Ent}
end
section
variable {X : Cx} {W : WX} {K : PySem.W.Frag} {DR : DRel} {N0 : Ent} {F H : Hp} {Ad : List Addr} {M : List D} {env : EnvM} {σ : St} {Q : VK} {pos : Pos}
def bShareP (i : Nat) : SF := fun env M => match env[i]? with
  | some (.par d) => .next (env.set i (.shr d)) M
  | _ => .stuck
@[simp] theorem bShareP_par {i : Nat} {d : D} (h : env[i]? = some (.par d)) : bShareP i env M = .next (env.set i (.shr d)) M := by unfold bShareP; rw [h]
end
end MP
set_option maxRecDepth 100000
set_option maxHeartbeats 1000000
namespace MP
open PySem PySem.Spec PyProof.Rows L2
variable [TabsP] [ThkP]
structure LamP (y : Str) (scope : Scope) : Prop where
  kind : scope.kind = .function
  co : scope.isCoroutine = false
  gen : scope.isGenerator = false
  own : ∀ z ∈ scope.names, z.2 ≠ .cell ∧ z.2 ≠ .free
  loc : scope.names.lookup y = some .local
section
variable {X : Cx} {pins : List (Addr × Obj)} {σ : St} {H H1 F : Hp} {Ad : List Addr} {M : List D} {s s1 : Shared} {params : Arguments} {body : Expr} {scope : Scope} {f c : Addr} {y : Str} {p1 p2 p3 : Pos} {kd : Nat}
end
section
variable {X : Cx} {W : WX} {K : PySem.W.Frag} {F : Hp} {Ad : List Addr} {c P : Addr} {params : Arguments} {scope : Scope} {y : Str} {p p1 p2 p3 lpos kpos pos : Pos} {kd : Nat} {e : Expr} {l : EF}
end
section
variable {X : Cx} {W : WX} {c P : Addr} {params : Arguments} {scope : Scope} {y : Str} {p p1 p2 p3 lpos kpos pos : Pos} {kd : Nat} {e : Expr} {l : EF}
end
end MP
set_option maxRecDepth 100000
set_option maxHeartbeats 1000000
namespace MP
open PySem PySem.Spec PyProof.Rows L2 PySem.Calls
variable [TabsP] [ThkP]
section
variable {X : Cx} {W : WX} {K : PySem.W.Frag} {DR : DRel} {N0 : Ent} {F H : Hp} {Ad : List Addr} {M : List D} {env : EnvM} {σ : St} {Q : VK} {e : Expr} {f : EF} {l : LF} {pos p : Pos} {k n : Nat} {g : Addr} {dd : List D} {c : List D → List D → R}
end
end MP
set_option maxRecDepth 100000
set_option maxHeartbeats 1000000
namespace MP
open PySem PySem.Spec PyProof.Rows L2
variable [TabsP] [ThkP]
section
variable {X : Cx} {W : WX} {K : PySem.W.Frag} {F : Hp} {Ad : List Addr} {a : Expr} {fa : EF} {k : Nat} {p1 p2 p3 pos : Pos}
end
end MP
set_option maxRecDepth 100000
set_option maxHeartbeats 2000000
namespace GQ
open PySem PySem.Calls PyProof.Rows Builtin
section
variable {prog : Program} {w : World} {A : Around} {E : Value → Shared → Prop} {R : Result → Shared → Prop}
end
end GQ
namespace MP
open PySem PySem.Spec PyProof.Rows L2
variable [TabsP] [ThkP]
section
variable {X : Cx}
end
end MP
set_option maxRecDepth 100000
set_option maxHeartbeats 2000000
namespace CaX
open PySem PySem.Spec PyProof.Rows L2
section
variable {X : Cx} {x1 x2 x3 n : Str} {c1 c2 c3 : Value} {i kk : Nat} {body suite : List Stmt} {b₀ : Stmt} {p1 p2 p3 tp pos pos' : Pos} {tb : WX → TS} {ts : Addr → Value → Option Addr → TS} {Wout : WX}
end
end CaX
set_option maxRecDepth 100000
set_option maxHeartbeats 2000000
namespace MP
open PySem PySem.Spec PyProof.Rows L2
variable [TabsP]
structure ExAt (K : PySem.W.Frag) (T : ThkP) (x : Xc) (a : Addr) (cls : Value) (d : Option Addr) : Prop where
  ad : a = T.f
  cl : cls = .ref (He.ga K x.c)
  dic : (d = none ∧ x.fs = []) ∨ ∃ dd vs, d = some dd ∧ T.ent.fz dd = some (.xd vs) ∧ DenF K T.ent.fz T.ent.ad vs x.fs
structure ExP (K : PySem.W.Frag) (T : ThkP) (x : Xc) (p : Addr × Obj) : Prop where
  ex : ExAt K T x p.1 p.2.cls p.2.dict
  fd : ∃ vs, p.2.data = .fields vs
section
variable [T0 : ThkP] {X : Cx} {W : WX} {K : PySem.W.Frag} {x : Xc} {p : Addr × Obj} {pn : List (Addr × Obj)} {i : Nat} {n y fn cn f : Str} {tbl : List (Str × Bool)} {p1 p2 p3 pos : Pos} {N0 : Ent} {F H : Hp} {Ad : List Addr} {M : List D} {env : EnvM} {σ : St}
end
structure FnTg (P : Program) (w : World) (K : PySem.W.Frag) (mg : Str → Option Value) (base : Heap) (k : Nat) (g : Addr) (T : Xc → List D → R) : Prop where
  ex : ∃ (x qual : Str) (pg : Arguments) (bg : List Stmt) (sg : Scope) (fd : FuncData) (N : List Str) (a : Str) (b : Xc → SF), FunD K x qual pg bg sg [] [] g fd ∧ FnScope N [a] sg ∧ Binds K fd [a] [] ∧ N[0]? = some a ∧
    (∀ x M, T x M = endE (b x (B.raw :: List.replicate (N.length - 1) B.no) M)) ∧
    ∀ (T1 : ThkP) (x : Xc) (cdv : Value) (A : Around) (outer : List Env) (s : Shared) (H : Hp) (E : XK) (p : Addr × Obj), L2H.RoomH k (A.deeper (envOfC qual sg s.heap.objs.size g cdv)) → ExP K T1 x p →
      @SSs _ T1 (L2H.cxH (L2.CX P w) P w K mg base N qual sg g cdv A outer s H E p) (wxE E) (DE K) bg (b x)
section
variable [T0 : ThkP] {X : Cx} {W : WX} {x : Xc} {p : Addr × Obj} {pn : List (Addr × Obj)} {i k : Nat} {n f : Str} {g : Addr} {T : Xc → List D → R} {p1 p2 pos : Pos}
end
section
variable [T0 : ThkP] {X : Cx} {W : WX} {DR : DRel} {body suite : List Stmt} {b₀ : Stmt} {b : SF} {ts : Xc → SF} {pos pos' p1 p2 p3 tp : Pos} {cn1 cn2 cn3 x1 x2 x3 n : Str} {i kk : Nat} {tbl : List (Str × Bool)}
end
end MP
set_option maxRecDepth 100000
set_option maxHeartbeats 1000000
namespace MP
open PySem PySem.Spec PyProof.Rows L2
theorem excC_ok {K : PySem.W.Frag} {C : Addr} (h : excCB K C = true) : L2.ExcC K C := by
  obtain ⟨h1, h⟩ := He.ba h
  obtain ⟨h2, h⟩ := He.ba h
  obtain ⟨h3, h⟩ := He.ba h
  obtain ⟨h4, h5⟩ := He.ba h
  have x := xfB_ok h1
  exact ⟨x.ga, x.gg, x.exC, x.hdC, He.eqO_ok h2, He.eqO_ok h3, of_decide_eq_true h4, of_decide_eq_true h5⟩
end MP
set_option maxRecDepth 100000
set_option maxHeartbeats 1000000
namespace MP
open PySem PySem.Spec PyProof.Rows L2
variable [TabsP] [ThkP]
section
variable {X : Cx} {W : WX} {N0 : Ent} {F H : Hp} {Ad : List Addr} {M : List D} {env : EnvM} {σ : St} {Q : VK} {k n np : Nat} {ks : List Str} {ix : List Nat} {g : Addr} {dd : List D} {c : List D → List D → R} {es : List Expr} {e : Expr} {l1 l2 : LF} {y cn : Str} {p pos kpos : Pos} {kws : List Keyword}
end
end MP
set_option maxRecDepth 100000
set_option maxHeartbeats 1000000
namespace MP
open PySem PySem.Spec PyProof.Rows L2
variable [TabsP] [ThkP]
section
variable {X : Cx} {W : WX} {K : PySem.W.Frag} {DR : DRel} {fe : EF} {i j : Nat} {pos : Pos}
end
end MP
set_option maxRecDepth 100000
set_option maxHeartbeats 2000000
namespace NeX
open PySem PySem.Spec PyProof.Rows
section
variable {M : Model} {prog : Program} {w : World} {A : Around} {E : Value → Shared → Prop} {s : Shared} {K : PySem.W.Frag} {x y C f : Addr} {ox : Obj} {od : Option Obj}
end
end NeX
namespace MP
open PySem PySem.Spec PyProof.Rows L2
variable [TabsP] [ThkP]
section
variable {X : Cx} {W : WX}
structure NeO (K : PySem.W.Frag) (cn : Str) : Prop where
  ne : PySem.W.findIn K (.ref (He.ga K cn)) "__ne__" = some (some (.builtin "object.__ne__"))
  mo : PySem.W.mroIn K (He.ga K cn) (.type "object") = some true
end
end MP
set_option maxRecDepth 100000
set_option maxHeartbeats 2000000
namespace MP
open PySem PySem.Spec PyProof.Rows L2
variable [TabsP] [ThkP]
structure XnC (K : PySem.W.Frag) (C : Addr) : Prop where
  over : ∃ (B newId initId : String) (bmB : List Value), ExcBaseFacts B newId initId bmB ∧ PySem.W.excIn K C bmB newId = true
  kC : PySem.W.keepIn K (.ref C) = true
  exC : PySem.W.subIn K (.ref C) (.type "BaseException") = some true
  tyC : PySem.W.typeIn K (.ref C) = some (.type "type")
theorem xnC_ok {K : PySem.W.Frag} {C : Addr} (h : xnCB K C = true) : XnC K C := by
  unfold xnCB at h
  simp only [Bool.and_eq_true, Bool.or_eq_true, decide_eq_true_eq] at h
  obtain ⟨h0, h1, h2, h3⟩ := h
  refine ⟨?_, h1, h2, isTyp_ok h3⟩
  rcases h0 with a | a | a
  · exact ⟨_, _, _, _, PySem.F.excBase_ValueError, a⟩
  · exact ⟨_, _, _, _, PySem.F.excBase_LookupError, a⟩
  · exact ⟨_, _, _, _, PySem.F.excBase_ArithmeticError, a⟩
section
variable {X : Cx} {W : WX} {DR : DRel} {cn y : Str} {p p2 pos : Pos}
end
end MP
namespace MP
open PySem PySem.Spec PyProof.Rows L2
variable [TabsP]
section
variable [T0 : ThkP] {X : Cx} {W : WX} {DR : DRel} {body : List Stmt} {b : SF} {fe : Xc → EF} {e : Expr} {pos pos' np pz ps : Pos} {cn y n z : Str} {i j : Nat} {tbl : List (Str × Bool)}
end
end MP
set_option maxRecDepth 100000
set_option maxHeartbeats 1000000
namespace MP
open PySem PySem.Spec PyProof.Rows L2
variable [TabsP] [ThkP]
section
variable {X : Cx} {W : WX} {K : PySem.W.Frag} {F H : Hp} {Ad : List Addr} {M : List D} {i : Nat}
end
end MP
set_option maxRecDepth 100000
set_option maxHeartbeats 2000000
namespace CaX
open PySem PySem.Spec PyProof.Rows L2
section
variable {X : Cx} {x1 x2 : Str} {c1 c2 : Value} {kk : Nat} {body suite : List Stmt} {b₀ : Stmt} {p1 p2 tp pos pos' : Pos} {tb : WX → TS} {ts : Addr → Value → Option Addr → TS} {Wout : WX}
end
end CaX
namespace MP
open PySem PySem.Spec PyProof.Rows L2
variable [TabsP]
section
variable [T0 : ThkP] {X : Cx} {W : WX} {DR : DRel} {body suite : List Stmt} {b₀ : Stmt} {b ts : SF} {pos pos' p1 p2 tp : Pos} {cn1 cn2 x1 x2 : Str} {kk : Nat} {tbl : List (Str × Bool)}
end
end MP
set_option maxRecDepth 100000
set_option maxHeartbeats 2000000
namespace MP
open PySem PySem.Spec PyProof.Rows L2
variable [TabsP]
section
variable [T0 : ThkP] {X : Cx} {W : WX} {K : PySem.W.Frag} {x : Xc} {p : Addr × Obj} {pn : List (Addr × Obj)} {i kk : Nat} {n y1 y2 cn1 cn2 f : Str} {tbl1 tbl2 : List (Str × Bool)} {p1 p2 p3 p4 p5 pos : Pos}
end
end MP
set_option maxRecDepth 100000
set_option maxHeartbeats 1000000
namespace MP
open PySem PySem.Spec PyProof.Rows L2
variable [TabsP] [ThkP]
section
variable {X : Cx}
end
end MP
set_option maxRecDepth 100000
set_option maxHeartbeats 1000000
namespace MP
open PySem PySem.Spec PyProof.Rows L2
structure TbF (K : PySem.W.Frag) (w : World) (x : Str) (vs : List (Str × He.Dv)) : Prop where
  ky : He.dicW K (He.ga K x) = some (He.keysIn w.params (vs.map (·.1)))
  vl : He.valsB K (He.ga K x) vs = true
theorem TbF.ok {K : PySem.W.Frag} {w : World} {x : Str} {vs : List (Str × He.Dv)} (t : TbF K w x vs) : TbOk K w x vs := ⟨He.dicW_ok t.ky, t.vl⟩
theorem keys_miss {P : Params} {z : Str} : ∀ {l : List DictEntry} {ks : List Str}, l.map He.keyOf = He.keysIn P ks → z ∉ ks → l.find? (·.key.isStr z) = none ∧ l.any (·.refKey) = false
  | [], _, _, _ => ⟨rfl, rfl⟩
  | e :: r, [], h, _ => by cases h
  | e :: r, k :: ks, h, hz => by
    have h1 : He.keyOf e :: r.map He.keyOf = some (k, PyData.keyHash P k) :: He.keysIn P ks := h
    injection h1 with h2 h3
    obtain ⟨i1, i2⟩ := keys_miss h3 fun q => hz (List.mem_cons_of_mem _ q)
    unfold He.keyOf at h2
    split at h2
    · rename_i y t q
      have h4 := Option.some.inj h2
      obtain ⟨h5, h6⟩ := Prod.mk.inj h4
      have ne : e.key.isStr z = false := by
        rw [q]
        show (y == z) = false
        rw [h5]
        exact beq_eq_false_iff_ne.mpr fun w => hz (by rw [w]; simp)
      have nr : e.refKey = false := by
        unfold DictEntry.refKey
        rw [q]
      refine ⟨?_, ?_⟩
      · rw [List.find?_cons, ne]; exact i1
      · rw [List.any_cons, nr, i2]; rfl
    · cases h2
theorem TbF.miss {K : PySem.W.Frag} {w : World} {x z : Str} {vs : List (Str × He.Dv)} (t : TbF K w x vs) (h : vs.find? (fun q => decide (q.1 = z)) = none) : PySem.W.nsIn K (He.ga K x) z = some none := by
  have hz : z ∉ vs.map (·.1) := fun hm => by
    obtain ⟨q, hq, e⟩ := List.mem_map.mp hm
    have := List.find?_eq_none.mp h q hq
    exact this (decide_eq_true e)
  have k := t.ky
  unfold He.dicW at k
  unfold PySem.W.nsIn
  split at k
  · rename_i c es n sl q
    rw [q]
    split at k
    · obtain ⟨i1, i2⟩ := keys_miss (Option.some.inj k) hz
      dsimp only
      rw [i1]
      dsimp only
      rw [i2]
      rfl
    · cases k
  · cases k
variable [TabsP] [ThkP]
section
variable {X : Cx} {W : WX} {K : PySem.W.Frag} {DR : DRel} {N0 : Ent} {F H : Hp} {Ad : List Addr} {M : List D} {env : EnvM} {σ : St} {Q : VK} {e o tg : Expr} {es : List Expr} {f fo fe : EF} {l : LF} {pos p apos cpos : Pos} {k n : Nat} {g : Addr} {dd : List D} {c : List D → List D → R}
end
end MP
set_option maxRecDepth 100000
set_option maxHeartbeats 1000000
namespace MP
open PySem PySem.Spec PyProof.Rows L2
variable [TabsP] [ThkP]
section
variable {X : Cx} {W : WX} {DR : DRel} {k n : Nat} {g : Addr} {dd : List D} {c : List D → List D → R} {y : Str} {p pos : Pos}
theorem s_call0 (dr : DRok DR) (Fk : FnX X DR k n g dd c) (hr : Room k X.A) (hx : Pas X W) (hg : Gl X y) (hm : X.mg y = some (.ref g)) (hdb : (y == ("__debug__" : Str)) = false := by decide) :
    PE X (.Call (.Name y p) [] [] pos) (tG X.K W DR (eCall (apC c n dd) lNil)) := by
  refine ⟨fun pins s σ H Q I ⟨N0, F, Ad, M, env, m, en, r⟩ => ?_⟩
  obtain ⟨fd, ps, dvs, ws, Fo, hb, hv, hd, hk⟩ := id Fk.ex
  refine wpAny_Call_Name_kw (ld_glob I hg hm ?_ hdb)
  refine PySem.W.callWith_K0 I.kIn hk ?_
  exact run_fnK (us := []) (vs := []) (ds := []) Fk hr hx I m .nil .nil r
end
end MP
set_option maxRecDepth 100000
set_option maxHeartbeats 1000000
namespace HT
open PySem PySem.Spec PyProof PyProof.Rows L2
section
variable {prog : Program} {w : World} {A : Around} {E : Value → Shared → Prop} {s : Shared}
end
end HT
namespace L2
open PySem PySem.Spec PyProof.Rows
section
variable {X : Cx}
end
end L2
namespace MP
open PySem PySem.Spec PyProof.Rows L2
variable [TabsP] [ThkP]
section
variable {X : Cx} {W : WX} {K : PySem.W.Frag} {F : Hp} {Ad : List Addr} {a : Expr} {fa : EF} {k : Nat} {p1 p2 p3 pos : Pos}
end
end MP
set_option maxRecDepth 100000
set_option maxHeartbeats 1000000
namespace MP
open PySem PySem.Spec PyProof.Rows L2
variable [TabsP] [ThkP]
section
variable {X : Cx} {W : WX} {K : PySem.W.Frag} {DR : DRel} {N0 : Ent} {F H : Hp} {Ad : List Addr} {M : List D} {env : EnvM} {σ : St} {Q : VK} {a b c e : Expr} {f fa fb fc : EF} {pos p : Pos}
end
end MP
set_option maxRecDepth 100000
set_option maxHeartbeats 1000000
namespace MP
open PySem PySem.Spec PyProof.Rows L2
variable [TabsP] [ThkP]
section
variable {X : Cx} {W : WX} {K : PySem.W.Frag} {DR : DRel} {N0 : Ent} {F H : Hp} {Ad : List Addr} {M : List D} {env : EnvM} {σ : St} {Q : VK} {pos : Pos}
end
end MP
set_option maxRecDepth 100000
set_option maxHeartbeats 400000
namespace MP
open PySem PySem.Spec PyProof.Rows L2
variable [TabsP] [ThkP]
section
variable {X : Cx} {W : WX} {K : PySem.W.Frag} {F : Hp} {Ad : List Addr} {p p4 kpos pos : Pos} {e : Expr} {l : EF}
end
end MP
set_option maxRecDepth 100000
set_option maxHeartbeats 1000000
namespace MP
open PySem PySem.Spec PyProof.Rows L2
variable [TabsP] [ThkP]
section
variable {X : Cx} {K : PySem.W.Frag} {F H : Hp} {Ad : List Addr} {M : List D}
def oInU (neg : Bool) (x y : D) (M : List D) : R := match (view M x).pd, view M y with
  | some p, .tup ys => (match D.pdL ys with
    | some qs => if SeqAt.shaped p = true ∧ SeqAt.shaped (.tuple qs) = true then .ok (.bl (if neg then !(qs.any fun z => PyData.eqv z p) else qs.any fun z => PyData.eqv z p)) M else .stuck
    | none => .stuck)
  | _, _ => .stuck
end
end MP
set_option maxRecDepth 100000
set_option maxHeartbeats 1000000
namespace MP
open PySem PySem.Spec PyProof.Rows L2
variable [TabsP] [ThkP]
section
variable {X : Cx} {kx vx tg iter : Expr} {ifs : List Expr} {scope : Scope} {own : List (Str × Nat)} {pos : Pos} {wi : TI} {g : TG} {tt : TT} {tk tv : TE}
end
section
variable {X : Cx} {W : WX} {DR : DRel} {l : LF}
end
end MP
set_option maxRecDepth 100000
set_option maxHeartbeats 1000000
namespace MP
open PySem PySem.Spec PyProof.Rows L2
variable [TabsP] [ThkP]
def eActL (i : Nat) (th : List D → List D → R) (l : LF) : EF := fun env M => match env[i]? with
  | some .raw => (l env M).bind fun ds M1 => th ds M1
  | _ => .stuck
section
variable {X : Cx} {pins : List (Addr × Obj)} {σ : St} {H0 H F : Hp} {Ad : List Addr} {s : Shared} {params : Arguments} {body : Expr} {scope : Scope} {f c : Addr} {k i : Nat} {fb : EF}
  {Ng N2 : List Str} {qg : Str} {sg : Scope} {g : Addr} {cdg : Value} {Eg : XK} {a x1 x2 : Str} {pn : List (Addr × Obj)} {xe : Value → Shared → Prop} {W : WX} {p1 p2 : Pos} {e : Expr} {es : List Expr} {l : LF}
end
section
variable {X : Cx} {pins : List (Addr × Obj)} {σ : St} {H H1 F : Hp} {Ad : List Addr} {M : List D} {s s1 : Shared} {params : Arguments} {body : Expr} {scope : Scope} {f c : Addr}
end
structure FnT2 (P : Program) (w : World) (K : PySem.W.Frag) (mg : Str → Option Value) (base : Heap) (k : Nat) (g : Addr) (T : (List D → List D → R) → List D → List D → R) : Prop where
  ex : ∃ (x qual : Str) (pg : Arguments) (bg : List Stmt) (sg : Scope) (fd : FuncData) (N : List Str) (q0 q1 a : Str) (b : (List D → List D → R) → SF), FunD K x qual pg bg sg [] [] g fd ∧ FnScope N [q0, q1, a] sg ∧ Binds K fd [q0, q1, a] [] ∧ N[2]? = some a ∧ Vis sg a ∧ (a == ("__debug__" : Str)) = false ∧ (a == ("__classdict__" : Str)) = false ∧
    (∀ th d0 d1 M, T th [d0, d1] M = endE (b th (B.shr d0 :: B.shr d1 :: B.raw :: List.replicate (N.length - 3) B.no) M)) ∧
    ∀ (T1 : ThkP) (th : List D → List D → R) (cdv : Value) (A : Around) (outer : List Env) (s : Shared) (H : Hp) (E : XK), Room k (A.deeper (envOfC qual sg s.heap.objs.size g cdv)) →
      (∀ (p1 p2 : Pos) (e : Expr) (es : List Expr) (l : LF), @SL _ T1 (cxOf (L2.CX P w) P w K mg base N qual sg g cdv A outer s H E) (wxE E) (e :: es) l →
        (∀ env, starEach (e :: es) env = (false, eval e env) :: starEach es env) → (∀ env, (backTo p2 (starEach es env)).any (·.1) = false) →
        @SE _ T1 (cxOf (L2.CX P w) P w K mg base N qual sg g cdv A outer s H E) (wxE E) (.Call (.Name a p1) (e :: es) [] p2) (eActL 2 th l)) →
      @SSs _ T1 (cxOf (L2.CX P w) P w K mg base N qual sg g cdv A outer s H E) (wxE E) (DE K) bg (b th)
section
variable {X : Cx} {W : WX} {c P g : Addr} {k : Nat} {x x1 x2 : Str} {N2 : List Str} {params : Arguments} {body : Expr} {scope : Scope} {fb f0 f1 : EF} {T : (List D → List D → R) → List D → List D → R} {p lpos pos : Pos} {e0 e1 : Expr}
end
end MP
set_option maxRecDepth 100000
set_option maxHeartbeats 1000000
namespace MP
open PySem PySem.Spec PyProof.Rows L2
variable [TabsP] [ThkP]
section
variable {X : Cx}
def oInX (neg : Bool) (x y : D) (M : List D) : R := match view M y with
  | .tup _ => oInU neg x y M
  | _ => oInD neg x y M
@[simp] theorem oInX_tup {neg : Bool} {x : D} {ys M : List D} : oInX neg x (.tup ys) M = oInU neg x (.tup ys) M := rfl
@[simp] theorem oInX_lst {neg : Bool} {x : D} {ys M : List D} : oInX neg x (.lst ys) M = oInD neg x (.lst ys) M := rfl
end
end MP
set_option maxRecDepth 100000
set_option maxHeartbeats 1000000
namespace MP
open PySem PySem.Spec PyProof.Rows L2
variable [TabsP] [ThkP]
end MP
set_option maxRecDepth 100000
set_option maxHeartbeats 1000000
namespace MP
open PySem PySem.Spec PyProof.Rows L2
variable [TabsP] [ThkP]
section
variable {X : Cx} {K : PySem.W.Frag} {F H : Hp} {Ad : List Addr} {M : List D}
end
end MP
set_option maxRecDepth 100000
set_option maxHeartbeats 1000000
namespace MP
open PySem PySem.Spec PyProof.Rows L2
variable [TabsP] [ThkP]
section
variable {X : Cx} {W : WX} {K : PySem.W.Frag} {DR : DRel} {N0 : Ent} {F H : Hp} {Ad : List Addr} {M : List D} {env : EnvM} {σ : St} {Q : VK} {a b c e : Expr} {f fa fb fc : EF} {pos p : Pos}
end
end MP
set_option maxRecDepth 100000
set_option maxHeartbeats 1000000
namespace MP
open PySem PySem.Spec PyProof.Rows L2
variable [TabsP] [ThkP]
def oEqL0 (x y : D) (M : List D) : R := match view M x, view M y with
  | .lst xs, .lst [] => .ok (.bl xs.isEmpty) M
  | _, _ => .stuck
section
variable {X : Cx}
@[simp] theorem oEqL0_lst {xs M : List D} : oEqL0 (.lst xs) (.lst []) M = .ok (.bl xs.isEmpty) M := rfl
end
end MP
set_option maxRecDepth 100000
set_option maxHeartbeats 1000000
namespace MP
open PySem PySem.Spec PyProof.Rows L2
variable [TabsP] [ThkP]
def oNeL0 (x y : D) (M : List D) : R := match view M x, view M y with
  | .lst xs, .lst [] => .ok (.bl !xs.isEmpty) M
  | _, _ => .stuck
section
variable {X : Cx}
@[simp] theorem oNeL0_lst {xs M : List D} : oNeL0 (.lst xs) (.lst []) M = .ok (.bl !xs.isEmpty) M := rfl
end
end MP
set_option maxRecDepth 100000
set_option maxHeartbeats 4000000
namespace PySem.W
open PySem PySem.Spec PySem.Calls PyProof.Rows
end PySem.W
namespace CaX
open PySem PySem.Spec PyProof.Rows L2
inductive TestX (X : Cx) : Expr → List Value → Prop
  | one {x : Str} {c : Value} {np : Pos} (hc : Names X x c) : TestX X (.Name x np) [c]
  | five {x1 x2 x3 x4 x5 : Str} {c1 c2 c3 c4 c5 : Value} {p1 p2 p3 p4 p5 tp : Pos} {kk : Nat} (n1 : Names X x1 c1) (n2 : Names X x2 c2) (n3 : Names X x3 c3) (n4 : Names X x4 c4) (n5 : Names X x5 c5) :
      TestX X (.Tuple [.Name x1 p1, .Name x2 p2, .Name x3 p3, .Name x4 p4, .Name x5 p5] kk tp) [c1, c2, c3, c4, c5]
inductive HdsA (X : Cx) (n : Str) : List ExceptHandler → List (List Value × (Addr → Value → Option Addr → TS)) → Prop
  | nil : HdsA X n [] []
  | cons {e : Expr} {cs : List Value} {ts : Addr → Value → Option Addr → TS} {b₀ : Stmt} {suite : List Stmt} {pos' : Pos} {hds : List ExceptHandler} {l : List (List Value × (Addr → Value → Option Addr → TS))} (ht : TestX X e cs)
      (hsu : ∀ (a : Addr) (oe : Obj) (cls : Value) (d : Option Addr) (pn : List (Addr × Obj)), Zc cls d oe → (∃ vs, oe.data = .fields vs) → PSs (X.suite a ((a, oe) :: pn)) (b₀ :: suite) (ts a cls d)) (r : HdsA X n hds l) :
      HdsA X n (.ExceptHandler (some e) (some n) (b₀ :: suite) pos' :: hds) ((cs, ts) :: l)
section
variable {X : Cx} {n : Str} {i : Nat} {body : List Stmt} {h₀ : ExceptHandler} {hds : List ExceptHandler} {l : List (List Value × (Addr → Value → Option Addr → TS))} {pos : Pos} {tb : WX → TS} {Wout : WX}
end
end CaX
namespace MP
open PySem PySem.Spec PyProof.Rows L2
variable [TabsP]
def ExmTN (K : PySem.W.Frag) (cs : List Str) (tbl : List (Str × Bool)) : Prop := ∀ c b, tbl.lookup c = some b → PySem.W.exmAny K (.ref (He.ga K c)) (cs.map fun c => .ref (He.ga K c)) = some b
inductive HdsM [T0 : ThkP] (X : Cx) (n : Str) (i j : Nat) (z : Str) : List ExceptHandler → List (List (Str × Bool) × (Xc → EF)) → Prop
  | nil : HdsM X n i j z [] []
  | cons {e te : Expr} {cs : List Str} {tbl : List (Str × Bool)} {fe : Xc → EF} {pz ps pos' : Pos} {hds : List ExceptHandler} {l : List (List (Str × Bool) × (Xc → EF))} (ht : CaX.TestX X te (cs.map fun c => .ref (He.ga X.K c))) (hx : ExmTN X.K cs tbl)
      (hsu : ∀ (T2 : ThkP) (x : Xc) (a : Addr) (oe : Obj) (pn : List (Addr × Obj)), ExP X.K T2 x (a, oe) → tbl.lookup x.c = some true → @SE _ T2 (X.suite a ((a, oe) :: pn)) WN e (fe x))
      (hsw : swapsWith e (some (.Name z pz)) ps.line X.env = pure false) (r : HdsM X n i j z hds l) :
      HdsM X n i j z (.ExceptHandler (some te) (some n) [.Assign [.Name z pz] e ps] pos' :: hds) ((tbl, fe) :: l)
section
variable [T0 : ThkP] {X : Cx} {W : WX} {DR : DRel} {body : List Stmt} {b : SF} {h₀ : ExceptHandler} {hds : List ExceptHandler} {l : List (List (Str × Bool) × (Xc → EF))} {pos : Pos} {n z : Str} {i j : Nat}
end
end MP
set_option maxRecDepth 100000
set_option maxHeartbeats 2000000
namespace MP
open PySem PySem.Spec PyProof.Rows L2
variable [TabsP] [ThkP]
section
variable {X : Cx} {W : WX} {K : PySem.W.Frag} {F H : Hp} {Ad : List Addr} {M : List D} {i : Nat} {n : Str} {e : Expr} {fe : EF} {apos cpos p2 : Pos}
end
end MP
set_option maxRecDepth 100000
set_option maxHeartbeats 2000000
namespace MP
open PySem PySem.Spec PyProof.Rows L2
variable [TabsP] [ThkP]
def flP : D → Option PyData
  | .non => some .none | .bl b => some (.bool b) | .int i => some (.int i) | .str s => some (.str s) | _ => none
def keyP : Key → PyData
  | .inl i => .int i
  | .inr x => .str x
def kvP : List (Key × D) → Option (List (PyData × PyData))
  | [] => some []
  | (k, d) :: r => match flP d, kvP r with | some p, some ps => some ((keyP k, p) :: ps) | _, _ => none
theorem kvP_depth : ∀ {ds : List (Key × D)} {ps : List (PyData × PyData)}, kvP ds = some ps → PyData.depthKv ps = 0
  | [], _, e => by cases e; rfl
  | (k, d) :: ds, _, e => by
    unfold kvP at e
    split at e
    · rename_i p ps e1 e2
      cases e
      have h1 : PyData.depth p = 0 := by
        cases d <;> first | (cases e1; rfl) | cases e1
      have h2 : PyData.depth (keyP k) = 0 := by cases k <;> rfl
      show max (max (PyData.depth (keyP k)) (PyData.depth p)) (PyData.depthKv ps) = 0
      rw [h1, h2, kvP_depth e2]; rfl
    · cases e
def bReprK (ds : List D) (M : List D) : R := match ds with
  | [d] => (match view M d with
    | .dK kvs => (match kvP kvs with
      | some ps => if (PyData.showable (.dict ps) && decide ((PyData.shown (.dict ps)).length ≤ sizeLine)) = true then .ok (.str (PyData.shown (.dict ps))) M else .stuck
      | none => .stuck)
    | _ => bReprA [d] M)
  | _ => .stuck
section
variable {K : PySem.W.Frag} {F : Hp} {Ad : List Addr} {h : Heap} {P : Program} {w : World}
theorem flP_reads {d : D} {v : V} {u : Value} {p : PyData} (x : Den K F Ad v d) (r : RelV v u) (e : flP d = some p) : Reads h u p [] := by
  cases d with
  | non => cases e; cases x; obtain rfl : u = Value.none := r; exact .none
  | bl b => cases e; cases x; obtain rfl : u = Value.bool b := r; exact .bool b
  | int i => cases e; cases x; obtain ⟨t, rfl⟩ := (show ∃ t, u = Value.int i t from r); exact .int i t
  | str s => cases e; cases x; obtain ⟨t, rfl⟩ := (show ∃ t, u = Value.str s t from r); exact .str s t
  | _ => cases e
theorem kv_reads : ∀ {es : List DictEntry} {ws : List (Key × Value)} {vs : List (Key × V)} {ds : List (Key × D)} {ps : List (PyData × PyData)}, Pairs (mixKind P w) es ws → KV vs ws → DenK K F Ad vs ds → kvP ds = some ps →
    ReadsAll h (es.map (·.key)) (ps.map (·.1)) [] ∧ ReadsAll h (es.map (·.val)) (ps.map (·.2)) []
  | [], _, _, _, _, .nil, .nil, .nil, e => by cases e; exact ⟨.nil, .nil⟩
  | en :: es, _, _, _, _, .cons k1 k2 k3, .cons r1 r2, .cons x1 x2, e => by
    unfold kvP at e
    split at e
    · rename_i p ps e1 e2
      cases e
      obtain ⟨i1, i2⟩ := kv_reads k3 r2 x2 e2
      obtain ⟨ke, rv⟩ := r1
      refine ⟨?_, ?_⟩
      · refine .cons (as := []) (bs := []) ?_ i1
        rename_i kv _ k _ _ d _ _ _
        show Reads h en.key (keyP k) []
        have ke : k = kv.1 := ke
        rw [ke]
        rcases keyIs_shape k1 with ⟨i, t, q1, q2⟩ | ⟨x, t, q1, q2⟩
        · rw [q1, q2]; exact .int i t
        · rw [q1, q2]; exact .str x t
      · refine .cons (as := []) (bs := []) ?_ i2
        show Reads h en.val p []
        rw [k2]
        exact flP_reads x1 rv e1
    · cases e
end
theorem call_reprKU {X : Cx} (gd : X.A.guards = some []) (hu : X.A.units + 64 < cLine) : CallS X (DE X.K) (.builtin "repr") bReprK := by
  intro pins s σ H F Ad M E xs us ds Q I m rv x r
  unfold bReprK at r
  split at r
  · rename_i d
    obtain ⟨v, rfl, hx⟩ := x.one
    have ax := DB.view m hx
    split at r
    · rename_i kvs e
      rw [e] at ax
      split at r
      · rename_i ps ep
        split at r
        · rename_i ho
          rw [Bool.and_eq_true, decide_eq_true_eq] at ho
          obtain ⟨a, vs, rfl, h1, h2⟩ := ax.dK m
          obtain ⟨u, rfl, ru⟩ := vals1 rv
          obtain rfl : u = Value.ref a := ru
          obtain ⟨hz, hsm, ws, r1, o, es, epp, g1, g2, g3, g4, g5, g6⟩ := dk_rd I.hok h1
          obtain ⟨q1, q2⟩ := kv_reads (h := s.heap) g5 r1 h2 ep
          have rd : Reads s.heap (.ref a) (.dict ps) (a :: [] ++ []) := .dict g1 g2.1 g3 q1 q2
          refine repr_of_reads' rd ho.1 (fun _ hm => ?_) gd ?_ (fun _ _ e => e) (fun h' tk tk' hk => ?_) ho.2
          · have : sysModules = a := by simpa using hm
            rw [this] at hsm
            simp at hsm
          · have : PyData.depth (.dict ps) = 1 := by
              show PyData.depthKv ps + 1 = 1
              rw [kvP_depth ep]
            omega
          · exact ⟨.str _, H, I.kept hk, ⟨_, rfl⟩, RP.here r m .str⟩
        · exact r.elim
      · exact r.elim
    · exact call_reprAU gd hu pins s σ H F Ad M E [v] us [d] Q I m rv x r
  · exact r.elim
theorem call_reprK {X : Cx} {k : Nat} (hr : MP.Room k X.A) : CallS X (DE X.K) (.builtin "repr") bReprK := call_reprKU hr.gd hr.units
end MP
set_option maxRecDepth 100000
set_option maxHeartbeats 2000000
namespace NeX
open PySem PySem.Spec PyProof.Rows
section
variable {M : Model} {prog : Program} {w : World} {A : Around} {E : Value → Shared → Prop} {s : Shared} {K : PySem.W.Frag} {x C f : Addr} {b tb : Value} {ox : Obj} {od : Option Obj}
end
end NeX
namespace MP
open PySem PySem.Spec PyProof.Rows L2
variable [TabsP] [ThkP]
section
variable {X : Cx} {W : WX} {K : PySem.W.Frag} {DR : DRel} {N0 : Ent} {F H : Hp} {Ad : List Addr} {M : List D} {env : EnvM} {σ : St} {Q : VK} {pos p apos : Pos} {k n : Nat} {g : Addr} {dd : List D} {c : List D → List D → R} {ks : List Str} {ix : List Nat} {kws : List Keyword} {l2 : LF}
end
end MP
set_option maxRecDepth 100000
set_option maxHeartbeats 1000000
namespace MP
open PySem PySem.Spec PyProof.Rows L2
variable [TabsP] [ThkP]
section
variable {X : Cx} {W : WX} {K : PySem.W.Frag} {DR : DRel} {N0 : Ent} {F H : Hp} {Ad : List Addr} {M : List D} {env : EnvM} {σ : St} {Q : VK} {a b c d : Expr} {fa fb fc fd : EF} {pos : Pos}
end
end MP
set_option maxRecDepth 100000
set_option maxHeartbeats 1000000
namespace MP
open PySem PySem.Spec PyProof.Rows L2
variable [TabsP] [ThkP]
end MP
set_option maxRecDepth 100000
set_option maxHeartbeats 1000000
namespace MP
open PySem PySem.Spec PyProof.Rows L2
variable [TabsP] [ThkP]
section
variable {X : Cx} {W : WX} {DR : DRel} {K : PySem.W.Frag} {F H : Hp} {Ad : List Addr} {M : List D} {pos : Pos} {e : Expr} {f : EF}
end
end MP
set_option maxRecDepth 100000
set_option maxHeartbeats 1000000
namespace MP
open PySem PySem.Spec PyProof.Rows L2
variable [TabsP] [ThkP]
end MP
set_option maxRecDepth 100000
set_option maxHeartbeats 1000000
namespace MP
open PySem PySem.Spec PyProof.Rows L2
variable [TabsP] [ThkP]
section
variable {X : Cx} {tg : Expr} {p pos : Pos}
end
section
variable {X : Cx} {W : WX} {a b : Expr} {f g : EF} {cpos pos p p2 : Pos}
end
end MP
set_option maxRecDepth 100000
set_option maxHeartbeats 1000000
namespace MP
open PySem PySem.Spec PyProof.Rows L2
variable [TabsP] [ThkP]
inductive TK (H : Hp) : List (V × V) → List (List Key × V) → Prop
  | nil : TK H [] []
  | cons {c : Addr} {ks : List Key} {z : V} {ps : List (V × V)} {kvs : List (List Key × V)} (h : H c = some (.tup (ks.map kV))) (r : TK H ps kvs) : TK H ((.ref c, z) :: ps) ((ks, z) :: kvs)
end MP
set_option maxRecDepth 100000
set_option maxHeartbeats 4000000
namespace MP
open PySem PySem.Spec PyProof.Rows L2
variable [TabsP] [ThkP]
def flatV : List (V × V) → List V
  | [] => []
  | p :: r => p.1 :: p.2 :: flatV r
structure SPr (X : Cx) (W : WX) (pos : Pos) (keys : List (Option Expr)) (values : List Expr) (l : LF) : Prop where
  run : ∃ trs, PPs X pos keys values trs ∧ ∀ σ H (Q : List (V × V) → Hp → Prop), tL X.K W (DLE X.K) l σ H (fun vs H1 => ∀ ps, vs = flatV ps → Q ps H1) → tPairs trs σ H Q
section
variable {X : Cx} {W : WX} {pos : Pos} {k v : Expr} {ks : List (Option Expr)} {vs : List Expr} {fk fv : EF} {l : LF}
end
section
variable {X : Cx} {W : WX} {pos : Pos} {keys : List (Option Expr)} {values : List Expr} {l : LF}
end
end MP
set_option maxRecDepth 100000
set_option maxHeartbeats 4000000
namespace MP
open PySem PySem.Spec PyProof.Rows L2
section
variable {P : Program} {w : World} {A : Around} {E : Value → Shared → Prop} {s : Shared}
end
def insU (x : Int) : List Int → List Int
  | [] => [x]
  | y :: l => if x < y then x :: y :: l else if x = y then y :: l else y :: insU x l
def setSort (ns : List Int) : List Int := ns.foldr insU []
def rSetL (w : World) : List V → Hp → VK → Prop := fun xs H Q => ∃ (l : Addr) (ns : List Int), xs = [V.ref l] ∧ H l = some (.lst (ns.map V.int)) ∧ ns.length ≤ 4000 ∧ ∀ p c, H p = none → c ≤ (setSort ns).length → Q (.ref p) (upd H p (SetO w p (fun j => decide (j ∈ ns)) c))
section
variable [TabsP] [ThkP] {X : Cx} {W : WX} {e : Expr} {f : EF} {cpos pos p p2 : Pos}
end
end MP
set_option maxRecDepth 100000
set_option maxHeartbeats 4000000
namespace MP
open PySem PySem.Spec PyProof.Rows L2
variable [TabsP] [ThkP]
section
variable {P : Program} {w : World} {K : Type} [DecidableEq K] {knd : KeyKind P w K} {A : Around} {E : Value → Shared → Prop} {s : Shared} {p o : Addr} {kvs more : List (K × Value)} {k : K} {key v : Value}
end
end MP
set_option maxRecDepth 100000
set_option maxHeartbeats 4000000
namespace MP
open PySem PySem.Spec PyProof.Rows L2
theorem DenK.keys {K : PySem.W.Frag} {F : Hp} {Ad : List Addr} : ∀ {vs ds}, DenK K F Ad vs ds → vs.map (·.1) = ds.map (·.1)
  | _, _, .nil => rfl
  | _, _, .cons _ r => by rw [List.map_cons, List.map_cons, DenK.keys r]
section
variable [TabsP] [ThkP] {X : Cx} {W : WX} {em k e : Expr} {fm fk fv : EF} {pos : Pos}
end
end MP
set_option maxRecDepth 100000
set_option maxHeartbeats 4000000
namespace MP
open PySem PySem.Spec PyProof.Rows L2
variable [TabsP] [ThkP]
section
variable {X : Cx} {W : WX} {K : PySem.W.Frag} {N0 : Ent} {F F1 H H1 : Hp} {Ad Ad1 : List Addr} {M : List D} {env : EnvM} {σ : St} {e : Expr} {f : EF}
end
end MP
set_option maxRecDepth 100000
set_option maxHeartbeats 4000000
namespace MP
open PySem PySem.Spec PyProof.Rows L2
section
variable {P : Program} {w : World} {A : Around} {E : Value → Shared → Prop} {s : Shared} {K : Type} [DecidableEq K] {knd : KeyKind P w K}
end
section
variable [TabsP] [ThkP] {X : Cx} {W : WX}
def oEqD0 (x y : D) (M : List D) : R := match view M x, view M y with
  | .dK kvs, .dK [] => .ok (.bl kvs.isEmpty) M
  | _, _ => .stuck
@[simp] theorem oEqD0_dK {kvs M} : oEqD0 (.dK kvs) (.dK []) M = .ok (.bl kvs.isEmpty) M := rfl
end
end MP
namespace NeX
open PySem PySem.Spec PyProof.Rows
section
variable {M : Model} {prog : Program} {w : World} {A : Around} {E : Value → Shared → Prop} {s : Shared} {K : PySem.W.Frag} {x y C : Addr} {ox oy : Obj} {od od' : Option Obj}
end
end NeX
set_option maxRecDepth 100000
set_option maxHeartbeats 4000000
namespace NeX
open PySem PySem.Spec PyProof.Rows
section
variable {M : Model} {prog : Program} {w : World} {A : Around} {E : Value → Shared → Prop} {s : Shared} {K : PySem.W.Frag} {x y C : Addr} {ox oy : Obj} {od od' : Option Obj}
end
end NeX
namespace MP
open PySem PySem.Spec PyProof.Rows L2
variable [TabsP] [ThkP]
section
variable {X : Cx} {W : WX}
structure EqO (K : PySem.W.Frag) (cn : Str) : Prop where
  eq : PySem.W.findIn K (.ref (He.ga K cn)) "__eq__" = some (some (.builtin "object.__eq__"))
  mo : PySem.W.mroIn K (He.ga K cn) (.type "object") = some true
theorem eqO_ok {K : PySem.W.Frag} {c : Str} (h : (Fm.eqO c).ok K = true) : EqO K c := by
  obtain ⟨h1, h2⟩ := He.ba h
  exact ⟨He.eqO_ok h1, of_decide_eq_true h2⟩
end
end MP
set_option maxRecDepth 100000
set_option maxHeartbeats 4000000
namespace MP
open PySem PySem.Spec PyProof.Rows L2
variable [TabsP] [ThkP]
section
variable {X : Cx} {W : WX} {e e2' : Expr} {f g : EF} {p apos cpos : Pos}
end
end MP
set_option maxRecDepth 100000
set_option maxHeartbeats 1000000
namespace MP
open PySem PySem.Spec PyProof.Rows L2
section
variable [TabsP] {fa : List He.Fa} {fm : List Fm} {fn : List DefM} {ts : List Tb} {fs : List Str} {w : World} {K : PySem.W.Frag} {mg : Str → Option Value} {base : Heap}
end
variable [TabsP] [ThkP]
section
variable {X : Cx} {W : WX} {k n : Nat} {g : Addr} {dd : List D} {c : List D → List D → R} {y : Str} {p pos : Pos}
end
end MP
set_option maxRecDepth 100000
set_option maxHeartbeats 1000000
namespace MP
open PySem PySem.Spec PyProof.Rows L2
variable [TabsP] [ThkP]
section
variable {X : Cx}
end
end MP
set_option maxRecDepth 100000
set_option maxHeartbeats 1000000
namespace MP
open PySem PySem.Spec PyProof.Rows L2
variable [TabsP] [ThkP]
section
variable {X : Cx}
end
end MP
set_option maxRecDepth 100000
set_option maxHeartbeats 1000000
namespace MP
open PySem PySem.Spec PyProof.Rows L2
variable [TabsP] [ThkP]
mutual
def toPyE : D → Option PyData
  | .non => some .none
  | .bl b => some (.bool b)
  | .int i => some (.int i)
  | .str x => some (.str x)
  | .tup xs => (match toPyEL xs with
    | some ps => some (.tuple ps)
    | none => none)
  | .dK [] => some (.dict [])
  | _ => none
def toPyEL : List D → Option (List PyData)
  | [] => some []
  | d :: ds => (match toPyE d, toPyEL ds with
    | some p, some ps => some (p :: ps)
    | _, _ => none)
end
section
variable {X : Cx} {pins : List (Addr × Obj)} {σ : St} {H F : Hp} {Ad : List Addr} {M : List D} {s : Shared}
mutual
theorem readsE_of (I : Inv X pins σ H s) (m : MemOk X.K F Ad M H) : ∀ (d : D) {v : V} {u : Value} {p : PyData}, Den X.K F Ad v d → RelV v u → toPyE d = some p → ∃ as, Reads s.heap u p as ∧ sysModules ∉ as
  | .non, _, u, p, .non, r, e => by simp only [toPyE] at e; cases e; obtain rfl : u = Value.none := r; exact ⟨_, .none, by simp⟩
  | .bl b, _, u, p, .bl, r, e => by simp only [toPyE] at e; cases e; obtain rfl : u = Value.bool b := r; exact ⟨_, .bool b, by simp⟩
  | .int i, _, u, p, .int, r, e => by simp only [toPyE] at e; cases e; obtain ⟨t, rfl⟩ := (show ∃ t, u = Value.int i t from r); exact ⟨_, .int i t, by simp⟩
  | .str x, _, u, p, .str, r, e => by simp only [toPyE] at e; cases e; obtain ⟨t, rfl⟩ := (show ∃ t, u = Value.str x t from r); exact ⟨_, .str x t, by simp⟩
  | .tup xs, _, u, p, .tup (a := a) h d1, r, e => by
    obtain rfl : u = Value.ref a := r
    simp only [toPyE] at e
    split at e
    · rename_i ps ep; cases e
      obtain ⟨its, rv, ⟨o, ho, hc, n, hd⟩, _⟩ := I.tuple (sqT_sub m h.sq)
      obtain ⟨as, ra, na⟩ := readsEL_of I m xs d1 rv ep
      exact ⟨_, .tuple ho hc hd (by simpa using ra), na⟩
    · cases e
  | .dK [], v, u, p, h, r, e => by
    simp only [toPyE] at e
    cases e
    obtain ⟨a, vs, rfl, h1, h2⟩ := DV.dK m (DB.view m (H0 := H) (.inl h))
    obtain rfl : u = Value.ref a := r
    cases h2
    obtain ⟨hz, hsm, ws, r1, o, es, epp, g1, g2, g3, g4, g5, g6⟩ := dk_rd I.hok h1
    cases r1
    have l := g5.length
    have e0 : es.toList = [] := List.length_eq_zero_iff.mp (by simpa using l)
    refine ⟨a :: [] ++ [], .dict g1 g2.1 g3 (by rw [e0]; exact .nil) (by rw [e0]; exact .nil), fun hm => ?_⟩
    have : sysModules = a := by simpa using hm
    rw [this] at hsm
    simp at hsm
  | .dK (_ :: _), _, u, p, _, r, e => by simp [toPyE] at e
  | .ktp _, _, u, p, _, r, e => by simp [toPyE] at e
  | .lst _, _, u, p, _, r, e => by simp [toPyE] at e
  | .dT _, _, u, p, _, r, e => by simp [toPyE] at e
  | .ins _ _, _, u, p, _, r, e => by simp [toPyE] at e
  | .cel _, _, u, p, _, r, e => by simp [toPyE] at e
  | .cls _, _, u, p, _, r, e => by simp [toPyE] at e
  | .xo _ _, _, u, p, _, r, e => by simp [toPyE] at e
  | .scr _, _, u, p, _, r, e => by simp [toPyE] at e
theorem readsEL_of (I : Inv X pins σ H s) (m : MemOk X.K F Ad M H) : ∀ (ds : List D) {vs : List V} {us : List Value} {ps : List PyData}, DenL X.K F Ad vs ds → Vals vs us → toPyEL ds = some ps → ∃ as, ReadsAll s.heap us ps as ∧ sysModules ∉ as
  | [], _, us, ps, .nil, r, e => by simp only [toPyEL] at e; cases e; cases r; exact ⟨_, .nil, by simp⟩
  | d :: ds, _, us, ps, .cons h1 h2, r, e => by
    cases r with
    | cons r1 r2 =>
      simp only [toPyEL] at e
      split at e
      · rename_i p ps e1 e2; cases e
        obtain ⟨a1, q1, n1⟩ := readsE_of I m d h1 r1 e1
        obtain ⟨a2, q2, n2⟩ := readsEL_of I m ds h2 r2 e2
        exact ⟨_, .cons q1 q2, fun hm => (List.mem_append.mp hm).elim n1 n2⟩
      · cases e
end
end
end MP
set_option maxRecDepth 100000
set_option maxHeartbeats 1000000
namespace MP
open PySem PySem.Spec PyProof.Rows L2
variable [TabsP] [ThkP]
section
variable {X : Cx} {W : WX} {DR : DRel} {o : Expr} {fo fv : EF}
end
end MP
set_option maxRecDepth 100000
set_option maxHeartbeats 1000000
namespace MP
open PySem PySem.Spec PyProof.Rows L2
variable [TabsP] [ThkP]
section
variable {X : Cx} {p pos : Pos}
end
section
variable {X : Cx} {W : WX} {a b c : Expr} {f g k : EF} {cpos pos p p2 : Pos}
end
end MP
set_option maxRecDepth 100000
set_option maxHeartbeats 4000000
namespace MP
open PySem PySem.Spec PyProof.Rows L2
section
variable {P : Program} {w : World} {A : Around} {E : Value → Shared → Prop} {s : Shared} {K : Type} [DecidableEq K] {knd : KeyKind P w K}
end
section
variable [TabsP] [ThkP] {X : Cx} {W : WX}
def oNeD0 (x y : D) (M : List D) : R := match view M x, view M y with
  | .dK kvs, .dK [] => .ok (.bl (!kvs.isEmpty)) M
  | _, _ => .stuck
@[simp] theorem oNeD0_dK {kvs M} : oNeD0 (.dK kvs) (.dK []) M = .ok (.bl (!kvs.isEmpty)) M := rfl
end
end MP
set_option maxRecDepth 100000
set_option maxHeartbeats 1000000
namespace MP
open PySem PySem.Spec PyProof.Rows L2
variable [TabsP] [ThkP]
instance mulOkDec {x : Str} {n : Int} : Decidable (MulOk x n) := inferInstanceAs (Decidable (_ ∧ _ ∧ _))
section
variable {X : Cx}
end
end MP
set_option maxRecDepth 100000
set_option maxHeartbeats 1000000
namespace PySem
namespace XKw
open PySem.HandSPX Builtin Builtin.ObjectAttr
section
variable {M : Model} {A : Around} {E : Value → Shared → Prop} {h : Heap} {g : Array GenState} {d : Drawn} {t : Nat} {os : OsState}
variable {nm q : Str} {C N : Addr} {bs bm bmB : List Value} {hdct : Bool} {sn : List Str} {sub : List Value} {ab : Bool} {col : Option Bool} {dd : Option Addr} {k0 k1 k2 k3 k5 : Option Value} {B newId initId : String}
theorem check_new_kw (F : ExcBaseFacts B newId initId bmB) (hT : ∀ X : String, bm.contains (.type X) = bmB.contains (.type X)) {rest : List Value} {kw : List (Str × Value)} {Q : Unit → Shared → Prop}
    (hC : h.get? C = some (excClassObj nm q C N bs bm hdct sn sub ab col dd k0 k1 k2 k3 k5 newId)) (hq : Q () ⟨h, g, d, t, os⟩) : wpAny M A (checkBuiltinCall newId ⟨.ref C :: rest, kw⟩) Q E ⟨h, g, d, t, os⟩ := by
  have hcont : (Value.ref C :: bm).contains (.type B) = true := by rw [List.contains_cons, hT, F.hasB, Bool.or_true]
  have hstar := F.noStar
  simp only [checkBuiltinCall, F.newKind, F.newSplit, F.newRow]
  repeat (first | refine wpAny_loadPart_at hC ?_ | (refine wpAny_isSubtype_exc hC ?_; rw [hcont]) | refine wpAny_staticBase_exc hC ?_ | refine wpAny_madeBy_exc hC ?_ | simp only [bne_self_eq_false, Bool.false_eq_true, if_false] | wp_step)
  exact hq
end
section
variable {prog : Program} {w : World} {A : Around} {E : Value → Shared → Prop} {R : Result → Shared → Prop} {h : Heap} {g : Array GenState} {d : Drawn} {t : Nat} {os : OsState}
variable {nm q : Str} {C N : Addr} {bs bm bmB : List Value} {hdct : Bool} {sn : List Str} {sub : List Value} {ab : Bool} {col : Option Bool} {dd : Option Addr} {k0 k1 k2 k3 k5 : Option Value} {B newId initId : String}
theorem new_kw (F : ExcBaseFacts B newId initId bmB) (hT : ∀ X : String, bm.contains (.type X) = bmB.contains (.type X)) {k : Str} {u : Value}
    (hC : h.get? C = some (excClassObj nm q C N bs bm hdct sn sub ab col dd k0 k1 k2 k3 k5 newId))
    (hq : R (.ok (.ret (.ref (h.objs.size + 1)))) ⟨(h.push { cls := .type "tuple", data := .seq #[] }).push
      { cls := .ref C, data := .fields #[.ref h.objs.size, .none, .none, .none, .bool false, .none] }, g, d, t, os⟩) :
    codeAny (model prog w) A (.builtin newId ⟨[.ref C], [(k, u)]⟩) R ⟨h, g, d, t, os⟩ := by
  have hends := F.ends
  have hcB : (Value.ref C :: bm).contains (.type B) = true := by rw [List.contains_cons, hT, F.hasB, Bool.or_true]
  have hcA : (Value.ref C :: bm).contains (.type "AttributeError") = false := by rw [List.contains_cons, hT, F.noAttr]; rfl
  have hcN : (Value.ref C :: bm).contains (.type "NameError") = false := by rw [List.contains_cons, hT, F.noName]; rfl
  have hrest : ([] : List Value).length ≤ sizeLine := Nat.zero_le _
  refine codeAny_builtinAt F.entry ?_
  unfold Builtin.«BaseException.__new__»
  refine wpAt_bind ?_
  show wpAt _ _ _ (stack >>= _) _ _ _
  refine wpAt_bind (wpAt_stack fun p below => wpAt_of_wpAny ?_)
  wp_walk
  refine wpAt_of_wpAny ?_
  rw [F.owner]
  repeat (first | with_reducible refine wpAny_madeHere_exc F.canon hC ?_ | with_reducible refine wpAny_loadPart_at hC ?_ | (with_reducible refine wpAny_isSubtype_exc hC ?_; first | rw [hcB] | rw [hcA] | rw [hcN]) | wp_step)
  show R _ _
  rw [Heap.size_push]
  exact hq
theorem type_call_kw (F : ExcBaseFacts B newId initId bmB) (hT : ∀ X : String, bm.contains (.type X) = bmB.contains (.type X)) {k : Str} {u : Value} {fI : Addr} {Q : Fin → Shared → Prop}
    (hC : h.get? C = some (excClassObj nm q C N bs bm hdct sn sub ab col dd k0 k1 k2 k3 k5 newId))
    (hi : W.Looks (model prog w) h (typeLookup (.ref C) "__init__") (some (.ref fI))) (hb : ∀ self, W.Looks (model prog w) h (bindSpecial (.ref fI) self) (.ref fI, [self]))
    (hq : codeAny (model prog w) A (.call (.ref fI) ⟨[.ref (h.objs.size + 1)], [(k, u)]⟩)
      (fun r s' => match r with | .ok (.ret v) => v = .none ∧ Q (.done (.ret (.ref (h.objs.size + 1)))) s' | .ok _ => False | .error e => E e s')
      ⟨(h.push (W.kdv_tup [])).push (excO C h.objs.size), g, d, t, os⟩) :
    wpAny (model prog w) A (Builtin.«type.__call__» ⟨[.ref C], [(k, u)]⟩) Q E ⟨h, g, d, t, os⟩ := by
  repeat (first | with_reducible refine wpAny_loadPart_at hC ?_ | with_reducible refine wpAny_madeBy_exc hC ?_ | wp_step)
  refine codeAny_call_builtin_code (Code.quiet_builtin _ F.quiet) (check_new_kw F hT hC ?_)
  refine new_kw F hT hC ?_
  show wpAny _ _ _ _ _ _
  have k : ∀ b o, h.get? b = some o → ((h.push (W.kdv_tup [])).push (excO C h.objs.size)).get? b = some o := fun b o e => Heap.get?_push_of_some _ (Heap.get?_push_of_some _ e)
  have hC₁ := k _ _ hC
  have hget : ((h.push (W.kdv_tup [])).push (excO C h.objs.size)).get? (h.objs.size + 1) = some (excO C h.objs.size) := by heap_get
  have hcC : (Value.ref C :: bm).contains (.ref C) = true := by simp
  have i1 := hi.keeps k
  have b1 := (hb (.ref (h.objs.size + 1))).keeps k
  unfold isInstance
  repeat (first | with_reducible refine wpAny_loadPart_at hget ?_ | (with_reducible refine wpAny_isSubtype_exc hC₁ ?_; rw [hcC]) | wp_step)
  show wpAny _ _ (typeLookup (.ref C) _) _ _ _
  refine i1.at ?_
  refine wpAny_holding (wpAny_bind (b1.at ?_))
  refine wpAny_bind (wpAny_call (codeAny_mono hq fun r s' z => ?_))
  rcases r with e | (v | _ | _ | _) <;> first | exact z | exact z.elim | skip
  obtain ⟨rfl, z⟩ := z
  first
    | exact wpAny_pure (wpAny_pure z)
    | (wp_walk; exact z)
theorem call_kw (F : ExcBaseFacts B newId initId bmB) (hT : ∀ X : String, bm.contains (.type X) = bmB.contains (.type X)) {k : Str} {u : Value} {fI : Addr}
    (hC : h.get? C = some (excClassObj nm q C N bs bm hdct sn sub ab col dd k0 k1 k2 k3 k5 newId))
    (hi : W.Looks (model prog w) h (typeLookup (.ref C) "__init__") (some (.ref fI))) (hb : ∀ self, W.Looks (model prog w) h (bindSpecial (.ref fI) self) (.ref fI, [self]))
    (hq : codeAny (model prog w) (A.under (.builtin "type.__call__" ⟨[.ref C], [(k, u)]⟩)) (.call (.ref fI) ⟨[.ref (h.objs.size + 1)], [(k, u)]⟩) (W.InitBack (h.objs.size + 1) R)
      ⟨(h.push (W.kdv_tup [])).push (excO C h.objs.size), g, d, t, os⟩) :
    codeAny (model prog w) A (.call (.ref C) ⟨[], [(k, u)]⟩) R ⟨h, g, d, t, os⟩ := by
  have f1 := tc_lookup
  have f2 := tc_bind (.ref C)
  have hTy : (⟨h, g, d, t, os⟩ : Shared).TypeIs (.ref C) "type" := ⟨_, hC, rfl⟩
  refine codeAny_of_tree ?_
  show wpAny _ _ (callAny (.ref C) _) _ _ _
  repeat (any_goals (first | assumption | with_reducible refine wpAny_loadPart_at hC ?_ | wp_step))
  refine ⟨rfl, ?_⟩
  refine codeAny_call_builtin_at (Code.quiet_builtin _ (by decide +kernel)) entry_typeCall (wpAny_check_type_call_sub hC (type_call_kw F hT hC hi hb ?_))
  refine codeAny_mono hq fun r s' z => ?_
  rcases r with e | (v | _ | _ | _) <;> exact z
end
end XKw
end PySem
namespace MP
open PySem PySem.Spec PyProof.Rows L2
variable [TabsP] [ThkP]
structure XnQ (P : Program) (w : World) (K : PySem.W.Frag) (mg : Str → Option Value) (base : Heap) (cn f pn : Str) (g : Addr) : Prop where
  cls : XcC K (He.ga K cn) g f
  ex : ∃ (fd : FuncData) (ps : List Str), MP.FnOk P w K mg base (L2.CX P w) 1 g fd ps (spXc (He.ga K cn) f) ∧ (∀ (s : Shared) (a u : Value), K.In s.heap → BindsTo s fd ⟨[a], [(pn, u)]⟩ (ps.zip [a, u]))
section
variable {P : Program} {w : World} {K : PySem.W.Frag} {mg : Str → Option Value} {base : Heap} {qual p f cn : Str} {params : Arguments} {scope : Scope} {g : Addr} {fd : FuncData} {q1 q2 q3 q4 : Pos}
theorem xnq_of (T : XcC K (He.ga K cn) g f) (Fd : FunD K "__init__" qual params [.Assign [.Attribute (.Name "self" q1) f q2] (.Name p q3) q4] scope [] [] g fd) (S : FnScope ["self", p] ["self", p] scope)
    (h : ∀ (kV doc pm : Value) (an : Option Addr) (cdv ct a u : Value), bindArgs (PySem.W.fnOf "__init__" qual params [.Assign [.Attribute (.Name "self" q1) f q2] (.Name p q3) q4] scope .none kV doc pm an cdv ct) ⟨[a], [(p, u)]⟩ = pure ((["self", p] : List Str).zip [a, u]))
    (h1 : Vis scope "self") (h2 : Vis scope p) (d1 : (p == ("__debug__" : Str)) = false := by decide) (d2 : (p == ("__classdict__" : Str)) = false := by decide) : XnQ P w K mg base cn f p g := by
  have Fo := MP.fn_of (P := P) (w := w) (mg := mg) (base := base) (CX := L2.CX P w) (k := 0) (sp := spXc (He.ga K cn) f) Fd S (fun vs H Q E h => by obtain ⟨a, v, e, _⟩ := h; rw [e]; rfl) fun cdv A outer s H vs Q E hr hsp => by
    obtain ⟨a, v, rfl, ha, hq⟩ := hsp
    refine ⟨_, pss_one (ps_xst T (pe_var (i := 0) rfl h1 (by decide) (by decide)) (pe_var (i := 1) rfl h2 d1 d2)), ?_⟩
    exact ⟨v, rfl, .ref a, rfl, a, rfl, ha, hq⟩
  refine ⟨T, fd, ["self", p], Fo, ?_⟩
  obtain ⟨oc, od, dV, kV, doc, pm, an, cdv, ct, osl, rfl, lk, hcd, hD, hK⟩ := Fd.ex
  rcases hD with ⟨_, rfl⟩ | ⟨e, _⟩
  · exact fun s a u _ => .of_eq (h kV doc pm an cdv ct a u)
  · exact absurd rfl e
end
def xvR (cn fn : Str) (ds : List D) (M : List D) : R := match ds with
  | [d] => .ok (.xo cn [(fn, d)]) M
  | _ => .stuck
def eXv (cn fn : Str) (l : LF) : EF := fun env M => (l env M).bind (xvR cn fn)
def eXv0 (cn : Str) : EF := fun _ M => .ok (.xo cn []) M
section
variable {X : Cx} {W : WX} {K : PySem.W.Frag} {N0 : Ent} {F F1 H H1 : Hp} {Ad Ad1 : List Addr} {M : List MP.D} {env : EnvM} {σ : St} {e : Expr} {f : EF} {pos p p2 kpos : Pos} {cn fn pn y : Str} {g : Addr} {l : LF}
def tXv (C : Addr) (fn : Str) (ta : TA) : TE := fun σ H Q => ta σ H fun vs H1 => ∃ v, vs = [v] ∧ ∀ a d, H1 a = none → H1 d = none → d ≠ a → Q (.ref a) (upd (upd H1 d (exd d [(fn, v)])) a (exo a C (some d)))
theorem xv_start {pins : List (Addr × Obj)} {C : Addr} {hp : Heap} {gs : Array GenState} {dr : Drawn} {tk : Nat} {os : OsState} {us : List Value} (I1 : Inv X pins σ H1 ⟨hp, gs, dr, tk, os⟩) :
    H1 (hp.objs.size + 1) = none ∧ Inv X pins σ (upd H1 (hp.objs.size + 1) (exo (hp.objs.size + 1) C none)) ⟨(hp.push (PySem.W.kdv_tup us)).push (PySem.HandSPX.excO C hp.objs.size), gs, dr, tk, os⟩ := by
  have le : hp.objs.size ≤ hp.objs.size + 1 := Nat.le_succ _
  have k1' : ∀ b o, hp.get? b = some o → ((hp.push (PySem.W.kdv_tup us)).push (PySem.HandSPX.excO C hp.objs.size)).get? b = some o := fun b o q => Heap.get?_push_of_some _ (Heap.get?_push_of_some _ q)
  have at1 : ((hp.push (PySem.W.kdv_tup us)).push (PySem.HandSPX.excO C hp.objs.size)).get? (hp.objs.size + 1) = some (PySem.HandSPX.excO C hp.objs.size) := by heap_get
  exact ⟨I1.hok.fresh le, I1.laid (t' := tk) (a := hp.objs.size + 1) k1' le (exo_ok at1)⟩
theorem xv_sp {C a0 : Addr} {v : V} {Q : VK} (n1 : H1 a0 = none) (q1 : ∀ a d, H1 a = none → H1 d = none → d ≠ a → Q (.ref a) (upd (upd H1 d (exd d [(fn, v)])) a (exo a C (some d)))) :
    spXc C fn [.ref a0, v] (upd H1 a0 (exo a0 C none)) (fun v' H2 => v' = .non ∧ Q (.ref a0) H2) (fun _ _ _ => False) :=
  ⟨_, v, rfl, upd_same, fun d nd ne => ⟨rfl, by
    rw [upd_ne ne] at nd
    have eH : upd (upd (upd H1 a0 (exo a0 C none)) d (exd d [(fn, v)])) a0 (exo a0 C (some d)) = upd (upd H1 d (exd d [(fn, v)])) a0 (exo a0 C (some d)) := by
      funext b
      by_cases z : b = a0
      · rw [z, upd_same, upd_same]
      · rw [upd_ne z, upd_ne z]
        by_cases z2 : b = d
        · rw [z2, upd_same, upd_same]
        · rw [upd_ne z2, upd_ne z2, upd_ne z]
    rw [eH]
    exact q1 a0 d n1 nd ne⟩⟩
theorem pe_xv {ta : TA} {es : List Expr} (Xk : XnK X.prog X.w X.K X.mg X.base cn fn g) (hr : Room 2 X.A) (hg : Gl X y) (hm : X.mg y = some (.ref (He.ga X.K cn))) (ha : PA X (e :: es) ta)
    (hdb : (y == ("__debug__" : Str)) = false := by decide) (he : starEach (e :: es) X.env = (false, eval e X.env) :: starEach es X.env := by rfl) (hpl : (backTo pos (starEach es X.env)).any (·.1) = false := by rfl) :
    PE X (.Call (.Name y p) (e :: es) [] pos) (tXv (He.ga X.K cn) fn ta) := by
  refine ⟨fun pins s σ H Q I h => ?_⟩
  obtain ⟨T, fd, ps, Fo, hb⟩ := Xk
  obtain ⟨B, newId, initId, bmB, FB, SF, hi, ho⟩ := T.over
  refine wpAny_Call_Name_kw (ld_glob I hg hm ?_ hdb)
  refine PySem.W.callWith_K (h₀ := X.base) I.ok.mod.kin T.kC (thn (ha.run pos pins s σ H _ I h) fun us s1 ⟨vs, H1, I1, r1, v, ev, q1⟩ => ⟨I1.kIn, ?_⟩) he hpl
  subst ev
  show wpAny _ _ (call (.ref (He.ga X.K cn)) us) _ _ _
  obtain ⟨nm, N', qn, bs, bm, hdct, sn, sub, ab, col, dd, k0, k1, k2, k3, k5, hC, hT⟩ := PySem.W.excInit_of I1.kIn hi
  obtain ⟨hp, gs, dr, tk, os⟩ := s1
  obtain ⟨n1, J⟩ := xv_start (C := He.ga X.K cn) (us := us) I1
  have rr : Vals [V.ref (hp.objs.size + 1), v] (Value.ref (hp.objs.size + 1) :: us) := .cons rfl r1
  have sp1 := xv_sp (fn := fn) n1 q1
  have ll : (Value.ref (hp.objs.size + 1) :: us ++ []).length = ps.length := by
    rw [List.append_nil]
    exact (rr.length.symm).trans (Fo.len _ _ _ _ sp1)
  have bb := hb ⟨(hp.push (PySem.W.kdv_tup us)).push (PySem.HandSPX.excO (He.ga X.K cn) hp.objs.size), gs, dr, tk, os⟩ (Value.ref (hp.objs.size + 1) :: us) J.kIn ll
  rw [List.append_nil] at bb
  have few : us.length ≤ sizeLine := by rw [← Paired.length r1]; exact Nat.le_trans (show 1 ≤ 100 by decide) (by decide)
  refine wpAny_call (PySem.HandSPX.call_own FB hT hC (PySem.W.looks_findIn I1.kIn T.iC) (fun self => PySem.W.bind_fn I1.kIn self T.tI) few
    (codeAny_mono (Fo.run _ X.stack _ _ ⟨Value.ref (hp.objs.size + 1) :: us, []⟩ _ _ _ (fun _ _ _ => False) (hr.make (He.ga X.K cn) us []) (J.env0.make (He.ga X.K cn) us []) bb rr sp1) fun r s' q => ?_))
  cases r with
  | error er =>
    obtain ⟨_, _, _, _, _, _, _, _, _, _, _, _, z⟩ := q
    exact z.elim
  | ok fl =>
    cases fl with
    | ret u =>
      obtain ⟨v', H', J', rv, ev, q⟩ := J.after q
      subst ev
      exact ⟨rv, V.ref (hp.objs.size + 1), H', J', rfl, q⟩
    | next => exact False.elim q
    | brk => exact False.elim q
    | cont => exact False.elim q
theorem xv_end {Q : VK} {ds : List D} {vs : List V} {M1 : List D} {E : XK} (m1 : MemOk X.K F1 Ad1 M1 H1) (x1 : DenL X.K F1 Ad1 vs ds) (r1 : RP X.K E (DE X.K) F1 Ad1 H1 Q (xvR cn fn ds M1)) :
    ∃ v, vs = [v] ∧ ∀ a d, H1 a = none → H1 d = none → d ≠ a → Q (.ref a) (upd (upd H1 d (exd d [(fn, v)])) a (exo a (He.ga X.K cn) (some d))) := by
  unfold xvR at r1
  cases x1 with
  | nil => exact r1.elim
  | @cons v0 d0 _ _ x rest =>
    cases rest with
    | cons _ _ => exact r1.elim
    | nil =>
      refine ⟨_, rfl, fun a d na nd ne => ?_⟩
      have g2 := gr_new (o := exd d [(fn, v0)]) m1 nd
      have m2 := mem_new (o := exd d [(fn, v0)]) m1 nd
      have na2 : (upd H1 d (exd d [(fn, v0)])) a = none := by rw [upd_ne (Ne.symm ne)]; exact na
      have g3 := gr_new (o := exo a (He.ga X.K cn) (some d)) m2 na2
      have m3 := mem_new (o := exo a (He.ga X.K cn) (some d)) m2 na2
      have g := g2.trans g3
      exact r1 _ _ _ _ g m3 (.xo upd_same (by rw [upd_ne ne, upd_same]) (.cons (x.mono g.fle g.pre) .nil))
theorem se_xv (Xk : XnK X.prog X.w X.K X.mg X.base cn fn g) (hr : Room 2 X.A) (hg : Gl X y) (hm : X.mg y = some (.ref (He.ga X.K cn))) (ha : SL X W [e] l)
    (hdb : (y == ("__debug__" : Str)) = false := by decide) (he : starEach [e] X.env = (false, eval e X.env) :: starEach [] X.env := by rfl) (hpl : (backTo pos (starEach [] X.env)).any (·.1) = false := by rfl) :
    SE X W (.Call (.Name y p) [e] [] pos) (eXv cn fn l) :=
  PE.imp (pe_xv Xk hr hg hm ha hdb he hpl) fun σ H Q ⟨N0, F, Ad, M, env, m, en, r⟩ => tL_seq DE.ok m en r fun ds M1 vs F1 Ad1 H1 g1 m1 en1 x1 r1 => xv_end m1 x1 r1
theorem se_xvq (Xk : XnQ X.prog X.w X.K X.mg X.base cn fn pn g) (hr : Room 2 X.A) (hg : Gl X y) (hm : X.mg y = some (.ref (He.ga X.K cn))) (hkw : SK X W [⟨some pn, e, kpos⟩] l)
    (hall : (backToKw pos (keywordEach [⟨some pn, e, kpos⟩] X.env)).all (·.1.isSome) = true := by rfl) (hks : (backToKw pos (keywordEach [⟨some pn, e, kpos⟩] X.env)).filterMap (·.1) = [pn] := by rfl)
    (hdb : (y == ("__debug__" : Str)) = false := by decide)
    (hpl : ((backTo pos (starEach [] X.env)).any (·.1) || (backToKw pos (keywordEach [⟨some pn, e, kpos⟩] X.env)).any (·.1.isNone)) = false := by rfl) :
    SE X W (.Call (.Name y p) [] [⟨some pn, e, kpos⟩] pos) (eXv cn fn l) := by
  refine ⟨fun pins s σ H Q I ⟨N0, F, Ad, M, env, m, en, r⟩ => ?_⟩
  obtain ⟨T, fd, ps, Fo, hb⟩ := Xk
  obtain ⟨B, newId, initId, bmB, FB, SF, hi, ho⟩ := T.over
  refine wpAny_Call_Name_kw (ld_glob I hg hm ?_ hdb)
  refine PySem.W.callWith_KW0 (h₀ := X.base) I.ok.mod.kin T.kC hall (thn (hkw.run pos pins s σ H _ I (tL_seq (Q' := fun zs H2 => ∃ v, zs = [v] ∧ ∀ a d, H2 a = none → H2 d = none → d ≠ a → Q (.ref a) (upd (upd H2 d (exd d [(fn, v)])) a (exo a (He.ga X.K cn) (some d)))) (k := xvR cn fn) DE.ok m en r fun es M2 zs F2 Ad2 H2 g2 m2 en2 x2 r2 => xv_end m2 x2 r2))
    fun us s1 ⟨vs, H1, I1, r1, v, ev, q1⟩ => ⟨I1.kIn, ?_⟩) hpl
  subst ev
  rw [hks]
  cases r1 with
  | @cons _ u _ _ ru rr0 =>
    cases rr0
    show wpAny _ _ (call (.ref (He.ga X.K cn)) [] [(pn, u)]) _ _ _
    obtain ⟨nm, N', qn, bs, bm, hdct, sn, sub, ab, col, dd, k0, k1, k2, k3, k5, hC, hT⟩ := PySem.W.excInit_of I1.kIn hi
    obtain ⟨hp, gs, dr, tk, os⟩ := s1
    obtain ⟨n1, J⟩ := xv_start (C := He.ga X.K cn) (us := []) I1
    have rr : Vals [V.ref (hp.objs.size + 1), v] [Value.ref (hp.objs.size + 1), u] := .cons rfl (.cons ru .nil)
    have sp1 := xv_sp (fn := fn) n1 q1
    have bb := hb ⟨(hp.push (PySem.W.kdv_tup [])).push (PySem.HandSPX.excO (He.ga X.K cn) hp.objs.size), gs, dr, tk, os⟩ (Value.ref (hp.objs.size + 1)) u J.kIn
    refine wpAny_call (PySem.XKw.call_kw FB hT hC (PySem.W.looks_findIn I1.kIn T.iC) (fun self => PySem.W.bind_fn I1.kIn self T.tI)
      (codeAny_mono (Fo.run _ X.stack _ _ ⟨[Value.ref (hp.objs.size + 1)], [(pn, u)]⟩ _ _ _ (fun _ _ _ => False) (hr.make (He.ga X.K cn) [] [(pn, u)]) (J.env0.make (He.ga X.K cn) [] [(pn, u)]) bb rr sp1) fun r s' q => ?_))
    cases r with
    | error er =>
      obtain ⟨_, _, _, _, _, _, _, _, _, _, _, _, z⟩ := q
      exact z.elim
    | ok fl =>
      cases fl with
      | ret u =>
        obtain ⟨v', H', J', rv, ev, q⟩ := J.after q
        subst ev
        exact ⟨rv, V.ref (hp.objs.size + 1), H', J', rfl, q⟩
      | next => exact False.elim q
      | brk => exact False.elim q
      | cont => exact False.elim q
theorem se_xv0 (Xk : XnC X.K (He.ga X.K cn)) (hg : Gl X y) (hm : X.mg y = some (.ref (He.ga X.K cn))) (hdb : (y == ("__debug__" : Str)) = false := by decide) :
    SE X W (.Call (.Name y p) [] [] pos) (eXv0 cn) := by
  refine ⟨fun pins s σ H Q I ⟨N0, F, Ad, M, env, m, en, r⟩ => ?_⟩
  obtain ⟨B, newId, initId, bmB, FB, q⟩ := Xk.over
  refine wpAny_Call_Name_kw (ld_glob I hg hm ?_ hdb)
  refine PySem.W.callWith_K0 I.kIn Xk.kC ?_
  show wpAny _ _ (call (.ref (He.ga X.K cn)) []) _ _ _
  obtain ⟨bm, N, nm, qn, bs, hdct, sn, sub, ab, col, dd, k0, k1, k2, k3, k5, mN, hC, hN, hni, T⟩ := exc_obj I.kIn q
  refine wpAny_call_exc_subT FB T hC hN hni (fun h' a hm => ?_) (Nat.zero_le _)
  have hn : H a = none := I.hok.gone hm.new
  obtain ⟨t, ht, _, _⟩ := hm.there
  have r' : RP X.K _ (DE X.K) F Ad H Q (.ok (.xo cn []) M) := r
  exact ⟨.ref a, upd H a (exo a (He.ga X.K cn) none), I.laidN hm.keeps hm.new hn (exo_ok (d := none) ht), rfl, r' _ _ _ _ (gr_new (o := exo a (He.ga X.K cn) none) m hn) (mem_new (o := exo a (He.ga X.K cn) none) m hn) (.xo0 upd_same)⟩
def IsXU (K : PySem.W.Frag) (u : Value) (tbl : List (Str × Bool)) : Prop := ∀ c b, tbl.lookup c = some b → L2.ExcC K (He.ga K c) ∧ PySem.W.kitOne K (.ref (He.ga K c)) u = some b
def isXv (tbl : List (Str × Bool)) (d : D) (M : List D) : R := match d with
  | .xo c _ => (match tbl.lookup c with | some b => .ok (.bl b) M | none => .stuck)
  | _ => .stuck
def xfV (cs : List Str) (fn : Str) (d : D) (M : List D) : R := match d with
  | .xo c fs => if cs.contains c = true then (match fs.lookup fn with | some d => .ok d M | none => .stuck) else .stuck
  | _ => .stuck
theorem xo_inst {pins : List (Addr × Obj)} {s : Shared} {v : V} {c : Str} {fs : List (Str × D)} (I : Inv X pins σ H s) (m : MemOk X.K F Ad M H) (h : Den X.K F Ad v (.xo c fs)) : ∃ a oe od, v = .ref a ∧ PySem.W.InstAt s.heap a oe (He.ga X.K c) od ∧
    ∀ f d, fs.lookup f = some d → ∃ (v : V) (od' : Obj) (u : Value), od = some od' ∧ PySem.W.lookIn f od' = some (some u) ∧ RelV v u ∧ Den X.K F Ad v d := by
  cases h with
  | @xo a _ dx vs _ h1 h2 h3 =>
    obtain ⟨t1, ha⟩ := exo_at I.hok (m.sub _ _ h1)
    obtain ⟨mA, hns, hr⟩ := exd_at I.hok (m.sub _ _ h2)
    obtain ⟨od, ho, hl⟩ := lookIn_ns hns
    refine ⟨a, _, some od, rfl, ⟨ha, rfl, rfl, ho⟩, fun f d e => ?_⟩
    obtain ⟨v, ev, dn⟩ := h3.lookup e
    obtain ⟨u, hu, ru⟩ := RelO.some_of (v := v) (o := mA f) (by rw [← ev]; exact hr f)
    exact ⟨v, od, u, rfl, by rw [hl, hu], ru, dn⟩
  | @xo0 a _ h1 =>
    obtain ⟨t1, ha⟩ := exo_at I.hok (m.sub _ _ h1)
    exact ⟨a, _, none, rfl, ⟨ha, rfl, rfl, trivial⟩, fun f d e => (by cases e)⟩
theorem se_isXv {tbl : List (Str × Bool)} {c : Expr} {cv : V} {u : Value} (ht : IsXU X.K u tbl) (he : SE X W e f) (hc : PE X c (fun _ H Q => Q cv H)) (hcv : ∀ z, RelV cv z → z = u) (hg : Gl X "isinstance") (hm : X.mg "isinstance" = none)
    (hs1 : starEach [e, c] X.env = (false, eval e X.env) :: starEach [c] X.env := by rfl) (hs2 : starEach [c] X.env = [(false, eval c X.env)] := by rfl) (hpl : (backTo pos (starEach [c] X.env)).any (·.1) = false := by rfl) :
    SE X W (.Call (.Name "isinstance" p) [e, c] [] pos) (e1 (isXv tbl) f) := by
  refine ⟨fun pins s σ H Q I ⟨N0, F, Ad, M, env, m, en, r⟩ => ?_⟩
  have ha : PA X [e, c] (fun σ H Q => tG X.K W (DE X.K) f σ H fun x H1 => Q [x, cv] H1) := pa_cons he (pa_cons hc pa_nil hs2) hs1
  refine wpAny_Call_Name_kw (ld_blt I hg hm (show bootBuiltins "isinstance" = some (.builtin "isinstance") by decide +kernel) ?_ (by decide) (by decide))
  refine PyProof.Rows.callWith_builtin1 (thn (ha.run pos pins s σ H (fun vs H1 => ∃ F1 Ad1 M1 d v, vs = [v, cv] ∧ MemOk X.K F1 Ad1 M1 H1 ∧ Den X.K F1 Ad1 v d ∧ RP X.K (fun c d H => W c d σ H) (DE X.K) F1 Ad1 H1 Q (isXv tbl d M1)) I
    (tG_seq DE.ok m en r fun d M1 v F1 Ad1 H1 g1 m1 en1 x1 r1 => ⟨F1, Ad1, M1, d, v, rfl, m1, x1, r1⟩)) fun us s1 ⟨vs, H1, I1, rv, F1, Ad1, M1, d, v, ev, m1, x1, r1⟩ => ?_) hs1 hpl
  subst ev
  unfold isXv at r1
  split at r1
  case h_2 => exact r1.elim
  rename_i cn fs
  split at r1
  case h_2 => exact r1.elim
  rename_i b eb
  obtain ⟨ec, ek⟩ := ht _ _ eb
  obtain ⟨a, oe, od, rfl, J, _⟩ := xo_inst I1 m1 x1
  cases rv with
  | cons rx rr =>
    cases rr with
    | cons ry rr =>
      cases rr
      cases rx
      have := hcv _ ry
      subst this
      obtain ⟨cd, hc', _⟩ := PySem.W.any_some ec.hd
      exact PySem.W.kia_one (PySem.W.kitx_exc (by rw [hc']; rfl) ec.hg ec.hk ec.hs ec.ha ec.hn ec.ht ec.hm) I1.kIn J ek (fun z => nomatch z) fun tk => ⟨.bl b, H1, I1.kept (t' := tk) fun _ _ z => z, rfl, RP.here r1 m1 .bl⟩
theorem se_xfV {cs : List Str} (hcs : ∀ c ∈ cs, XfC X.K (He.ga X.K c) ∧ PySem.W.findIn X.K (.ref (He.ga X.K c)) fn = some none) (he : SE X W e f)
    (hab : attributeBase e fn X.env (eval e X.env) = eval e X.env := by rfl) : SE X W (.Attribute e fn pos) (e1 (xfV cs fn) f) := by
  refine ⟨fun pins s σ H Q I ⟨N0, F, Ad, M, env, m, en, r⟩ => ?_⟩
  refine attr_of hab (thn (he.run pins s σ H (fun v H1 => ∃ F1 Ad1 M1 d, MemOk X.K F1 Ad1 M1 H1 ∧ Den X.K F1 Ad1 v d ∧ RP X.K (fun c d H => W c d σ H) (DE X.K) F1 Ad1 H1 Q (xfV cs fn d M1)) I
    (tG_seq DE.ok m en r fun d M1 v F1 Ad1 H1 g1 m1 en1 x1 r1 => ⟨F1, Ad1, M1, d, m1, x1, r1⟩)) fun u s1 ⟨v, H1, I1, rx, F1, Ad1, M1, d, m1, x1, r1⟩ => ?_)
  unfold xfV at r1
  split at r1
  case h_2 => exact r1.elim
  rename_i cn fs
  split at r1
  case isFalse => exact r1.elim
  rename_i hc
  split at r1
  case h_2 => exact r1.elim
  rename_i dv ed
  obtain ⟨T, hno⟩ := hcs cn (by simpa using hc)
  obtain ⟨a, oe, od, rfl, J, hf⟩ := xo_inst I1 m1 x1
  obtain ⟨v, od', u', rfl, hl, ru, dn⟩ := hf fn dv ed
  obtain rfl : u = Value.ref a := rx
  exact HandSPX.exc_get I1.kIn J T.ga T.gg T.exC (PySem.W.findObj_own T.hdC hno rfl hl) (handed_of ru) ⟨v, H1, I1.tok _, ru, RP.here r1 m1 dn⟩
end
theorem isXU_nil {K : PySem.W.Frag} {u : Value} : IsXU K u [] := fun _ _ h => nomatch h
theorem isXU_cons {K : PySem.W.Frag} {u : Value} {c : Str} {b : Bool} {tbl : List (Str × Bool)} (h1 : (Fm.excC c).ok K = true) (h2 : PySem.W.kitOne K (.ref (He.ga K c)) u = some b) (t : IsXU K u tbl) : IsXU K u ((c, b) :: tbl) := fun c' b' e => by
  rw [List.lookup_cons] at e
  split at e
  · rename_i q
    cases e
    rw [eq_of_beq q]
    exact ⟨excC_ok h1, h2⟩
  · exact t c' b' e
theorem isXU_consC {K : PySem.W.Frag} {c d : Str} {b : Bool} {tbl : List (Str × Bool)} (h1 : (Fm.excC c).ok K = true) (h2 : (Fm.kitC c d b).ok K = true) (t : IsXU K (.ref (He.ga K d)) tbl) : IsXU K (.ref (He.ga K d)) ((c, b) :: tbl) := isXU_cons h1 (of_decide_eq_true h2) t
theorem isXU_consT {K : PySem.W.Frag} {c : Str} {T : String} {b : Bool} {tbl : List (Str × Bool)} (h1 : (Fm.excC c).ok K = true) (h2 : (Fm.kit c T b).ok K = true) (t : IsXU K (.type T) tbl) : IsXU K (.type T) ((c, b) :: tbl) := isXU_cons h1 (of_decide_eq_true h2) t
theorem xfV_nil {K : PySem.W.Frag} {f : Str} : ∀ c ∈ ([] : List Str), XfC K (He.ga K c) ∧ PySem.W.findIn K (.ref (He.ga K c)) f = some none := fun _ h => nomatch h
theorem xfV_cons {K : PySem.W.Frag} {f c : Str} {cs : List Str} (h : (Fm.xf c f).ok K = true) (t : ∀ c ∈ cs, XfC K (He.ga K c) ∧ PySem.W.findIn K (.ref (He.ga K c)) f = some none) : ∀ x ∈ c :: cs, XfC K (He.ga K x) ∧ PySem.W.findIn K (.ref (He.ga K x)) f = some none := fun x hx => by
  rcases List.mem_cons.mp hx with rfl | hx
  · obtain ⟨h1, h2⟩ := He.ba h
    exact ⟨xfB_ok h1, isSN_ok h2⟩
  · exact t x hx
end MP
set_option maxRecDepth 100000
set_option maxHeartbeats 1000000
namespace HP
open PySem L2
def hauls (n : Nat) : List (Nat × Nat) := (List.range (n - 1)).flatMap fun i => (List.range (n - (i + 1))).map fun k => (i, i + 1 + k)
def leO (a b : Option Int) : Prop := ∀ y, b = some y → ∃ x, a = some x ∧ x ≤ y
theorem leO.refl (a : Option Int) : leO a a := fun y h => ⟨y, h, Int.le_refl y⟩
theorem leO.trans {a b c : Option Int} (h : leO a b) (k : leO b c) : leO a c := fun y e => by
  obtain ⟨x, e1, l1⟩ := k y e
  obtain ⟨z, e2, l2⟩ := h x e1
  exact ⟨z, e2, by omega⟩
theorem leO.anti {a b : Option Int} (h : leO a b) (k : leO b a) : a = b := by
  cases b with
  | some y =>
    obtain ⟨x, e1, l1⟩ := h y rfl
    subst e1
    obtain ⟨z, e2, l2⟩ := k x rfl
    cases e2
    congr 1; omega
  | none =>
    cases a with
    | none => rfl
    | some x => obtain ⟨z, e2, _⟩ := k x rfl; cases e2
theorem leO.none {a : Option Int} : leO a none := fun _ h => nomatch h
theorem leO.some_ {x y : Int} (h : x ≤ y) : leO (some x) (some y) := fun z e => by cases e; exact ⟨x, rfl, h⟩
def addO : Option Int → Option Int → Option Int
  | some x, some y => some (x + y)
  | _, _ => none
def minO : Option Int → Option Int → Option Int
  | none, b => b
  | a, none => a
  | some x, some y => some (min x y)
theorem minO_l {a b : Option Int} : leO (minO a b) a := fun y e => by
  subst e
  cases b with
  | none => exact ⟨y, rfl, Int.le_refl y⟩
  | some z => exact ⟨min y z, rfl, Int.min_le_left y z⟩
theorem le_minO {t a b : Option Int} (h : leO t a) (k : leO t b) : leO t (minO a b) := fun y e => by
  cases a with
  | none => exact k y e
  | some x =>
    cases b with
    | none => exact h y e
    | some z =>
      cases e
      obtain ⟨p, e1, l1⟩ := h x rfl
      obtain ⟨q, e2, l2⟩ := k z rfl
      rw [e1] at e2
      cases e2
      exact ⟨p, e1, by omega⟩
theorem addO_mono {a b c d : Option Int} (h : leO a c) (k : leO b d) : leO (addO a b) (addO c d) := fun y e => by
  cases c with
  | none => cases e
  | some x =>
    cases d with
    | none => cases e
    | some z =>
      cases e
      obtain ⟨p, e1, l1⟩ := h x rfl
      obtain ⟨q, e2, l2⟩ := k z rfl
      subst e1 e2
      exact ⟨p + q, rfl, by omega⟩
abbrev Tab := Nat → Nat → Option Int
def At (n i j : Nat) : Prop := i < j ∧ j < n
structure Keeps (w : Str) (n : Nat) (f : Tab) : Prop where
  long : w ≠ "parts" → ∀ i j k l, k ≤ i → i < j → j ≤ l → l < n → leO (f i j) (f k l)
  parts : w ≠ "long" → ∀ i j k, i < j → j < k → k < n → leO (f i k) (addO (f i j) (f j k))
def Below (n : Nat) (f g : Tab) : Prop := ∀ i j, At n i j → leO (f i j) (g i j)
structure IsCl (w : Str) (n : Nat) (g c : Tab) : Prop where
  below : Below n c g
  keeps : Keeps w n c
  top : ∀ t, Keeps w n t → Below n t g → Below n t c
theorem IsCl.self {w : Str} {n : Nat} {c : Tab} (h : Keeps w n c) : IsCl w n c c := ⟨fun _ _ _ => leO.refl _, h, fun _ _ b => b⟩
theorem IsCl.congr {w : Str} {n : Nat} {g g' c : Tab} (h : IsCl w n g c) (e : ∀ i j, At n i j → g i j = g' i j) : IsCl w n g' c :=
  ⟨fun i j v => by rw [← e i j v]; exact h.below i j v, h.keeps, fun t k b => h.top t k fun i j v => by rw [e i j v]; exact b i j v⟩
theorem Keeps.congr {w : Str} {n : Nat} {f f' : Tab} (h : Keeps w n f) (e : ∀ i j, At n i j → f i j = f' i j) : Keeps w n f' :=
  ⟨fun hw i j k l h1 h2 h3 h4 => by rw [← e i j ⟨h2, by omega⟩, ← e k l ⟨by omega, h4⟩]; exact h.long hw i j k l h1 h2 h3 h4,
   fun hw i j k h1 h2 h3 => by rw [← e i k ⟨by omega, h3⟩, ← e i j ⟨h1, by omega⟩, ← e j k ⟨h2, h3⟩]; exact h.parts hw i j k h1 h2 h3⟩
def NN (n : Nat) (g : Tab) : Prop := ∀ i j v, At n i j → g i j = some v → 0 ≤ v
theorem IsCl.nn {w : Str} {n : Nat} {g c : Tab} (h : IsCl w n g c) (hg : NN n g) : NN n c := fun i j v a e => by
  have k0 : Keeps w n (fun _ _ => some 0) := ⟨fun _ _ _ _ _ _ _ _ _ => leO.refl _, fun _ _ _ _ _ _ _ => leO.refl _⟩
  obtain ⟨x, e1, l1⟩ := h.top _ k0 (fun i j a y e => ⟨0, rfl, hg i j y a e⟩) i j a v e
  cases e1; exact l1
def fits (w : Str) (a b s : Nat) : Prop := if w = "parts" then a = s else a ≤ s ∧ s < b
instance {w : Str} {a b s : Nat} : Decidable (fits w a b s) := by unfold fits; exact inferInstance
inductive Way (w : Str) (n : Nat) (g : Tab) (i : Nat) : Nat → Int → List (Nat × Nat) → Prop
  | nil : Way w n g i i 0 []
  | snoc {s c cs a b p} : Way w n g i s c cs → At n a b → g a b = some p → fits w a b s → Way w n g i b (c + p) (cs ++ [(a, b)])
theorem fits_lt {w : Str} {n a b s : Nat} (v : At n a b) (h : fits w a b s) : s < b := by
  unfold fits at h
  split at h
  · subst h; exact v.1
  · exact h.2
section
variable {w : Str} {n : Nat} {g : Tab} {i e : Nat} {c : Int} {cs : List (Nat × Nat)}
theorem Way.ge (h : Way w n g i e c cs) : i ≤ e := by
  induction h with
  | nil => exact Nat.le_refl _
  | snoc _ v _ f ih => have := fits_lt v f; omega
theorem Way.nn (hg : NN n g) (h : Way w n g i e c cs) : 0 ≤ c := by
  induction h with
  | nil => exact Int.le_refl _
  | snoc _ v hp f ih => have := hg _ _ _ v hp; omega
theorem Way.lt (h : Way w n g i e c cs) (hi : i < n) : e < n := by
  cases h with
  | nil => exact hi
  | snoc _ v _ _ => exact v.2
theorem Way.app (hw : w = "parts") {j f : Nat} {d : Int} {ds : List (Nat × Nat)} (h : Way w n g i j c cs) (k : Way w n g j f d ds) : Way w n g i f (c + d) (cs ++ ds) := by
  induction k with
  | nil => simpa using h
  | snoc _ v hp f ih =>
    have := Way.snoc ih v hp f
    rw [Int.add_assoc, List.append_assoc] at this
    exact this
theorem Way.shift (hw : w ≠ "parts") (hg : NN n g) {j e f : Nat} {d : Int} {ds : List (Nat × Nat)} (h : Way w n g i e c cs) (hj : j ≤ e) (k : Way w n g j f d ds) : ∃ f' d' ds', f ≤ f' ∧ d' ≤ c + d ∧ Way w n g i f' d' ds' := by
  induction k with
  | nil => exact ⟨e, c, cs, hj, by omega, h⟩
  | @snoc s x xs a b p k' v hp fi ih =>
    obtain ⟨f', d', ds', l1, l2, q⟩ := ih
    have hpn := hg a b p v hp
    by_cases hb : b ≤ f'
    · exact ⟨f', d', ds', hb, by omega, q⟩
    · have fi2 : fits w a b f' := by
        unfold fits at fi ⊢
        rw [if_neg hw] at fi ⊢
        omega
      exact ⟨b, d' + p, _, Nat.le_refl _, by omega, q.snoc v hp fi2⟩
theorem Way.top {t : Tab} (ht : Keeps w n t) (hl : w ≠ "long") (b : Below n t g) (hw : w ≠ "parts") (h : Way w n g i e c cs) : ∀ j, i < j → j ≤ e → leO (t i j) (some c) := by
  induction h with
  | nil => intro j h1 h2; omega
  | @snoc s x xs a b' p k v hp fi ih =>
    intro j h1 h2
    have hpt := b a b' v
    rw [hp] at hpt
    unfold fits at fi
    rw [if_neg hw] at fi
    have hx : ∀ j, s < j → j ≤ b' → leO (t s j) (some p) := fun j h1 h2 => (ht.long hw s j a b' fi.1 h1 h2 v.2).trans hpt
    have gs := k.ge
    by_cases hs : j ≤ s
    · by_cases p0 : 0 ≤ p
      · exact (ih j h1 hs).trans (leO.some_ (by omega))
      · -- a price below 0: by the whole haul
        have h3 : leO (t i b') (some (x + p)) := by
          rcases Nat.lt_or_ge i s with z | z
          · have := ht.parts hl i s b' z fi.2 v.2
            exact this.trans (addO_mono (ih s z (Nat.le_refl _)) (hx b' fi.2 (Nat.le_refl _)))
          · omega
        exact (ht.long hw i j i b' (Nat.le_refl _) h1 h2 v.2).trans h3
    · rcases Nat.lt_or_ge i s with z | z
      · exact (ht.parts hl i s j z (by omega) (by have := v.2; omega)).trans (addO_mono (ih s z (Nat.le_refl _)) (hx j (by omega) h2))
      · have e : i = s := by omega
        subst e
        cases k with
        | nil => simpa using hx j h1 h2
        | snoc k2 v2 _ f2 => have := k2.ge; have := fits_lt v2 f2; omega
theorem Way.belowP {t : Tab} (ht : Keeps w n t) (b : Below n t g) (hw : w = "parts") (h : Way w n g i e c cs) : i < e → leO (t i e) (some c) := by
  induction h with
  | nil => intro h; omega
  | @snoc s x xs a b' p k v hp fi ih =>
    intro h1
    have hpt := b a b' v
    rw [hp] at hpt
    unfold fits at fi
    rw [if_pos hw] at fi
    subst fi
    rcases Nat.lt_or_ge i a with z | z
    · exact (ht.parts (by subst hw; decide) i a b' z v.1 v.2).trans (addO_mono (ih z) hpt)
    · have e : i = a := by have := k.ge; omega
      subst e
      cases k with
      | nil => simpa using hpt
      | snoc k2 v2 _ f2 => have := k2.ge; have := fits_lt v2 f2; omega
end
def endsOk (w : Str) (e j : Nat) : Prop := if w = "parts" then e = j else j ≤ e
def Cover (w : Str) (n : Nat) (g : Tab) (i j : Nat) (c : Int) (cs : List (Nat × Nat)) : Prop :=
  if w = "long" then ∃ k l, k ≤ i ∧ j ≤ l ∧ At n k l ∧ g k l = some c ∧ cs = [(k, l)] else ∃ e, Way w n g i e c cs ∧ endsOk w e j
abbrev Wy := Int × List (Nat × Nat)
structure CovOk (w : Str) (n : Nat) (g : Tab) (cov : Nat → Nat → Option Wy) : Prop where
  sound : ∀ i j c cs, At n i j → cov i j = some (c, cs) → Cover w n g i j c cs
  opt : ∀ i j c cs, At n i j → Cover w n g i j c cs → ∃ c' cs', cov i j = some (c', cs') ∧ c' ≤ c
def costO (o : Option Wy) : Option Int := o.map (·.1)
theorem CovOk.cl {w : Str} {n : Nat} {g : Tab} (hg : NN n g) {cov : Nat → Nat → Option Wy} (h : CovOk w n g cov) : IsCl w n g (fun i j => costO (cov i j)) := by
  have le_of : ∀ {i j c cs y}, At n i j → Cover w n g i j c cs → c ≤ y → ∃ x, costO (cov i j) = some x ∧ x ≤ y := fun {i j c cs y} a q ly => by
    obtain ⟨c', cs', e, l⟩ := h.opt i j c cs a q
    rw [e]; exact ⟨c', rfl, by omega⟩
  have get : ∀ {i j y}, At n i j → costO (cov i j) = some y → ∃ cs, Cover w n g i j y cs := fun {i j y} a e => by
    cases q : cov i j with
    | none => rw [q] at e; cases e
    | some p => rw [q] at e; cases e; exact ⟨p.2, h.sound i j p.1 p.2 a q⟩
  have one : ∀ {i j y}, At n i j → g i j = some y → Cover w n g i j y [(i, j)] := fun {i j y} a e => by
    unfold Cover
    split
    · exact ⟨i, j, Nat.le_refl _, Nat.le_refl _, a, e, rfl⟩
    · have f : fits w i j i := by unfold fits; split <;> have := a.1 <;> omega
      have := Way.snoc (Way.nil (w := w) (n := n) (g := g) (i := i)) a e f
      exact ⟨j, by simpa using this, by unfold endsOk; split <;> simp⟩
  refine ⟨fun i j a y e => le_of a (one a e) (Int.le_refl _), ⟨fun hp i j k l h1 h2 h3 h4 y e => ?_, fun hl i j k h1 h2 h3 y e => ?_⟩, fun t kt bt i j a y e => ?_⟩
  · obtain ⟨cs, q⟩ := get ⟨by omega, h4⟩ e
    have a : At n i j := ⟨h2, by omega⟩
    unfold Cover at q
    split at q
    · rename_i hl
      obtain ⟨p, r, e1, e2, e3, e4, _⟩ := q
      exact le_of a (cs := [(p, r)]) (by unfold Cover; rw [if_pos hl]; exact ⟨p, r, by omega, by omega, e3, e4, rfl⟩) (Int.le_refl _)
    · rename_i hl
      obtain ⟨f, wy, ef⟩ := q
      unfold endsOk at ef
      rw [if_neg hp] at ef
      obtain ⟨f', d', ds', z1, z2, z3⟩ := Way.shift hp hg (Way.nil (i := i)) h1 wy
      exact le_of a (cs := ds') (by unfold Cover; rw [if_neg hl]; exact ⟨f', z3, by unfold endsOk; rw [if_neg hp]; omega⟩) (by omega)
  · cases q1 : costO (cov i j) with
    | none => rw [q1] at e; cases e
    | some y1 =>
      cases q2 : costO (cov j k) with
      | none => rw [q1, q2] at e; cases e
      | some y2 =>
        rw [q1, q2] at e
        cases e
        obtain ⟨cs, s1⟩ := get ⟨h1, by omega⟩ q1
        obtain ⟨ds, s2⟩ := get ⟨h2, h3⟩ q2
        have a : At n i k := ⟨by omega, h3⟩
        unfold Cover at s1 s2
        rw [if_neg hl] at s1 s2
        obtain ⟨e1, w1, f1⟩ := s1
        obtain ⟨e2, w2, f2⟩ := s2
        by_cases hp : w = "parts"
        · unfold endsOk at f1 f2
          rw [if_pos hp] at f1 f2
          subst f1 f2
          exact le_of a (cs := cs ++ ds) (by unfold Cover; rw [if_neg hl]; exact ⟨_, w1.app hp w2, by unfold endsOk; rw [if_pos hp]⟩) (Int.le_refl _)
        · unfold endsOk at f1 f2
          rw [if_neg hp] at f1 f2
          obtain ⟨f', d', ds', z1, z2, z3⟩ := Way.shift hp hg w1 f1 w2
          exact le_of a (cs := ds') (by unfold Cover; rw [if_neg hl]; exact ⟨f', z3, by unfold endsOk; rw [if_neg hp]; omega⟩) z2
  · obtain ⟨cs, q⟩ := get a e
    unfold Cover at q
    split at q
    · rename_i hl
      obtain ⟨p, r, e1, e2, e3, e4, _⟩ := q
      have := (kt.long (by rw [hl]; decide) i j p r e1 a.1 e2 e3.2).trans (bt p r e3)
      rw [e4] at this
      exact this y rfl
    · rename_i hl
      obtain ⟨f, wy, ef⟩ := q
      unfold endsOk at ef
      by_cases hp : w = "parts"
      · rw [if_pos hp] at ef
        subst ef
        exact Way.belowP kt bt hp wy a.1 y rfl
      · rw [if_neg hp] at ef
        exact Way.top kt hl bt hp wy j a.1 ef y rfl
end HP
set_option maxRecDepth 100000
set_option maxHeartbeats 1000000
namespace HP
open PySem L2
structure PassOk (w : Str) (n : Nat) (f f' : Tab) : Prop where
  low : Below n f' f
  top : ∀ t, Keeps w n t → Below n t f → Below n t f'
  lng : w ≠ "parts" → ∀ i j k l, k ≤ i → i < j → j ≤ l → l < n → leO (f' i j) (f k l)
  prt : w ≠ "long" → ∀ i j k, i < j → j < k → k < n → leO (f' i k) (addO (f i j) (f j k))
inductive Ch (w : Str) (n : Nat) (g : Tab) : Nat → Tab → Prop
  | zero : Ch w n g 0 g
  | succ {t f f'} : Ch w n g t f → PassOk w n f f' → Ch w n g (t + 1) f'
section
variable {w : Str} {n : Nat} {g f : Tab} {t i e : Nat} {c : Int} {cs : List (Nat × Nat)}
theorem Ch.low (h : Ch w n g t f) : Below n f g := by
  induction h with
  | zero => exact fun _ _ _ => leO.refl _
  | succ _ p ih => exact fun i j a => (p.low i j a).trans (ih i j a)
theorem Ch.top (h : Ch w n g t f) : ∀ u, Keeps w n u → Below n u g → Below n u f := by
  induction h with
  | zero => exact fun _ _ b => b
  | succ _ p ih => exact fun u k b => p.top u k (ih u k b)
theorem Ch.lng (h : Ch w n g t f) (ht : 1 ≤ t) (hw : w ≠ "parts") {i j k l : Nat} (h1 : k ≤ i) (h2 : i < j) (h3 : j ≤ l) (h4 : l < n) : leO (f i j) (g k l) := by
  cases h with
  | zero => omega
  | succ q p => exact (p.lng hw i j k l h1 h2 h3 h4).trans (q.low k l ⟨by omega, h4⟩)
theorem Way.len (h : Way w n g i e c cs) : i + cs.length ≤ e := by
  induction h with
  | nil => simp
  | snoc _ v _ f ih => have := fits_lt v f; simp; omega
theorem Way.ne (h : Way w n g i e c cs) (hi : i < e) : 1 ≤ cs.length := by
  cases h with
  | nil => omega
  | snoc => simp
theorem Ch.both (hg : NN n g) (hl : w ≠ "long") (hw : w ≠ "parts") (k : Way w n g i e c cs) : ∀ {t f}, Ch w n g t f → cs.length ≤ t → ∀ j, i < j → j ≤ e → leO (f i j) (some c) := by
  induction k with
  | nil => intro t f _ _ j h1 h2; omega
  | @snoc s x xs a b p k v hp fi ih =>
    intro t f h hlen j h1 h2
    have pn := hg a b p v hp
    have fi2 : a ≤ s ∧ s < b := by unfold fits at fi; rw [if_neg hw] at fi; exact fi
    simp at hlen
    have hx : ∀ {t f}, Ch w n g t f → 1 ≤ t → ∀ j, s < j → j ≤ b → leO (f s j) (some p) := fun h h0 j h1 h2 => by
      have := h.lng h0 hw fi2.1 h1 h2 v.2
      rw [hp] at this; exact this
    by_cases hs : j ≤ s
    · exact (ih h (by omega) j h1 hs).trans (leO.some_ (by omega))
    · rcases Nat.lt_or_ge i s with z | z
      · have l1 := k.ne z
        cases h with
        | zero => omega
        | succ q pp =>
          exact (pp.prt hl i s j z (by omega) (by have := v.2; omega)).trans (addO_mono (ih q (by omega) s z (Nat.le_refl _)) (hx q (by omega) j (by omega) h2))
      · have es : i = s := by have := k.ge; omega
        subst es
        cases k with
        | nil => simpa using hx h (by omega) j h1 h2
        | snoc k2 v2 _ f2 => have := k2.ge; have := fits_lt v2 f2; omega
theorem Ch.parts (hw : w = "parts") (k : Way w n g i e c cs) : ∀ {t f}, Ch w n g t f → cs.length ≤ t → i < e → leO (f i e) (some c) := by
  induction k with
  | nil => intro t f _ _ h; omega
  | @snoc s x xs a b p k v hp fi ih =>
    intro t f h hlen h1
    have fi2 : a = s := by unfold fits at fi; rw [if_pos hw] at fi; exact fi
    subst fi2
    simp at hlen
    have hx : ∀ {t f}, Ch w n g t f → leO (f a b) (some p) := fun h => by
      have := h.low a b v
      rw [hp] at this; exact this
    rcases Nat.lt_or_ge i a with z | z
    · have l1 := k.ne z
      cases h with
      | zero => omega
      | succ q pp => exact (pp.prt (by rw [hw]; decide) i a b z v.1 v.2).trans (addO_mono (ih q (by omega) z) (hx q))
    · have es : i = a := by have := k.ge; omega
      subst es
      cases k with
      | nil => simpa using hx h
      | snoc k2 v2 _ f2 => have := k2.ge; have := fits_lt v2 f2; omega
theorem Ch.cl (hg : NN n g) {cov : Nat → Nat → Option Wy} (hc : CovOk w n g cov) (h : Ch w n g t f) (ht : n ≤ t) : IsCl w n g f := by
  have c0 := hc.cl hg
  have le : ∀ i j, At n i j → leO (f i j) (costO (cov i j)) := fun i j a y e => by
    cases q : cov i j with
    | none => rw [q] at e; cases e
    | some p =>
      rw [q] at e
      cases e
      have s := hc.sound i j p.1 p.2 a q
      unfold Cover at s
      split at s
      · rename_i hl
        obtain ⟨k, l, e1, e2, e3, e4, _⟩ := s
        have := h.lng (by have := a.1; have := a.2; omega) (by rw [hl]; decide) e1 a.1 e2 e3.2
        rw [e4] at this
        exact this _ rfl
      · rename_i hl
        obtain ⟨f1, wy, ef⟩ := s
        have len := wy.len
        have lt := wy.lt (by have := a.1; have := a.2; omega)
        unfold endsOk at ef
        by_cases hp : w = "parts"
        · rw [if_pos hp] at ef
          subst ef
          exact Ch.parts hp wy h (by omega) a.1 _ rfl
        · rw [if_neg hp] at ef
          exact Ch.both hg hl hp wy h (by omega) j a.1 ef _ rfl
  have ee : ∀ i j, At n i j → costO (cov i j) = f i j := fun i j a => (h.top _ c0.keeps c0.below i j a).anti (le i j a)
  exact ⟨h.low, c0.keeps.congr ee, h.top⟩
theorem Ch.stop (h : Ch w n g t f) {f' : Tab} (p : PassOk w n f f') (e : ∀ i j, At n i j → f' i j = f i j) : IsCl w n g f := by
  refine ⟨h.low, ⟨fun hw i j k l h1 h2 h3 h4 => ?_, fun hw i j k h1 h2 h3 => ?_⟩, h.top⟩
  · rw [← e i j ⟨h2, by omega⟩]; exact p.lng hw i j k l h1 h2 h3 h4
  · rw [← e i k ⟨by omega, h3⟩]; exact p.prt hw i j k h1 h2 h3
end
def up2 (f : Tab) (i j : Nat) (v : Option Int) : Tab := fun a b => if a = i ∧ b = j then v else f a b
theorem up2_same {f : Tab} {i j : Nat} {v : Option Int} : up2 f i j v i j = v := by simp [up2]
theorem up2_ne {f : Tab} {i j a b : Nat} {v : Option Int} (h : ¬ (a = i ∧ b = j)) : up2 f i j v a b = f a b := by simp [up2, h]
structure Mid (w : Str) (n : Nat) (f h : Tab) : Prop where
  low : Below n h f
  top : ∀ t, Keeps w n t → Below n t f → Below n t h
section
variable {w : Str} {n : Nat} {f h : Tab}
theorem Mid.refl : Mid w n f f := ⟨fun _ _ _ => leO.refl _, fun _ _ b => b⟩
theorem Mid.trans {k : Tab} (a : Mid w n f h) (b : Mid w n h k) : Mid w n f k := ⟨fun i j v => (b.low i j v).trans (a.low i j v), fun t q r => b.top t q (a.top t q r)⟩
theorem up_low {i j : Nat} {v : Option Int} : Below n (up2 h i j (minO (h i j) v)) h := fun a b _ => by
  by_cases e : a = i ∧ b = j
  · obtain ⟨rfl, rfl⟩ := e; rw [up2_same]; exact minO_l
  · rw [up2_ne e]; exact leO.refl _
theorem Mid.lng (hw : w ≠ "parts") {i j k l : Nat} (h1 : k ≤ i) (h2 : i < j) (h3 : j ≤ l) (h4 : l < n) : Mid w n h (up2 h i j (minO (h i j) (h k l))) :=
  ⟨up_low, fun t q b a c v => by
    by_cases e : a = i ∧ c = j
    · obtain ⟨rfl, rfl⟩ := e
      rw [up2_same]
      exact le_minO (b a c v) ((q.long hw a c k l h1 h2 h3 h4).trans (b k l ⟨by omega, h4⟩))
    · rw [up2_ne e]; exact b a c v⟩
theorem Mid.prt (hw : w ≠ "long") {i j k : Nat} (h1 : i < j) (h2 : j < k) (h3 : k < n) : Mid w n h (up2 h i k (minO (h i k) (addO (h i j) (h j k)))) :=
  ⟨up_low, fun t q b a c v => by
    by_cases e : a = i ∧ c = k
    · obtain ⟨rfl, rfl⟩ := e
      rw [up2_same]
      exact le_minO (b a c v) ((q.parts hw a j c h1 h2 h3).trans (addO_mono (b a j ⟨h1, by omega⟩) (b j c ⟨h2, h3⟩)))
    · rw [up2_ne e]; exact b a c v⟩
end
end HP
set_option maxRecDepth 100000
set_option maxHeartbeats 1000000
namespace HP
open PySem L2
section
variable {w : Str} {n : Nat} {f h : Tab} {i j : Nat}
end
end HP
set_option maxRecDepth 100000
set_option maxHeartbeats 1000000
namespace MP
open PySem L2
section
variable {f g fa fb fc fk fv a b c : EF} {l l1 l2 : LF} {env : EnvM} {M : List D} {p q : SF} {i j n : Nat} {d x y : D}
@[simp] theorem view_non : view M .non = .non := rfl
@[simp] theorem view_bl {z} : view M (.bl z) = .bl z := rfl
@[simp] theorem view_str {z} : view M (.str z) = .str z := rfl
@[simp] theorem view_intD {z} : view M (.int z) = .int z := rfl
@[simp] theorem view_tup {z} : view M (.tup z) = .tup z := rfl
@[simp] theorem view_ktp {z} : view M (.ktp z) = .ktp z := rfl
@[simp] theorem view_lst {z} : view M (.lst z) = .lst z := rfl
@[simp] theorem view_dT {z} : view M (.dT z) = .dT z := rfl
@[simp] theorem view_dK {z} : view M (.dK z) = .dK z := rfl
@[simp] theorem eDcT_eq {gd ft fe vs} : eDcT l gd ft fk fe vs env M = (l env M).bind fun ds M1 => dcompT gd ft fk fe (wipeE env vs) ds [] M1 := rfl
@[simp] theorem guD_true {r : R} : guD true r = r := rfl
@[simp] theorem eGet1_eq {fo} : eGet1 fo fk env M = (fo env M).bind fun x M1 => guD (dictD (view M1 x)) ((fk env M1).bind fun y M2 => getR .non (getD (view M2 x) y) M2) := rfl
@[simp] theorem eGet2_eq {fo fd} : eGet2 fo fk fd env M = (fo env M).bind fun x M1 => guD (dictD (view M1 x)) ((fk env M1).bind fun y M2 => (fd env M2).bind fun z M3 => getR z (getD (view M3 x) y) M3) := rfl
@[simp] theorem dictD_dK {z} : dictD (.dK z) = true := rfl
@[simp] theorem dictD_dT {z} : dictD (.dT z) = true := rfl
@[simp] theorem getD_dKi {kvs} {z : Int} : getD (.dK kvs) (.int z) = some (valK kvs (.inl z)) := rfl
@[simp] theorem getD_dKs {kvs} {z : Str} : getD (.dK kvs) (.str z) = some (valK kvs (.inr z)) := rfl
@[simp] theorem getR_some : getR d (some (some x)) M = .ok x M := rfl
@[simp] theorem getR_none : getR d (some none) M = .ok d M := rfl
@[simp] theorem bParO_eq : bParO i j fa fb env M = (fa env M).bindS env fun d M1 => (fb env M1).bindS env fun d2 M2 => setR ((gN i d env).bind (oN j d2)) M2 := rfl
@[simp] theorem bPar3_eq {k} : bPar3 i j k fa fb fc env M = (fa env M).bindS env fun d M1 => (fb env M1).bindS env fun d2 M2 => (fc env M2).bindS env fun d3 M3 => setR (gAll [i, j, k] [d, d2, d3] env) M3 := rfl
def dispR (k : Option Key) (y : D) (M : List D) : R := match k with
  | some k => .ok (.dK [(k, y)]) M
  | none => .stuck
@[simp] theorem dispR_some {k} : dispR (some k) y M = .ok (.dK [(k, y)]) M := rfl
@[simp] theorem eDisp1_eq : eDisp1 fk fv env M = (fk env M).bind fun x M1 => (fv env M1).bind fun y M2 => dispR (keyD x) y M2 := rfl
@[simp] theorem keyD_int {z : Int} : keyD (.int z) = some (.inl z) := rfl
@[simp] theorem keyD_str {z : Str} : keyD (.str z) = some (.inr z) := rfl
def starR (o : Option (List D)) (r : RL) : RL := match o with
  | some ds => r.bindL fun ys M2 => .ok (ds ++ ys) M2
  | none => .stuck
@[simp] theorem starR_some {ds r} : starR (some ds) r = r.bindL fun ys M2 => .ok (ds ++ ys) M2 := rfl
@[simp] theorem lStar_eq : lStar f l env M = (f env M).bindL fun x M1 => starR (starD (view M1 x)) (l env M1) := rfl
@[simp] theorem starD_tup {ds} : starD (.tup ds) = some ds := rfl
@[simp] theorem starD_lst {ds} : starD (.lst ds) = some ds := rfl
@[simp] theorem eCallQ_eq {c n np nk ix dd} : eCallQ c n np nk ix dd l1 l2 env M = (l1 env M).bind fun xs M1 => (l2 env M1).bind fun ys M2 => apQ c n np nk ix dd xs ys M2 := rfl
theorem apQ_of {c : List D → List D → R} {n np nk ix dd xs ys zs} (h : xs.length = np ∧ ys.length = nk ∧ (pickL ix (xs ++ ys ++ dd)).length = n) (e : pickL ix (xs ++ ys ++ dd) = zs) : apQ c n np nk ix dd xs ys M = c zs M := by
  subst e; unfold apQ; rw [if_pos h]
@[simp] theorem apQ_11 {c : List D → List D → R} : apQ c 2 1 1 [0, 1] [] [x] [y] M = c [x, y] M := apQ_of ⟨rfl, rfl, rfl⟩ rfl
@[simp] theorem apQ_02 {c : List D → List D → R} : apQ c 2 0 2 [1, 0] [] [] [x, y] M = c [y, x] M := apQ_of ⟨rfl, rfl, rfl⟩ rfl
@[simp] theorem isN_str {z} : (D.str z).isN = false := rfl
@[simp] theorem isN_bl {z} : (D.bl z).isN = false := rfl
@[simp] theorem isN_lst {z} : (D.lst z).isN = false := rfl
@[simp] theorem isN_dT {z} : (D.dT z).isN = false := rfl
@[simp] theorem isN_ins {z w} : (D.ins z w).isN = false := rfl
@[simp] theorem oEq_str {z w : Str} : oEq (.str z) (.str w) M = .ok (.bl (z == w)) M := rfl
@[simp] theorem oNe_str {z w : Str} : oNe (.str z) (.str w) M = .ok (.bl (!(z == w))) M := rfl
@[simp] theorem forK_cont {gd ds} : forK gd p ds (.cont env M) = forL gd p ds env M := rfl
@[simp] theorem forK_brk {gd ds} : forK gd p ds (.brk env M) = .next env M := rfl
@[simp] theorem endE_exc {x} : endE (.exc x env M) = .exc x M := rfl
theorem forL_pre {α : Type} {gd : D → EnvM → Option EnvM} {b : SF} {enc : α → D} {xs : List α} (P : List α → EnvM → List D → Prop)
    (h : ∀ pre x post env M, xs = pre ++ x :: post → P pre env M → ∃ env1, gd (enc x) env = some env1 ∧ ∃ env2 M2, (b env1 M = .next env2 M2 ∨ b env1 M = .cont env2 M2) ∧ P (pre ++ [x]) env2 M2) {env : EnvM} {M : List D} (h0 : P [] env M) :
    ∃ env2 M2, forL gd b (xs.map enc) env M = .next env2 M2 ∧ P xs env2 M2 := by
  have key : ∀ (post pre : List α) (env : EnvM) (M : List D), xs = pre ++ post → P pre env M → ∃ env2 M2, forL gd b (post.map enc) env M = .next env2 M2 ∧ P xs env2 M2 := by
    intro post
    induction post with
    | nil => intro pre env M e p; exact ⟨env, M, rfl, by rw [e, List.append_nil]; exact p⟩
    | cons x post ih =>
      intro pre env M e p
      obtain ⟨env1, h1, env2, M2, h2, h3⟩ := h pre x post env M e p
      obtain ⟨env3, M3, h4, h5⟩ := ih (pre ++ [x]) env2 M2 (by simp [e]) h3
      refine ⟨env3, M3, ?_, h5⟩
      rw [List.map_cons, forL_cons h1]
      rcases h2 with h2 | h2 <;> rw [h2] <;> exact h4
  exact key xs [] env M rfl h0
end
end MP
namespace HP
open MP PySem L2
abbrev hD (i j : Nat) : D := .tup [.int i, .int j]
abbrev hK (i j : Nat) : List Key := [.inl (i : Int), .inl (j : Int)]
abbrev hKp (h : Nat × Nat) : List Key := hK h.1 h.2
def tab (n : Nat) (f : Nat → Nat → D) : List (List Key × D) := (hauls n).map fun h => (hKp h, f h.1 h.2)
def od : Option Int → D
  | none => .non
  | some v => .int v
@[simp] theorem od_none : od none = .non := rfl
@[simp] theorem od_some {v} : od (some v) = .int v := rfl
@[simp] theorem keysD_h {i j : Int} : keysD [.int i, .int j] = some [.inl i, .inl j] := rfl
end HP
set_option maxRecDepth 100000
set_option maxHeartbeats 1000000
namespace HP
open MP
open PySem PySem.Spec PyProof.Rows L2
def N__law_bases : List Str := [("_law_e" : Str), ("_law_found" : Str)]
def b__law_bases : SF := (bSeq (bSet 1 (eLst (lCons (e1 (isXv [(("BreaksRules" : Str), false), (("Broken" : Str), false), (("DoNotFit" : Str), false), (("InUse" : Str), false), (("InvalidCoin" : Str), true), (("InvalidCoins" : Str), true), (("InvalidHaul" : Str), true), (("InvalidIndex" : Str), true), (("InvalidLength" : Str), true), (("InvalidLine" : Str), true), (("InvalidName" : Str), true), (("InvalidPrice" : Str), true), (("InvalidPrices" : Str), true), (("InvalidRanges" : Str), true), (("InvalidRules" : Str), true), (("InvalidStops" : Str), true), (("InvalidTariff" : Str), true), (("InvalidText" : Str), true), (("InvalidTickets" : Str), true), (("InvalidWish" : Str), true), (("NoAnswer" : Str), false), (("NoBook" : Str), false), (("NotABook" : Str), true), (("NotATariff" : Str), true), (("NotBounds" : Str), true), (("NothingToUndo" : Str), false), (("TooMany" : Str), false), (("UnknownName" : Str), false), (("WrongName" : Str), false), (("WrongRow" : Str), true), (("WrongValue" : Str), true)]) (eV 0)) (lCons (e1 (isXv [(("BreaksRules" : Str), false), (("Broken" : Str), false), (("DoNotFit" : Str), false), (("InUse" : Str), true), (("InvalidCoin" : Str), false), (("InvalidCoins" : Str), false), (("InvalidHaul" : Str), false), (("InvalidIndex" : Str), false), (("InvalidLength" : Str), false), (("InvalidLine" : Str), false), (("InvalidName" : Str), false), (("InvalidPrice" : Str), false), (("InvalidPrices" : Str), false), (("InvalidRanges" : Str), false), (("InvalidRules" : Str), false), (("InvalidStops" : Str), false), (("InvalidTariff" : Str), false), (("InvalidText" : Str), false), (("InvalidTickets" : Str), false), (("InvalidWish" : Str), false), (("NoAnswer" : Str), false), (("NoBook" : Str), false), (("NotABook" : Str), false), (("NotATariff" : Str), false), (("NotBounds" : Str), false), (("NothingToUndo" : Str), false), (("TooMany" : Str), false), (("UnknownName" : Str), true), (("WrongName" : Str), true), (("WrongRow" : Str), false), (("WrongValue" : Str), false)]) (eV 0)) (lCons (e1 (isXv [(("BreaksRules" : Str), true), (("Broken" : Str), true), (("DoNotFit" : Str), true), (("InUse" : Str), false), (("InvalidCoin" : Str), false), (("InvalidCoins" : Str), false), (("InvalidHaul" : Str), false), (("InvalidIndex" : Str), false), (("InvalidLength" : Str), false), (("InvalidLine" : Str), false), (("InvalidName" : Str), false), (("InvalidPrice" : Str), false), (("InvalidPrices" : Str), false), (("InvalidRanges" : Str), false), (("InvalidRules" : Str), false), (("InvalidStops" : Str), false), (("InvalidTariff" : Str), false), (("InvalidText" : Str), false), (("InvalidTickets" : Str), false), (("InvalidWish" : Str), false), (("NoAnswer" : Str), true), (("NoBook" : Str), true), (("NotABook" : Str), false), (("NotATariff" : Str), false), (("NotBounds" : Str), false), (("NothingToUndo" : Str), true), (("TooMany" : Str), true), (("UnknownName" : Str), false), (("WrongName" : Str), false), (("WrongRow" : Str), false), (("WrongValue" : Str), false)]) (eV 0)) lNil))))) (bRet (e2 oAdd (eVB 1) (eLst (lCons (e1 (isXv [(("BreaksRules" : Str), false), (("Broken" : Str), false), (("DoNotFit" : Str), false), (("InUse" : Str), false), (("InvalidCoin" : Str), true), (("InvalidCoins" : Str), true), (("InvalidHaul" : Str), true), (("InvalidIndex" : Str), true), (("InvalidLength" : Str), true), (("InvalidLine" : Str), true), (("InvalidName" : Str), true), (("InvalidPrice" : Str), true), (("InvalidPrices" : Str), true), (("InvalidRanges" : Str), true), (("InvalidRules" : Str), true), (("InvalidStops" : Str), true), (("InvalidTariff" : Str), true), (("InvalidText" : Str), true), (("InvalidTickets" : Str), true), (("InvalidWish" : Str), true), (("NoAnswer" : Str), false), (("NoBook" : Str), false), (("NotABook" : Str), true), (("NotATariff" : Str), true), (("NotBounds" : Str), true), (("NothingToUndo" : Str), false), (("TooMany" : Str), false), (("UnknownName" : Str), false), (("WrongName" : Str), false), (("WrongRow" : Str), true), (("WrongValue" : Str), true)]) (eV 0)) (lCons (e1 (isXv [(("BreaksRules" : Str), false), (("Broken" : Str), false), (("DoNotFit" : Str), false), (("InUse" : Str), true), (("InvalidCoin" : Str), false), (("InvalidCoins" : Str), false), (("InvalidHaul" : Str), false), (("InvalidIndex" : Str), false), (("InvalidLength" : Str), false), (("InvalidLine" : Str), false), (("InvalidName" : Str), false), (("InvalidPrice" : Str), false), (("InvalidPrices" : Str), false), (("InvalidRanges" : Str), false), (("InvalidRules" : Str), false), (("InvalidStops" : Str), false), (("InvalidTariff" : Str), false), (("InvalidText" : Str), false), (("InvalidTickets" : Str), false), (("InvalidWish" : Str), false), (("NoAnswer" : Str), false), (("NoBook" : Str), false), (("NotABook" : Str), false), (("NotATariff" : Str), false), (("NotBounds" : Str), false), (("NothingToUndo" : Str), false), (("TooMany" : Str), false), (("UnknownName" : Str), true), (("WrongName" : Str), true), (("WrongRow" : Str), false), (("WrongValue" : Str), false)]) (eV 0)) (lCons (e1 (isXv [(("BreaksRules" : Str), true), (("Broken" : Str), true), (("DoNotFit" : Str), true), (("InUse" : Str), false), (("InvalidCoin" : Str), false), (("InvalidCoins" : Str), false), (("InvalidHaul" : Str), false), (("InvalidIndex" : Str), false), (("InvalidLength" : Str), false), (("InvalidLine" : Str), false), (("InvalidName" : Str), false), (("InvalidPrice" : Str), false), (("InvalidPrices" : Str), false), (("InvalidRanges" : Str), false), (("InvalidRules" : Str), false), (("InvalidStops" : Str), false), (("InvalidTariff" : Str), false), (("InvalidText" : Str), false), (("InvalidTickets" : Str), false), (("InvalidWish" : Str), false), (("NoAnswer" : Str), true), (("NoBook" : Str), true), (("NotABook" : Str), false), (("NotATariff" : Str), false), (("NotBounds" : Str), false), (("NothingToUndo" : Str), true), (("TooMany" : Str), true), (("UnknownName" : Str), false), (("WrongName" : Str), false), (("WrongRow" : Str), false), (("WrongValue" : Str), false)]) (eV 0)) lNil)))))))
def c__law_bases (ds M : List D) : R := endE (b__law_bases (env0 N__law_bases.length ds) M)
def N__law_tags : List Str := [("_law_e" : Str), ("_law_found" : Str)]
def b__law_tags : SF := (bSeq (bSet 1 (eLst lNil)) (bSeq (bSet 1 (e2 oAdd (eVB 1) (eIf (e1 (isXv [(("BreaksRules" : Str), false), (("Broken" : Str), false), (("DoNotFit" : Str), false), (("InUse" : Str), false), (("InvalidCoin" : Str), false), (("InvalidCoins" : Str), false), (("InvalidHaul" : Str), false), (("InvalidIndex" : Str), false), (("InvalidLength" : Str), false), (("InvalidLine" : Str), false), (("InvalidName" : Str), false), (("InvalidPrice" : Str), false), (("InvalidPrices" : Str), false), (("InvalidRanges" : Str), false), (("InvalidRules" : Str), false), (("InvalidStops" : Str), true), (("InvalidTariff" : Str), false), (("InvalidText" : Str), false), (("InvalidTickets" : Str), false), (("InvalidWish" : Str), false), (("NoAnswer" : Str), false), (("NoBook" : Str), false), (("NotABook" : Str), false), (("NotATariff" : Str), false), (("NotBounds" : Str), false), (("NothingToUndo" : Str), false), (("TooMany" : Str), false), (("UnknownName" : Str), false), (("WrongName" : Str), false), (("WrongRow" : Str), false), (("WrongValue" : Str), false)]) (eV 0)) (eLst (lCons (eC (.str "stops")) lNil)) (eLst lNil)))) (bSeq (bSet 1 (e2 oAdd (eVB 1) (eIf (e1 (isXv [(("BreaksRules" : Str), false), (("Broken" : Str), false), (("DoNotFit" : Str), false), (("InUse" : Str), false), (("InvalidCoin" : Str), false), (("InvalidCoins" : Str), false), (("InvalidHaul" : Str), true), (("InvalidIndex" : Str), false), (("InvalidLength" : Str), false), (("InvalidLine" : Str), false), (("InvalidName" : Str), false), (("InvalidPrice" : Str), false), (("InvalidPrices" : Str), false), (("InvalidRanges" : Str), false), (("InvalidRules" : Str), false), (("InvalidStops" : Str), false), (("InvalidTariff" : Str), false), (("InvalidText" : Str), false), (("InvalidTickets" : Str), false), (("InvalidWish" : Str), false), (("NoAnswer" : Str), false), (("NoBook" : Str), false), (("NotABook" : Str), false), (("NotATariff" : Str), false), (("NotBounds" : Str), false), (("NothingToUndo" : Str), false), (("TooMany" : Str), false), (("UnknownName" : Str), false), (("WrongName" : Str), false), (("WrongRow" : Str), false), (("WrongValue" : Str), false)]) (eV 0)) (eLst (lCons (eC (.str "haul")) lNil)) (eLst lNil)))) (bSeq (bSet 1 (e2 oAdd (eVB 1) (eIf (e1 (isXv [(("BreaksRules" : Str), false), (("Broken" : Str), false), (("DoNotFit" : Str), false), (("InUse" : Str), false), (("InvalidCoin" : Str), false), (("InvalidCoins" : Str), false), (("InvalidHaul" : Str), false), (("InvalidIndex" : Str), false), (("InvalidLength" : Str), false), (("InvalidLine" : Str), false), (("InvalidName" : Str), false), (("InvalidPrice" : Str), true), (("InvalidPrices" : Str), false), (("InvalidRanges" : Str), false), (("InvalidRules" : Str), false), (("InvalidStops" : Str), false), (("InvalidTariff" : Str), false), (("InvalidText" : Str), false), (("InvalidTickets" : Str), false), (("InvalidWish" : Str), false), (("NoAnswer" : Str), false), (("NoBook" : Str), false), (("NotABook" : Str), false), (("NotATariff" : Str), false), (("NotBounds" : Str), false), (("NothingToUndo" : Str), false), (("TooMany" : Str), false), (("UnknownName" : Str), false), (("WrongName" : Str), false), (("WrongRow" : Str), false), (("WrongValue" : Str), false)]) (eV 0)) (eLst (lCons (eC (.str "price")) lNil)) (eLst lNil)))) (bSeq (bSet 1 (e2 oAdd (eVB 1) (eIf (e1 (isXv [(("BreaksRules" : Str), false), (("Broken" : Str), false), (("DoNotFit" : Str), false), (("InUse" : Str), false), (("InvalidCoin" : Str), false), (("InvalidCoins" : Str), false), (("InvalidHaul" : Str), false), (("InvalidIndex" : Str), false), (("InvalidLength" : Str), false), (("InvalidLine" : Str), false), (("InvalidName" : Str), false), (("InvalidPrice" : Str), false), (("InvalidPrices" : Str), false), (("InvalidRanges" : Str), false), (("InvalidRules" : Str), true), (("InvalidStops" : Str), false), (("InvalidTariff" : Str), false), (("InvalidText" : Str), false), (("InvalidTickets" : Str), false), (("InvalidWish" : Str), false), (("NoAnswer" : Str), false), (("NoBook" : Str), false), (("NotABook" : Str), false), (("NotATariff" : Str), false), (("NotBounds" : Str), false), (("NothingToUndo" : Str), false), (("TooMany" : Str), false), (("UnknownName" : Str), false), (("WrongName" : Str), false), (("WrongRow" : Str), false), (("WrongValue" : Str), false)]) (eV 0)) (eLst (lCons (eC (.str "rules")) lNil)) (eLst lNil)))) (bSeq (bSet 1 (e2 oAdd (eVB 1) (eIf (e1 (isXv [(("BreaksRules" : Str), false), (("Broken" : Str), false), (("DoNotFit" : Str), false), (("InUse" : Str), false), (("InvalidCoin" : Str), false), (("InvalidCoins" : Str), false), (("InvalidHaul" : Str), false), (("InvalidIndex" : Str), false), (("InvalidLength" : Str), false), (("InvalidLine" : Str), false), (("InvalidName" : Str), false), (("InvalidPrice" : Str), false), (("InvalidPrices" : Str), false), (("InvalidRanges" : Str), false), (("InvalidRules" : Str), false), (("InvalidStops" : Str), false), (("InvalidTariff" : Str), false), (("InvalidText" : Str), true), (("InvalidTickets" : Str), false), (("InvalidWish" : Str), false), (("NoAnswer" : Str), false), (("NoBook" : Str), false), (("NotABook" : Str), false), (("NotATariff" : Str), false), (("NotBounds" : Str), false), (("NothingToUndo" : Str), false), (("TooMany" : Str), false), (("UnknownName" : Str), false), (("WrongName" : Str), false), (("WrongRow" : Str), false), (("WrongValue" : Str), false)]) (eV 0)) (eLst (lCons (eC (.str "text")) lNil)) (eLst lNil)))) (bSeq (bSet 1 (e2 oAdd (eVB 1) (eIf (e1 (isXv [(("BreaksRules" : Str), false), (("Broken" : Str), false), (("DoNotFit" : Str), false), (("InUse" : Str), false), (("InvalidCoin" : Str), false), (("InvalidCoins" : Str), false), (("InvalidHaul" : Str), false), (("InvalidIndex" : Str), false), (("InvalidLength" : Str), true), (("InvalidLine" : Str), false), (("InvalidName" : Str), false), (("InvalidPrice" : Str), false), (("InvalidPrices" : Str), false), (("InvalidRanges" : Str), false), (("InvalidRules" : Str), false), (("InvalidStops" : Str), false), (("InvalidTariff" : Str), false), (("InvalidText" : Str), false), (("InvalidTickets" : Str), false), (("InvalidWish" : Str), false), (("NoAnswer" : Str), false), (("NoBook" : Str), false), (("NotABook" : Str), false), (("NotATariff" : Str), false), (("NotBounds" : Str), false), (("NothingToUndo" : Str), false), (("TooMany" : Str), false), (("UnknownName" : Str), false), (("WrongName" : Str), false), (("WrongRow" : Str), false), (("WrongValue" : Str), false)]) (eV 0)) (eLst (lCons (eC (.str "length")) lNil)) (eLst lNil)))) (bSeq (bSet 1 (e2 oAdd (eVB 1) (eIf (e1 (isXv [(("BreaksRules" : Str), false), (("Broken" : Str), false), (("DoNotFit" : Str), false), (("InUse" : Str), false), (("InvalidCoin" : Str), false), (("InvalidCoins" : Str), false), (("InvalidHaul" : Str), false), (("InvalidIndex" : Str), false), (("InvalidLength" : Str), false), (("InvalidLine" : Str), false), (("InvalidName" : Str), false), (("InvalidPrice" : Str), false), (("InvalidPrices" : Str), false), (("InvalidRanges" : Str), false), (("InvalidRules" : Str), false), (("InvalidStops" : Str), false), (("InvalidTariff" : Str), false), (("InvalidText" : Str), false), (("InvalidTickets" : Str), false), (("InvalidWish" : Str), false), (("NoAnswer" : Str), false), (("NoBook" : Str), false), (("NotABook" : Str), true), (("NotATariff" : Str), false), (("NotBounds" : Str), false), (("NothingToUndo" : Str), false), (("TooMany" : Str), false), (("UnknownName" : Str), false), (("WrongName" : Str), false), (("WrongRow" : Str), false), (("WrongValue" : Str), false)]) (eV 0)) (eLst (lCons (eC (.str "book")) lNil)) (eLst lNil)))) (bSeq (bSet 1 (e2 oAdd (eVB 1) (eIf (e1 (isXv [(("BreaksRules" : Str), false), (("Broken" : Str), false), (("DoNotFit" : Str), false), (("InUse" : Str), false), (("InvalidCoin" : Str), false), (("InvalidCoins" : Str), false), (("InvalidHaul" : Str), false), (("InvalidIndex" : Str), false), (("InvalidLength" : Str), false), (("InvalidLine" : Str), false), (("InvalidName" : Str), false), (("InvalidPrice" : Str), false), (("InvalidPrices" : Str), false), (("InvalidRanges" : Str), false), (("InvalidRules" : Str), false), (("InvalidStops" : Str), false), (("InvalidTariff" : Str), false), (("InvalidText" : Str), false), (("InvalidTickets" : Str), false), (("InvalidWish" : Str), false), (("NoAnswer" : Str), false), (("NoBook" : Str), false), (("NotABook" : Str), false), (("NotATariff" : Str), false), (("NotBounds" : Str), true), (("NothingToUndo" : Str), false), (("TooMany" : Str), false), (("UnknownName" : Str), false), (("WrongName" : Str), false), (("WrongRow" : Str), false), (("WrongValue" : Str), false)]) (eV 0)) (eLst (lCons (eC (.str "bounds")) lNil)) (eLst lNil)))) (bSeq (bSet 1 (e2 oAdd (eVB 1) (eIf (e1 (isXv [(("BreaksRules" : Str), false), (("Broken" : Str), false), (("DoNotFit" : Str), false), (("InUse" : Str), false), (("InvalidCoin" : Str), false), (("InvalidCoins" : Str), false), (("InvalidHaul" : Str), false), (("InvalidIndex" : Str), false), (("InvalidLength" : Str), false), (("InvalidLine" : Str), false), (("InvalidName" : Str), false), (("InvalidPrice" : Str), false), (("InvalidPrices" : Str), false), (("InvalidRanges" : Str), false), (("InvalidRules" : Str), false), (("InvalidStops" : Str), false), (("InvalidTariff" : Str), false), (("InvalidText" : Str), false), (("InvalidTickets" : Str), false), (("InvalidWish" : Str), false), (("NoAnswer" : Str), false), (("NoBook" : Str), false), (("NotABook" : Str), false), (("NotATariff" : Str), true), (("NotBounds" : Str), false), (("NothingToUndo" : Str), false), (("TooMany" : Str), false), (("UnknownName" : Str), false), (("WrongName" : Str), false), (("WrongRow" : Str), false), (("WrongValue" : Str), false)]) (eV 0)) (eLst (lCons (eC (.str "tariff")) lNil)) (eLst lNil)))) (bSeq (bSet 1 (e2 oAdd (eVB 1) (eIf (e1 (isXv [(("BreaksRules" : Str), false), (("Broken" : Str), false), (("DoNotFit" : Str), false), (("InUse" : Str), false), (("InvalidCoin" : Str), false), (("InvalidCoins" : Str), false), (("InvalidHaul" : Str), false), (("InvalidIndex" : Str), false), (("InvalidLength" : Str), false), (("InvalidLine" : Str), false), (("InvalidName" : Str), false), (("InvalidPrice" : Str), false), (("InvalidPrices" : Str), true), (("InvalidRanges" : Str), false), (("InvalidRules" : Str), false), (("InvalidStops" : Str), false), (("InvalidTariff" : Str), false), (("InvalidText" : Str), false), (("InvalidTickets" : Str), false), (("InvalidWish" : Str), false), (("NoAnswer" : Str), false), (("NoBook" : Str), false), (("NotABook" : Str), false), (("NotATariff" : Str), false), (("NotBounds" : Str), false), (("NothingToUndo" : Str), false), (("TooMany" : Str), false), (("UnknownName" : Str), false), (("WrongName" : Str), false), (("WrongRow" : Str), false), (("WrongValue" : Str), false)]) (eV 0)) (eLst (lCons (eC (.str "prices")) lNil)) (eLst lNil)))) (bSeq (bSet 1 (e2 oAdd (eVB 1) (eIf (e1 (isXv [(("BreaksRules" : Str), false), (("Broken" : Str), false), (("DoNotFit" : Str), false), (("InUse" : Str), false), (("InvalidCoin" : Str), false), (("InvalidCoins" : Str), false), (("InvalidHaul" : Str), false), (("InvalidIndex" : Str), false), (("InvalidLength" : Str), false), (("InvalidLine" : Str), false), (("InvalidName" : Str), false), (("InvalidPrice" : Str), false), (("InvalidPrices" : Str), false), (("InvalidRanges" : Str), true), (("InvalidRules" : Str), false), (("InvalidStops" : Str), false), (("InvalidTariff" : Str), false), (("InvalidText" : Str), false), (("InvalidTickets" : Str), false), (("InvalidWish" : Str), false), (("NoAnswer" : Str), false), (("NoBook" : Str), false), (("NotABook" : Str), false), (("NotATariff" : Str), false), (("NotBounds" : Str), false), (("NothingToUndo" : Str), false), (("TooMany" : Str), false), (("UnknownName" : Str), false), (("WrongName" : Str), false), (("WrongRow" : Str), false), (("WrongValue" : Str), false)]) (eV 0)) (eLst (lCons (eC (.str "ranges")) lNil)) (eLst lNil)))) (bSeq (bSet 1 (e2 oAdd (eVB 1) (eIf (e1 (isXv [(("BreaksRules" : Str), false), (("Broken" : Str), false), (("DoNotFit" : Str), false), (("InUse" : Str), false), (("InvalidCoin" : Str), false), (("InvalidCoins" : Str), false), (("InvalidHaul" : Str), false), (("InvalidIndex" : Str), false), (("InvalidLength" : Str), false), (("InvalidLine" : Str), false), (("InvalidName" : Str), false), (("InvalidPrice" : Str), false), (("InvalidPrices" : Str), false), (("InvalidRanges" : Str), false), (("InvalidRules" : Str), false), (("InvalidStops" : Str), false), (("InvalidTariff" : Str), false), (("InvalidText" : Str), false), (("InvalidTickets" : Str), true), (("InvalidWish" : Str), false), (("NoAnswer" : Str), false), (("NoBook" : Str), false), (("NotABook" : Str), false), (("NotATariff" : Str), false), (("NotBounds" : Str), false), (("NothingToUndo" : Str), false), (("TooMany" : Str), false), (("UnknownName" : Str), false), (("WrongName" : Str), false), (("WrongRow" : Str), false), (("WrongValue" : Str), false)]) (eV 0)) (eLst (lCons (eC (.str "tickets")) lNil)) (eLst lNil)))) (bSeq (bSet 1 (e2 oAdd (eVB 1) (eIf (e1 (isXv [(("BreaksRules" : Str), false), (("Broken" : Str), false), (("DoNotFit" : Str), false), (("InUse" : Str), false), (("InvalidCoin" : Str), false), (("InvalidCoins" : Str), false), (("InvalidHaul" : Str), false), (("InvalidIndex" : Str), false), (("InvalidLength" : Str), false), (("InvalidLine" : Str), false), (("InvalidName" : Str), false), (("InvalidPrice" : Str), false), (("InvalidPrices" : Str), false), (("InvalidRanges" : Str), false), (("InvalidRules" : Str), false), (("InvalidStops" : Str), false), (("InvalidTariff" : Str), true), (("InvalidText" : Str), false), (("InvalidTickets" : Str), false), (("InvalidWish" : Str), false), (("NoAnswer" : Str), false), (("NoBook" : Str), false), (("NotABook" : Str), false), (("NotATariff" : Str), false), (("NotBounds" : Str), false), (("NothingToUndo" : Str), false), (("TooMany" : Str), false), (("UnknownName" : Str), false), (("WrongName" : Str), false), (("WrongRow" : Str), false), (("WrongValue" : Str), false)]) (eV 0)) (eLst (lCons (eC (.str "fares")) lNil)) (eLst lNil)))) (bSeq (bSet 1 (e2 oAdd (eVB 1) (eIf (e1 (isXv [(("BreaksRules" : Str), false), (("Broken" : Str), false), (("DoNotFit" : Str), false), (("InUse" : Str), false), (("InvalidCoin" : Str), false), (("InvalidCoins" : Str), false), (("InvalidHaul" : Str), false), (("InvalidIndex" : Str), false), (("InvalidLength" : Str), false), (("InvalidLine" : Str), false), (("InvalidName" : Str), false), (("InvalidPrice" : Str), false), (("InvalidPrices" : Str), false), (("InvalidRanges" : Str), false), (("InvalidRules" : Str), false), (("InvalidStops" : Str), false), (("InvalidTariff" : Str), false), (("InvalidText" : Str), false), (("InvalidTickets" : Str), false), (("InvalidWish" : Str), false), (("NoAnswer" : Str), false), (("NoBook" : Str), false), (("NotABook" : Str), false), (("NotATariff" : Str), false), (("NotBounds" : Str), false), (("NothingToUndo" : Str), false), (("TooMany" : Str), false), (("UnknownName" : Str), false), (("WrongName" : Str), false), (("WrongRow" : Str), true), (("WrongValue" : Str), false)]) (eV 0)) (eLst (lCons (eC (.str "row")) lNil)) (eLst lNil)))) (bSeq (bSet 1 (e2 oAdd (eVB 1) (eIf (e1 (isXv [(("BreaksRules" : Str), true), (("Broken" : Str), false), (("DoNotFit" : Str), false), (("InUse" : Str), false), (("InvalidCoin" : Str), false), (("InvalidCoins" : Str), false), (("InvalidHaul" : Str), false), (("InvalidIndex" : Str), false), (("InvalidLength" : Str), false), (("InvalidLine" : Str), false), (("InvalidName" : Str), false), (("InvalidPrice" : Str), false), (("InvalidPrices" : Str), false), (("InvalidRanges" : Str), false), (("InvalidRules" : Str), false), (("InvalidStops" : Str), false), (("InvalidTariff" : Str), false), (("InvalidText" : Str), false), (("InvalidTickets" : Str), false), (("InvalidWish" : Str), false), (("NoAnswer" : Str), false), (("NoBook" : Str), false), (("NotABook" : Str), false), (("NotATariff" : Str), false), (("NotBounds" : Str), false), (("NothingToUndo" : Str), false), (("TooMany" : Str), false), (("UnknownName" : Str), false), (("WrongName" : Str), false), (("WrongRow" : Str), false), (("WrongValue" : Str), false)]) (eV 0)) (eLst (lCons (eC (.str "breaks")) lNil)) (eLst lNil)))) (bSeq (bSet 1 (e2 oAdd (eVB 1) (eIf (e1 (isXv [(("BreaksRules" : Str), false), (("Broken" : Str), false), (("DoNotFit" : Str), false), (("InUse" : Str), false), (("InvalidCoin" : Str), false), (("InvalidCoins" : Str), false), (("InvalidHaul" : Str), false), (("InvalidIndex" : Str), false), (("InvalidLength" : Str), false), (("InvalidLine" : Str), false), (("InvalidName" : Str), false), (("InvalidPrice" : Str), false), (("InvalidPrices" : Str), false), (("InvalidRanges" : Str), false), (("InvalidRules" : Str), false), (("InvalidStops" : Str), false), (("InvalidTariff" : Str), false), (("InvalidText" : Str), false), (("InvalidTickets" : Str), false), (("InvalidWish" : Str), false), (("NoAnswer" : Str), false), (("NoBook" : Str), true), (("NotABook" : Str), false), (("NotATariff" : Str), false), (("NotBounds" : Str), false), (("NothingToUndo" : Str), false), (("TooMany" : Str), false), (("UnknownName" : Str), false), (("WrongName" : Str), false), (("WrongRow" : Str), false), (("WrongValue" : Str), false)]) (eV 0)) (eLst (lCons (eC (.str "none")) lNil)) (eLst lNil)))) (bSeq (bSet 1 (e2 oAdd (eVB 1) (eIf (e1 (isXv [(("BreaksRules" : Str), false), (("Broken" : Str), false), (("DoNotFit" : Str), true), (("InUse" : Str), false), (("InvalidCoin" : Str), false), (("InvalidCoins" : Str), false), (("InvalidHaul" : Str), false), (("InvalidIndex" : Str), false), (("InvalidLength" : Str), false), (("InvalidLine" : Str), false), (("InvalidName" : Str), false), (("InvalidPrice" : Str), false), (("InvalidPrices" : Str), false), (("InvalidRanges" : Str), false), (("InvalidRules" : Str), false), (("InvalidStops" : Str), false), (("InvalidTariff" : Str), false), (("InvalidText" : Str), false), (("InvalidTickets" : Str), false), (("InvalidWish" : Str), false), (("NoAnswer" : Str), false), (("NoBook" : Str), false), (("NotABook" : Str), false), (("NotATariff" : Str), false), (("NotBounds" : Str), false), (("NothingToUndo" : Str), false), (("TooMany" : Str), false), (("UnknownName" : Str), false), (("WrongName" : Str), false), (("WrongRow" : Str), false), (("WrongValue" : Str), false)]) (eV 0)) (eLst (lCons (eC (.str "fit")) lNil)) (eLst lNil)))) (bSeq (bSet 1 (e2 oAdd (eVB 1) (eIf (e1 (isXv [(("BreaksRules" : Str), false), (("Broken" : Str), false), (("DoNotFit" : Str), false), (("InUse" : Str), false), (("InvalidCoin" : Str), false), (("InvalidCoins" : Str), false), (("InvalidHaul" : Str), false), (("InvalidIndex" : Str), false), (("InvalidLength" : Str), false), (("InvalidLine" : Str), false), (("InvalidName" : Str), false), (("InvalidPrice" : Str), false), (("InvalidPrices" : Str), false), (("InvalidRanges" : Str), false), (("InvalidRules" : Str), false), (("InvalidStops" : Str), false), (("InvalidTariff" : Str), false), (("InvalidText" : Str), false), (("InvalidTickets" : Str), false), (("InvalidWish" : Str), false), (("NoAnswer" : Str), false), (("NoBook" : Str), false), (("NotABook" : Str), false), (("NotATariff" : Str), false), (("NotBounds" : Str), false), (("NothingToUndo" : Str), true), (("TooMany" : Str), false), (("UnknownName" : Str), false), (("WrongName" : Str), false), (("WrongRow" : Str), false), (("WrongValue" : Str), false)]) (eV 0)) (eLst (lCons (eC (.str "undo")) lNil)) (eLst lNil)))) (bSeq (bSet 1 (e2 oAdd (eVB 1) (eIf (e1 (isXv [(("BreaksRules" : Str), false), (("Broken" : Str), false), (("DoNotFit" : Str), false), (("InUse" : Str), false), (("InvalidCoin" : Str), false), (("InvalidCoins" : Str), false), (("InvalidHaul" : Str), false), (("InvalidIndex" : Str), false), (("InvalidLength" : Str), false), (("InvalidLine" : Str), false), (("InvalidName" : Str), false), (("InvalidPrice" : Str), false), (("InvalidPrices" : Str), false), (("InvalidRanges" : Str), false), (("InvalidRules" : Str), false), (("InvalidStops" : Str), false), (("InvalidTariff" : Str), false), (("InvalidText" : Str), false), (("InvalidTickets" : Str), false), (("InvalidWish" : Str), false), (("NoAnswer" : Str), false), (("NoBook" : Str), false), (("NotABook" : Str), false), (("NotATariff" : Str), false), (("NotBounds" : Str), false), (("NothingToUndo" : Str), false), (("TooMany" : Str), true), (("UnknownName" : Str), false), (("WrongName" : Str), false), (("WrongRow" : Str), false), (("WrongValue" : Str), false)]) (eV 0)) (eLst (lCons (eC (.str "many")) lNil)) (eLst lNil)))) (bSeq (bSet 1 (e2 oAdd (eVB 1) (eIf (e1 (isXv [(("BreaksRules" : Str), false), (("Broken" : Str), false), (("DoNotFit" : Str), false), (("InUse" : Str), false), (("InvalidCoin" : Str), true), (("InvalidCoins" : Str), false), (("InvalidHaul" : Str), false), (("InvalidIndex" : Str), false), (("InvalidLength" : Str), false), (("InvalidLine" : Str), false), (("InvalidName" : Str), false), (("InvalidPrice" : Str), false), (("InvalidPrices" : Str), false), (("InvalidRanges" : Str), false), (("InvalidRules" : Str), false), (("InvalidStops" : Str), false), (("InvalidTariff" : Str), false), (("InvalidText" : Str), false), (("InvalidTickets" : Str), false), (("InvalidWish" : Str), false), (("NoAnswer" : Str), false), (("NoBook" : Str), false), (("NotABook" : Str), false), (("NotATariff" : Str), false), (("NotBounds" : Str), false), (("NothingToUndo" : Str), false), (("TooMany" : Str), false), (("UnknownName" : Str), false), (("WrongName" : Str), false), (("WrongRow" : Str), false), (("WrongValue" : Str), false)]) (eV 0)) (eLst (lCons (eC (.str "coin")) lNil)) (eLst lNil)))) (bSeq (bSet 1 (e2 oAdd (eVB 1) (eIf (e1 (isXv [(("BreaksRules" : Str), false), (("Broken" : Str), false), (("DoNotFit" : Str), false), (("InUse" : Str), false), (("InvalidCoin" : Str), false), (("InvalidCoins" : Str), false), (("InvalidHaul" : Str), false), (("InvalidIndex" : Str), false), (("InvalidLength" : Str), false), (("InvalidLine" : Str), false), (("InvalidName" : Str), true), (("InvalidPrice" : Str), false), (("InvalidPrices" : Str), false), (("InvalidRanges" : Str), false), (("InvalidRules" : Str), false), (("InvalidStops" : Str), false), (("InvalidTariff" : Str), false), (("InvalidText" : Str), false), (("InvalidTickets" : Str), false), (("InvalidWish" : Str), false), (("NoAnswer" : Str), false), (("NoBook" : Str), false), (("NotABook" : Str), false), (("NotATariff" : Str), false), (("NotBounds" : Str), false), (("NothingToUndo" : Str), false), (("TooMany" : Str), false), (("UnknownName" : Str), false), (("WrongName" : Str), false), (("WrongRow" : Str), false), (("WrongValue" : Str), false)]) (eV 0)) (eLst (lCons (eC (.str "name")) lNil)) (eLst lNil)))) (bSeq (bSet 1 (e2 oAdd (eVB 1) (eIf (e1 (isXv [(("BreaksRules" : Str), false), (("Broken" : Str), false), (("DoNotFit" : Str), false), (("InUse" : Str), false), (("InvalidCoin" : Str), false), (("InvalidCoins" : Str), false), (("InvalidHaul" : Str), false), (("InvalidIndex" : Str), false), (("InvalidLength" : Str), false), (("InvalidLine" : Str), false), (("InvalidName" : Str), false), (("InvalidPrice" : Str), false), (("InvalidPrices" : Str), false), (("InvalidRanges" : Str), false), (("InvalidRules" : Str), false), (("InvalidStops" : Str), false), (("InvalidTariff" : Str), false), (("InvalidText" : Str), false), (("InvalidTickets" : Str), false), (("InvalidWish" : Str), true), (("NoAnswer" : Str), false), (("NoBook" : Str), false), (("NotABook" : Str), false), (("NotATariff" : Str), false), (("NotBounds" : Str), false), (("NothingToUndo" : Str), false), (("TooMany" : Str), false), (("UnknownName" : Str), false), (("WrongName" : Str), false), (("WrongRow" : Str), false), (("WrongValue" : Str), false)]) (eV 0)) (eLst (lCons (eC (.str "wish")) lNil)) (eLst lNil)))) (bSeq (bSet 1 (e2 oAdd (eVB 1) (eIf (e1 (isXv [(("BreaksRules" : Str), false), (("Broken" : Str), false), (("DoNotFit" : Str), false), (("InUse" : Str), false), (("InvalidCoin" : Str), false), (("InvalidCoins" : Str), false), (("InvalidHaul" : Str), false), (("InvalidIndex" : Str), true), (("InvalidLength" : Str), false), (("InvalidLine" : Str), false), (("InvalidName" : Str), false), (("InvalidPrice" : Str), false), (("InvalidPrices" : Str), false), (("InvalidRanges" : Str), false), (("InvalidRules" : Str), false), (("InvalidStops" : Str), false), (("InvalidTariff" : Str), false), (("InvalidText" : Str), false), (("InvalidTickets" : Str), false), (("InvalidWish" : Str), false), (("NoAnswer" : Str), false), (("NoBook" : Str), false), (("NotABook" : Str), false), (("NotATariff" : Str), false), (("NotBounds" : Str), false), (("NothingToUndo" : Str), false), (("TooMany" : Str), false), (("UnknownName" : Str), false), (("WrongName" : Str), false), (("WrongRow" : Str), false), (("WrongValue" : Str), false)]) (eV 0)) (eLst (lCons (eC (.str "index")) lNil)) (eLst lNil)))) (bSeq (bSet 1 (e2 oAdd (eVB 1) (eIf (e1 (isXv [(("BreaksRules" : Str), false), (("Broken" : Str), false), (("DoNotFit" : Str), false), (("InUse" : Str), false), (("InvalidCoin" : Str), false), (("InvalidCoins" : Str), false), (("InvalidHaul" : Str), false), (("InvalidIndex" : Str), false), (("InvalidLength" : Str), false), (("InvalidLine" : Str), true), (("InvalidName" : Str), false), (("InvalidPrice" : Str), false), (("InvalidPrices" : Str), false), (("InvalidRanges" : Str), false), (("InvalidRules" : Str), false), (("InvalidStops" : Str), false), (("InvalidTariff" : Str), false), (("InvalidText" : Str), false), (("InvalidTickets" : Str), false), (("InvalidWish" : Str), false), (("NoAnswer" : Str), false), (("NoBook" : Str), false), (("NotABook" : Str), false), (("NotATariff" : Str), false), (("NotBounds" : Str), false), (("NothingToUndo" : Str), false), (("TooMany" : Str), false), (("UnknownName" : Str), false), (("WrongName" : Str), false), (("WrongRow" : Str), false), (("WrongValue" : Str), false)]) (eV 0)) (eLst (lCons (eC (.str "line")) lNil)) (eLst lNil)))) (bSeq (bSet 1 (e2 oAdd (eVB 1) (eIf (e1 (isXv [(("BreaksRules" : Str), false), (("Broken" : Str), false), (("DoNotFit" : Str), false), (("InUse" : Str), false), (("InvalidCoin" : Str), false), (("InvalidCoins" : Str), true), (("InvalidHaul" : Str), false), (("InvalidIndex" : Str), false), (("InvalidLength" : Str), false), (("InvalidLine" : Str), false), (("InvalidName" : Str), false), (("InvalidPrice" : Str), false), (("InvalidPrices" : Str), false), (("InvalidRanges" : Str), false), (("InvalidRules" : Str), false), (("InvalidStops" : Str), false), (("InvalidTariff" : Str), false), (("InvalidText" : Str), false), (("InvalidTickets" : Str), false), (("InvalidWish" : Str), false), (("NoAnswer" : Str), false), (("NoBook" : Str), false), (("NotABook" : Str), false), (("NotATariff" : Str), false), (("NotBounds" : Str), false), (("NothingToUndo" : Str), false), (("TooMany" : Str), false), (("UnknownName" : Str), false), (("WrongName" : Str), false), (("WrongRow" : Str), false), (("WrongValue" : Str), false)]) (eV 0)) (eLst (lCons (eC (.str "coins")) lNil)) (eLst lNil)))) (bSeq (bSet 1 (e2 oAdd (eVB 1) (eIf (e1 (isXv [(("BreaksRules" : Str), false), (("Broken" : Str), false), (("DoNotFit" : Str), false), (("InUse" : Str), false), (("InvalidCoin" : Str), false), (("InvalidCoins" : Str), false), (("InvalidHaul" : Str), false), (("InvalidIndex" : Str), false), (("InvalidLength" : Str), false), (("InvalidLine" : Str), false), (("InvalidName" : Str), false), (("InvalidPrice" : Str), false), (("InvalidPrices" : Str), false), (("InvalidRanges" : Str), false), (("InvalidRules" : Str), false), (("InvalidStops" : Str), false), (("InvalidTariff" : Str), false), (("InvalidText" : Str), false), (("InvalidTickets" : Str), false), (("InvalidWish" : Str), false), (("NoAnswer" : Str), false), (("NoBook" : Str), false), (("NotABook" : Str), false), (("NotATariff" : Str), false), (("NotBounds" : Str), false), (("NothingToUndo" : Str), false), (("TooMany" : Str), false), (("UnknownName" : Str), true), (("WrongName" : Str), false), (("WrongRow" : Str), false), (("WrongValue" : Str), false)]) (eV 0)) (eLst (lCons (eC (.str "unknown")) lNil)) (eLst lNil)))) (bSeq (bSet 1 (e2 oAdd (eVB 1) (eIf (e1 (isXv [(("BreaksRules" : Str), false), (("Broken" : Str), false), (("DoNotFit" : Str), false), (("InUse" : Str), true), (("InvalidCoin" : Str), false), (("InvalidCoins" : Str), false), (("InvalidHaul" : Str), false), (("InvalidIndex" : Str), false), (("InvalidLength" : Str), false), (("InvalidLine" : Str), false), (("InvalidName" : Str), false), (("InvalidPrice" : Str), false), (("InvalidPrices" : Str), false), (("InvalidRanges" : Str), false), (("InvalidRules" : Str), false), (("InvalidStops" : Str), false), (("InvalidTariff" : Str), false), (("InvalidText" : Str), false), (("InvalidTickets" : Str), false), (("InvalidWish" : Str), false), (("NoAnswer" : Str), false), (("NoBook" : Str), false), (("NotABook" : Str), false), (("NotATariff" : Str), false), (("NotBounds" : Str), false), (("NothingToUndo" : Str), false), (("TooMany" : Str), false), (("UnknownName" : Str), false), (("WrongName" : Str), false), (("WrongRow" : Str), false), (("WrongValue" : Str), false)]) (eV 0)) (eLst (lCons (eC (.str "use")) lNil)) (eLst lNil)))) (bSeq (bSet 1 (e2 oAdd (eVB 1) (eIf (e1 (isXv [(("BreaksRules" : Str), false), (("Broken" : Str), true), (("DoNotFit" : Str), false), (("InUse" : Str), false), (("InvalidCoin" : Str), false), (("InvalidCoins" : Str), false), (("InvalidHaul" : Str), false), (("InvalidIndex" : Str), false), (("InvalidLength" : Str), false), (("InvalidLine" : Str), false), (("InvalidName" : Str), false), (("InvalidPrice" : Str), false), (("InvalidPrices" : Str), false), (("InvalidRanges" : Str), false), (("InvalidRules" : Str), false), (("InvalidStops" : Str), false), (("InvalidTariff" : Str), false), (("InvalidText" : Str), false), (("InvalidTickets" : Str), false), (("InvalidWish" : Str), false), (("NoAnswer" : Str), false), (("NoBook" : Str), false), (("NotABook" : Str), false), (("NotATariff" : Str), false), (("NotBounds" : Str), false), (("NothingToUndo" : Str), false), (("TooMany" : Str), false), (("UnknownName" : Str), false), (("WrongName" : Str), false), (("WrongRow" : Str), false), (("WrongValue" : Str), false)]) (eV 0)) (eLst (lCons (eC (.str "broken")) lNil)) (eLst lNil)))) (bRet (eV 1)))))))))))))))))))))))))))))))
def c__law_tags (ds M : List D) : R := endE (b__law_tags (env0 N__law_tags.length ds) M)
def N__law_jar : List Str := [("_law_script" : Str), ("_law_k" : Str), ("_law_mixed" : Str), ("_law_cell" : Str), ("_law_own" : Str), ("_law_digits" : Str)]
def b__law_jar_1 : SF := (bSet 2 (e2 oMod (eCall bInt (lCons (e2 oAdd (e2 oMul (eVB 2) (eC (.int 617))) (eVB 3)) lNil)) (eC (.int 1000000007))))
def b__law_jar : SF := (bSeq (bSet 2 (e2 oAdd (e2 oMul (e2 oMul (eC (.int 6007)) (e2 oAdd (eVB 1) (eC (.int 4)))) (e2 oAdd (eVB 1) (eC (.int 3)))) (e2 oMul (eC (.int 17)) (eCall bLen (lCons (eVB 0) lNil))))) (bSeq (bFor (iSeq (eSl oSlE (eVB 0) (eC .non) (eInt (eC (.int 4))))) (gN 3) b__law_jar_1) (bSeq (bSet 4 (eIf (e2 oLt (eVB 1) (eCall bLen (lCons (eVB 0) lNil))) (e2 oIx (eVB 0) (eVB 1)) (eC (.int 0)))) (bSeq (bSet 5 (eIf (eOr (e2 oLt (eVB 4) (eC (.int 0))) (e2 oGe (eVB 4) (e2 oPow (eC (.int 10)) (eC (.int 18))))) (eCall bAbs (lCons (eVB 4) lNil)) (eC (.int 0)))) (bRet (eCell (eLst (lCons (eV 5) (lCons (e2 oMod (eCall bInt (lCons (e2 oAdd (e2 oAdd (e2 oMul (eVB 2) (eC (.int 7907))) (e2 oMul (eVB 4) (eC (.int 65537)))) (e2 oMul (eC (.int 104729)) (e2 oAdd (eVB 1) (eC (.int 1))))) lNil)) (eC (.int 2147483587))) (lCons (eC (.int 0)) lNil))))))))))
def c__law_jar (ds M : List D) : R := endE (b__law_jar (env0 N__law_jar.length ds) M)
def N__law_dip : List Str := [("_law_jar_here" : Str), ("_law_many" : Str), ("_law_digit" : Str), ("_law_seed" : Str)]
def b__law_dip : SF := (bSeq (bSub 0 (eC (.int 2)) (e2 oAdd (e2 oIx (eVB 0) (eC (.int 2))) (eC (.int 1)))) (bSeq (bIf (e2 oGt (e2 oIx (eVB 0) (eC (.int 0))) (eC (.int 0))) (bSeq (bSet 2 (e2 oMod (eCall bInt (lCons (e2 oIx (eVB 0) (eC (.int 0))) lNil)) (eVB 1))) (bSeq (bSub 0 (eC (.int 0)) (e2 oDiv (eCall bInt (lCons (e2 oIx (eVB 0) (eC (.int 0))) lNil)) (eVB 1))) (bRet (eV 2)))) bNext) (bSeq (bSet 3 (eCall bInt (lCons (e2 oIx (eVB 0) (eC (.int 1))) lNil))) (bSeq (bSub 0 (eC (.int 1)) (e2 oMod (eCall bInt (lCons (e2 oAdd (e2 oAdd (e2 oMul (eVB 3) (eC (.int 48271))) (e2 oMul (e2 oIx (eVB 0) (eC (.int 2))) (eC (.int 40503)))) (eC (.int 17))) lNil)) (eC (.int 2147483629)))) (bRet (e2 oMod (eCall bInt (lCons (e2 oDiv (e2 oIx (eVB 0) (eC (.int 1))) (eC (.int 4096))) lNil)) (eVB 1)))))))
def c__law_dip (ds M : List D) : R := endE (b__law_dip (env0 N__law_dip.length ds) M)
def N__law_pick : List Str := [("_law_jar_here" : Str), ("_law_menu" : Str), ("_law_at" : Str)]
def b__law_pick : SF := (bSeq (bSet 2 (eCall (apC c__law_dip 2 []) (lCons (eV 0) (lCons (eCall bLen (lCons (eVB 1) lNil)) lNil)))) (bRet (e2 oIx (eVB 1) (eVB 2))))
def c__law_pick (ds M : List D) : R := endE (b__law_pick (env0 N__law_pick.length ds) M)
def N__law_words : List Str := [("_law_found" : Str)]
def b__law_words : SF := (bSeq (bSet 0 (eLst (lCons (eC (.str "stops")) (lCons (eC (.str "haul")) (lCons (eC (.str "price")) (lCons (eC (.str "rules")) (lCons (eC (.str "text")) (lCons (eC (.str "length")) (lCons (eC (.str "coin")) (lCons (eC (.str "name")) (lCons (eC (.str "wish")) (lCons (eC (.str "index")) (lCons (eC (.str "line")) (lCons (eC (.str "book")) lNil)))))))))))))) (bSeq (bSet 0 (e2 oAdd (eVB 0) (eLst (lCons (eC (.str "bounds")) (lCons (eC (.str "tariff")) (lCons (eC (.str "prices")) (lCons (eC (.str "ranges")) (lCons (eC (.str "tickets")) (lCons (eC (.str "fares")) (lCons (eC (.str "coins")) (lCons (eC (.str "row")) (lCons (eC (.str "unknown")) (lCons (eC (.str "use")) lNil))))))))))))) (bRet (e2 oAdd (eVB 0) (eLst (lCons (eC (.str "breaks")) (lCons (eC (.str "none")) (lCons (eC (.str "broken")) (lCons (eC (.str "fit")) (lCons (eC (.str "undo")) (lCons (eC (.str "many")) lNil)))))))))))
def c__law_words (ds M : List D) : R := endE (b__law_words (env0 N__law_words.length ds) M)
def N__law_kept : List Str := [("_law_e" : Str), ("_law_at" : Str)]
def b__law_kept : SF := (bSeq (bIf (e2 (oInF false) (eVB 1) (eLst (lCons (eC (.int 25)) (lCons (eC (.int 26)) lNil)))) (bRet (eC .non)) bNext) (bSeq (bIf (e2 (oInF false) (eVB 1) (eLst (lCons (eC (.int 22)) (lCons (eC (.int 23)) lNil)))) (bRet (e1 (xfV [("BreaksRules" : Str), ("NoBook" : Str)] "shown") (eV 0))) bNext) (bSeq (bIf (e2 oEq (eVB 1) (eC (.int 27))) (bRet (e1 (xfV [("TooMany" : Str)] "limit") (eV 0))) bNext) (bRet (eIf (e2 (oInF false) (eVB 1) (eLst (lCons (eC (.int 14)) (lCons (eC (.int 15)) (lCons (eC (.int 16)) (lCons (eC (.int 17)) (lCons (eC (.int 18)) (lCons (eC (.int 19)) (lCons (eC (.int 21)) (lCons (eC (.int 24)) lNil)))))))))) (e1 (xfV [("Broken" : Str), ("InUse" : Str), ("InvalidCoins" : Str), ("InvalidPrices" : Str), ("InvalidRanges" : Str), ("InvalidTariff" : Str), ("InvalidTickets" : Str), ("WrongRow" : Str)] "index") (eV 0)) (e1 (xfV [("InvalidCoin" : Str), ("InvalidHaul" : Str), ("InvalidIndex" : Str), ("InvalidLength" : Str), ("InvalidLine" : Str), ("InvalidName" : Str), ("InvalidPrice" : Str), ("InvalidRules" : Str), ("InvalidStops" : Str), ("InvalidText" : Str), ("InvalidWish" : Str), ("NotABook" : Str), ("NotATariff" : Str), ("NotBounds" : Str), ("UnknownName" : Str)] "given") (eV 0)))))))
def c__law_kept (ds M : List D) : R := endE (b__law_kept (env0 N__law_kept.length ds) M)
def N__law_right : List Str := [("_law_some" : Str), ("_law_thing" : Str), ("_law_at" : Str), ("_law_base" : Str), ("_law_k" : Str)]
def b__law_right_1 : EF := (e2 oEq (eVB 4) (eVB 3))
def b__law_right_2 : SF := (bSeq (bSet 3 (eIf (e2 oLt (eVB 2) (eC (.int 20))) (eC (.int 0)) (eIf (e2 oLt (eVB 2) (eC (.int 22))) (eC (.int 1)) (eC (.int 2))))) (bSeq (bIf (eOr (e2 oNe (eCall (apC c__law_tags 1 []) (lCons (e2 oIx (eVB 0) (eVB 2)) lNil)) (eLst (lCons (e2 oIx (eCall (apC c__law_words 0 []) lNil) (eVB 2)) lNil))) (e2 oNe (eCall (apC c__law_bases 1 []) (lCons (e2 oIx (eVB 0) (eVB 2)) lNil)) (e2 oMulL (eComp (iRng1 (eC (.int 3))) (gN 4) (eC (.bl true)) b__law_right_1 [4]) (eC (.int 2))))) (bRet (eC (.bl false))) bNext) (bIf (e2 oNe (eCall bReprK (lCons (eCall (apC c__law_kept 2 []) (lCons (e2 oIx (eVB 0) (eVB 2)) (lCons (eV 2) lNil))) lNil)) (eCall bReprK (lCons (eIf (e2 (oInF false) (eVB 2) (eLst (lCons (eC (.int 25)) (lCons (eC (.int 26)) lNil)))) (eC .non) (eV 1)) lNil))) (bRet (eC (.bl false))) bNext)))
def b__law_right : SF := (bSeq (bFor (iRng1 (eC (.int 28))) (gN 2) b__law_right_2) (bRet (eC (.bl true))))
def c__law_right (ds M : List D) : R := endE (b__law_right (env0 N__law_right.length ds) M)
def N_InvalidStops___init__ : List Str := [("self" : Str), ("given" : Str)]
def N_InvalidHaul___init__ : List Str := [("self" : Str), ("given" : Str)]
def N_InvalidPrice___init__ : List Str := [("self" : Str), ("given" : Str)]
def N_InvalidRules___init__ : List Str := [("self" : Str), ("given" : Str)]
def N_InvalidText___init__ : List Str := [("self" : Str), ("given" : Str)]
def N_InvalidLength___init__ : List Str := [("self" : Str), ("given" : Str)]
def N_InvalidCoin___init__ : List Str := [("self" : Str), ("given" : Str)]
def N_InvalidName___init__ : List Str := [("self" : Str), ("given" : Str)]
def N_InvalidWish___init__ : List Str := [("self" : Str), ("given" : Str)]
def N_InvalidIndex___init__ : List Str := [("self" : Str), ("given" : Str)]
def N_InvalidLine___init__ : List Str := [("self" : Str), ("given" : Str)]
def N_NotABook___init__ : List Str := [("self" : Str), ("given" : Str)]
def N_NotBounds___init__ : List Str := [("self" : Str), ("given" : Str)]
def N_NotATariff___init__ : List Str := [("self" : Str), ("given" : Str)]
def N_InvalidPrices___init__ : List Str := [("self" : Str), ("index" : Str)]
def N_InvalidRanges___init__ : List Str := [("self" : Str), ("index" : Str)]
def N_InvalidTickets___init__ : List Str := [("self" : Str), ("index" : Str)]
def N_InvalidTariff___init__ : List Str := [("self" : Str), ("index" : Str)]
def N_InvalidCoins___init__ : List Str := [("self" : Str), ("index" : Str)]
def N_WrongRow___init__ : List Str := [("self" : Str), ("index" : Str)]
def N_UnknownName___init__ : List Str := [("self" : Str), ("given" : Str)]
def N_InUse___init__ : List Str := [("self" : Str), ("index" : Str)]
def N_BreaksRules___init__ : List Str := [("self" : Str), ("shown" : Str)]
def N_NoBook___init__ : List Str := [("self" : Str), ("shown" : Str)]
def N_Broken___init__ : List Str := [("self" : Str), ("index" : Str)]
def N_TooMany___init__ : List Str := [("self" : Str), ("limit" : Str)]
def N__law_all : List Str := [("_law_thing" : Str), ("_law_found" : Str)]
def b__law_all : SF := (bSeq (bSet 1 (eLst (lCons (eXv "InvalidStops" "given" (lCons (eV 0) lNil)) (lCons (eXv "InvalidHaul" "given" (lCons (eV 0) lNil)) (lCons (eXv "InvalidPrice" "given" (lCons (eV 0) lNil)) (lCons (eXv "InvalidRules" "given" (lCons (eV 0) lNil)) (lCons (eXv "InvalidText" "given" (lCons (eV 0) lNil)) lNil))))))) (bSeq (bSet 1 (e2 oAdd (eVB 1) (eLst (lCons (eXv "InvalidLength" "given" (lCons (eV 0) lNil)) (lCons (eXv "InvalidCoin" "given" (lCons (eV 0) lNil)) (lCons (eXv "InvalidName" "given" (lCons (eV 0) lNil)) (lCons (eXv "InvalidWish" "given" (lCons (eV 0) lNil)) lNil))))))) (bSeq (bSet 1 (e2 oAdd (eVB 1) (eLst (lCons (eXv "InvalidIndex" "given" (lCons (eV 0) lNil)) (lCons (eXv "InvalidLine" "given" (lCons (eV 0) lNil)) (lCons (eXv "NotABook" "given" (lCons (eV 0) lNil)) (lCons (eXv "NotBounds" "given" (lCons (eV 0) lNil)) (lCons (eXv "NotATariff" "given" (lCons (eV 0) lNil)) lNil)))))))) (bSeq (bSet 1 (e2 oAdd (eVB 1) (eLst (lCons (eXv "InvalidPrices" "index" (lCons (eV 0) lNil)) (lCons (eXv "InvalidRanges" "index" (lCons (eV 0) lNil)) (lCons (eXv "InvalidTickets" "index" (lCons (eV 0) lNil)) (lCons (eXv "InvalidTariff" "index" (lCons (eV 0) lNil)) lNil))))))) (bSeq (bSet 1 (e2 oAdd (eVB 1) (eLst (lCons (eXv "InvalidCoins" "index" (lCons (eV 0) lNil)) (lCons (eXv "WrongRow" "index" (lCons (eV 0) lNil)) (lCons (eXv "UnknownName" "given" (lCons (eV 0) lNil)) (lCons (eXv "InUse" "index" (lCons (eV 0) lNil)) (lCons (eXv "BreaksRules" "shown" (lCons (eV 0) lNil)) lNil)))))))) (bRet (e2 oAdd (eVB 1) (eLst (lCons (eXv "NoBook" "shown" (lCons (eV 0) lNil)) (lCons (eXv "Broken" "index" (lCons (eV 0) lNil)) (lCons (eXv0 "DoNotFit") (lCons (eXv0 "NothingToUndo") (lCons (eXv "TooMany" "limit" (lCons (eV 0) lNil)) lNil)))))))))))))
def c__law_all (ds M : List D) : R := endE (b__law_all (env0 N__law_all.length ds) M)
def N__law_named : List Str := [("_law_thing" : Str), ("_law_found" : Str)]
def b__law_named : SF := (bSeq (bSet 1 (eLst (lCons (eXv "InvalidStops" "given" (lCons (eV 0) lNil)) (lCons (eXv "InvalidHaul" "given" (lCons (eV 0) lNil)) (lCons (eXv "InvalidPrice" "given" (lCons (eV 0) lNil)) (lCons (eXv "InvalidRules" "given" (lCons (eV 0) lNil)) lNil)))))) (bSeq (bSet 1 (e2 oAdd (eVB 1) (eLst (lCons (eXv "InvalidText" "given" (lCons (eV 0) lNil)) (lCons (eXv "InvalidLength" "given" (lCons (eV 0) lNil)) (lCons (eXv "InvalidCoin" "given" (lCons (eV 0) lNil)) lNil)))))) (bSeq (bSet 1 (e2 oAdd (eVB 1) (eLst (lCons (eXv "InvalidName" "given" (lCons (eV 0) lNil)) (lCons (eXv "InvalidWish" "given" (lCons (eV 0) lNil)) (lCons (eXv "InvalidIndex" "given" (lCons (eV 0) lNil)) lNil)))))) (bSeq (bSet 1 (e2 oAdd (eVB 1) (eLst (lCons (eXv "InvalidLine" "given" (lCons (eV 0) lNil)) (lCons (eXv "NotABook" "given" (lCons (eV 0) lNil)) (lCons (eXv "NotBounds" "given" (lCons (eV 0) lNil)) lNil)))))) (bSeq (bSet 1 (e2 oAdd (eVB 1) (eLst (lCons (eXv "NotATariff" "given" (lCons (eV 0) lNil)) (lCons (eXv "InvalidPrices" "index" (lCons (eV 0) lNil)) (lCons (eXv "InvalidRanges" "index" (lCons (eV 0) lNil)) lNil)))))) (bSeq (bSet 1 (e2 oAdd (eVB 1) (eLst (lCons (eXv "InvalidTickets" "index" (lCons (eV 0) lNil)) (lCons (eXv "InvalidTariff" "index" (lCons (eV 0) lNil)) (lCons (eXv "InvalidCoins" "index" (lCons (eV 0) lNil)) lNil)))))) (bSeq (bSet 1 (e2 oAdd (eVB 1) (eLst (lCons (eXv "WrongRow" "index" (lCons (eV 0) lNil)) (lCons (eXv "UnknownName" "given" (lCons (eV 0) lNil)) (lCons (eXv "InUse" "index" (lCons (eV 0) lNil)) (lCons (eXv "BreaksRules" "shown" (lCons (eV 0) lNil)) lNil))))))) (bRet (e2 oAdd (eVB 1) (eLst (lCons (eXv "NoBook" "shown" (lCons (eV 0) lNil)) (lCons (eXv "Broken" "index" (lCons (eV 0) lNil)) (lCons (eXv0 "DoNotFit") (lCons (eXv0 "NothingToUndo") (lCons (eXv "TooMany" "limit" (lCons (eV 0) lNil)) lNil)))))))))))))))
def c__law_named (ds M : List D) : R := endE (b__law_named (env0 N__law_named.length ds) M)
def N_law : List Str := [("_law_script" : Str), ("_law_k" : Str), ("_law_jar_here" : Str), ("_law_thing" : Str)]
def b_law_1 : SF := (bSeq (bSet 2 (eCall (apC c__law_jar 2 []) (lCons (eV 0) (lCons (eV 1) lNil)))) (bSeq (bSet 3 (eCall (apC c__law_pick 2 []) (lCons (eV 2) (lCons (eLst (lCons (eC .non) (lCons (eC (.int 0)) (lCons (eC (.bl true)) (lCons (e1 oNeg (eC (.int 3))) (lCons (e2 oPow (eC (.int 10)) (eC (.int 50))) (lCons (eC (.str "")) (lCons (eC (.str "both")) (lCons (eTup lNil) (lCons (eTup (lCons (eC (.str "a")) (lCons (eC (.int 1)) lNil))) (lCons (eLst (lCons (eC (.int 2)) lNil)) (lCons (eDisp1 (eC (.str "a")) (eC .non)) (lCons (eTup (lCons (eC (.int 1)) (lCons (eTup (lCons (eC (.int 2)) (lCons (eLst (lCons (eC (.int 3)) lNil)) lNil))) lNil))) lNil))))))))))))) lNil)))) (bIf (eOr (eNot (eCall (apC c__law_right 2 []) (lCons (eCall (apC c__law_all 1 []) (lCons (eV 3) lNil)) (lCons (eV 3) lNil)))) (eNot (eCall (apC c__law_right 2 []) (lCons (eCall (apC c__law_named 1 []) (lCons (eV 3) lNil)) (lCons (eV 3) lNil))))) (bRet (eC (.bl false))) bNext)))
def b_law : SF := (bSeq (bIf (eOr (e2 oNe (eCall bReprK (lCons (eLst (lCons (eC (.int 10)) (lCons (eC (.int 1000000000000)) (lCons (eC (.int 5)) (lCons (eC (.int 12)) lNil))))) lNil)) (eC (.str "[10, 1000000000000, 5, 12]"))) (e2 oNe (eC (.int 1000000000000000000000000000000)) (e2 oPow (eC (.int 10)) (eC (.int 30))))) (bRet (eC (.bl false))) bNext) (bSeq (bIf (e2 oNe (eLst (lCons (eCall (apC c__law_bases 1 []) (lCons (eXv0 "WrongValue") lNil)) (lCons (eCall (apC c__law_bases 1 []) (lCons (eXv0 "WrongName") lNil)) lNil))) (eLst (lCons (e2 oMulL (eLst (lCons (eC (.bl true)) (lCons (eC (.bl false)) (lCons (eC (.bl false)) lNil)))) (eC (.int 2))) (lCons (e2 oMulL (eLst (lCons (eC (.bl false)) (lCons (eC (.bl true)) (lCons (eC (.bl false)) lNil)))) (eC (.int 2))) lNil)))) (bRet (eC (.bl false))) bNext) (bSeq (bIf (eOr (e2 oNe (eCall (apC c__law_bases 1 []) (lCons (eXv0 "NoAnswer") lNil)) (e2 oMulL (eLst (lCons (eC (.bl false)) (lCons (eC (.bl false)) (lCons (eC (.bl true)) lNil)))) (eC (.int 2)))) (e2 oNe (eCall (apC c__law_tags 1 []) (lCons (eXv0 "WrongName") lNil)) (eLst lNil))) (bRet (eC (.bl false))) bNext) (bSeq (bFor (iRng1 (eCall bMax (lCons (eC (.int 2)) (lCons (eCall bMin (lCons (eCall bLen (lCons (eVB 0) lNil)) (lCons (eC (.int 4)) lNil))) lNil)))) (gN 1) b_law_1) (bRet (eC (.bl true)))))))
def c_law (ds M : List D) : R := endE (b_law (env0 N_law.length ds) M)
end HP
set_option maxRecDepth 100000
set_option maxHeartbeats 1000000
namespace HP
open MP PySem L2
def jr (a b c : Int) : D := .lst [.int a, .int b, .int c]
def JarAt (M : List D) (n : Nat) : Prop := ∃ a b c : Int, 0 ≤ a ∧ 0 ≤ b ∧ M[n]? = some (jr a b c)
@[simp] theorem atI3_0 {a b c : D} : atI [a, b, c] 0 = some a := rfl
@[simp] theorem atI3_1 {a b c : D} : atI [a, b, c] 1 = some b := rfl
@[simp] theorem atI3_2 {a b c : D} : atI [a, b, c] 2 = some c := rfl
theorem st_0 {a b c v : Int} : stSub (.int 0) (.int v) (jr a b c) = some (jr v b c) := rfl
theorem st_1 {a b c v : Int} : stSub (.int 1) (.int v) (jr a b c) = some (jr a v c) := rfl
theorem st_2 {a b c v : Int} : stSub (.int 2) (.int v) (jr a b c) = some (jr a b v) := rfl
@[simp] theorem has_c {d : D} {r : EnvM} : has 0 (.shr d :: r) = true := rfl
theorem store_0 {n : Nat} {r : EnvM} {u d d'} {M : List D} (hm : M[n]? = some d) (hu : u d = some d') : store 0 u (.shr (.cel n) :: r) M = .next (.shr (.cel n) :: r) (M.set n d') := store_cel rfl hm hu
theorem dip_ok {M : List D} {n : Nat} {m : Int} (hj : JarAt M n) (hm : 0 < m) (hm2 : m < 2 ^ 200) :
    ∃ v M', c__law_dip [.cel n, .int m] M = .ok (.int v) M' ∧ 0 ≤ v ∧ v < m ∧ JarAt M' n := by
  obtain ⟨a, b, c, ha, hb, hM⟩ := hj
  have hlt : n < M.length := (List.getElem?_eq_some_iff.mp hM).1
  have e0 : env0 N__law_dip.length [.cel n, .int m] = [.shr (.cel n), .shr (.int m), .no, .no] := rfl
  have c1 : ∀ i, CMulB i 48271 := fun i => cmul_r (by decide)
  have c2 : ∀ i, CMulB i 40503 := fun i => cmul_r (by decide)
  have c3 : ∀ i, CDivW i 4096 := fun i => cdiv_s (by decide) (by decide)
  have c4 : ∀ i, CDivW i m := fun i => cdiv_s hm hm2
  have i0 := oIx_celL (i := 2) hM
  have hM1 : (M.set n (jr a b (c + 1)))[n]? = some (jr a b (c + 1)) := by simp [hlt]
  have s1 := fun (r : EnvM) => store_0 (r := r) hM (st_2 (v := c + 1))
  unfold c__law_dip
  rw [e0]
  by_cases h0 : 0 < a
  · refine ⟨a % m, M.set n (jr (a / m) b (c + 1)), ?_, Int.emod_nonneg _ (by omega), Int.emod_lt_of_pos _ hm, ⟨a / m, b, c + 1, Int.ediv_nonneg ha (by omega), hb, by simp [hlt]⟩⟩
    have s2 := fun (r : EnvM) => store_0 (r := r) hM1 (st_0 (v := a / m))
    simp [b__law_dip, i0, s1, s2, oIx_celL hM1, h0, hm, c4]
  · refine ⟨(b * 48271 + (c + 1) * 40503 + 17) % 2147483629 / 4096 % m, M.set n (jr a ((b * 48271 + (c + 1) * 40503 + 17) % 2147483629) (c + 1)), ?_, Int.emod_nonneg _ (by omega), Int.emod_lt_of_pos _ hm, ⟨a, (b * 48271 + (c + 1) * 40503 + 17) % 2147483629, c + 1, ha, Int.emod_nonneg _ (by decide), by simp [hlt]⟩⟩
    have s2 := fun (r : EnvM) => store_0 (r := r) hM1 (st_1 (v := (b * 48271 + (c + 1) * 40503 + 17) % 2147483629))
    have hM2 : (M.set n (jr a ((b * 48271 + (c + 1) * 40503 + 17) % 2147483629) (c + 1)))[n]? = some (jr a ((b * 48271 + (c + 1) * 40503 + 17) % 2147483629) (c + 1)) := by simp [hlt]
    simp [b__law_dip, i0, s1, s2, oIx_celL hM1, oIx_celL hM2, h0, hm, c1, c2, c3, c4]
theorem jar_ok {ns : List Int} {k : Nat} (hk : k ≤ 4) (hl : ns.length ≤ 63) (M : List D) : ∃ d s : Int, 0 ≤ d ∧ 0 ≤ s ∧ c__law_jar [.scr ns, .int k] M = .ok (.cel M.length) (M ++ [jr d s 0]) := by
  have e0 : env0 N__law_jar.length [.scr ns, .int k] = [.shr (.scr ns), .shr (.int k), .no, .no, .no, .no] := rfl
  unfold c__law_jar
  rw [e0]
  have c1 : CMulB 6007 ((k : Int) + 4) := cmul_l (by decide)
  have c2 : ∀ i, CMulB i ((k : Int) + 3) := fun i => cmul_r (by omega)
  have c3 : ∀ i, CMulB 17 i := fun i => cmul_l (by decide)
  have c4 : ∀ i, CMulB i 617 := fun i => cmul_r (by decide)
  have c5 : ∀ i, CMulB i 7907 := fun i => cmul_r (by decide)
  have c6 : ∀ i, CMulB i 65537 := fun i => cmul_r (by decide)
  have c7 : ∀ i, CMulB 104729 i := fun i => cmul_l (by decide)
  have p1 : CPow 10 18 := by decide
  obtain ⟨m0, hm0⟩ : ∃ m0 : Int, m0 = 6007 * ((k : Int) + 4) * ((k : Int) + 3) + 17 * (ns.length : Int) := ⟨_, rfl⟩
  obtain ⟨env2, M2, e1, m, x3, f3, rfl, rfl⟩ := forL_inv (gd := gN 3) (b := b__law_jar_1) (ds := cutD (ns.map D.int) none (some 4))
    (fun i env M' => ∃ m x3, MP.B.free x3 ∧ env = [.shr (.scr ns), .shr (.int k), .shr (.int m), x3, .no, .no] ∧ M' = M)
    (by
      rintro i d env M' hd ⟨m, x3, f3, rfl, rfl⟩
      have hm := List.mem_of_getElem? hd
      unfold cutD at hm
      obtain ⟨v, _, rfl⟩ := List.mem_map.mp (List.mem_of_mem_drop (List.mem_of_mem_take hm))
      exact ⟨[.shr (.scr ns), .shr (.int k), .shr (.int m), .shr (.int v), .no, .no], by simp [f3], [.shr (.scr ns), .shr (.int k), .shr (.int ((m * 617 + v) % 1000000007)), .shr (.int v), .no, .no], M', by simp [b__law_jar_1, c4], _, _, free_shr, rfl, rfl⟩)
    (env := [.shr (.scr ns), .shr (.int k), .shr (.int m0), .no, .no, .no]) (M := M) ⟨m0, .no, trivial, rfl, rfl⟩
  obtain ⟨own, ho⟩ : ∃ own : Int, own = if h : k < ns.length then ns[k] else 0 := ⟨_, rfl⟩
  have hs : (0 : Int) < 2147483587 := by decide
  have eOwn : (eIf (MP.e2 oLt (eVB 1) (eCall bLen (lCons (eVB 0) lNil))) (MP.e2 oIx (eVB 0) (eVB 1)) (eC (.int 0))) [.shr (.scr ns), .shr (.int k), .shr (.int m), x3, .no, .no] M2 = .ok (.int own) M2 := by
    by_cases h : k < ns.length
    · have hh : (k : Int) < (ns.length : Int) := by omega
      have ha : atI ns (k : Int) = some ns[k] := atI_nat (by simp [h])
      rw [ho, dif_pos h]
      simp [h, oIx_scr ha]
    · rw [ho, dif_neg h]
      simp [h]
  have hab : (0 : Int) ≤ (if own < 0 then -own else own) := by split <;> omega
  have sl : ∀ M, oSlE (.scr ns) none (some 4) M = .ok (.lst (cutD (ns.map D.int) none (some 4))) M := fun M => rfl
  have es : ∀ {env : EnvM} {M : List D}, env[0]? = some (.shr (.scr ns)) → (eSl oSlE (eVB 0) (eC .non) (eInt (eC (.int 4)))) env M = .ok (.lst (cutD (ns.map D.int) none (some 4))) M := fun {env M} h => by
    show ((eVB 0) env M).bind _ = _
    rw [eVB_eq, h]; rfl
  have es2 := es (env := [.shr (.scr ns), .shr (.int k), .shr (.int m0), .no, .no, .no]) (M := M2) rfl
  by_cases hd : own < 0 ∨ 1000000000000000000 ≤ own
  · refine ⟨(if own < 0 then -own else own), (m * 7907 + own * 65537 + 104729 * ((k : Int) + 1)) % 2147483587, hab, Int.emod_nonneg _ (by decide), ?_⟩
    simp [b__law_jar, -eIf_eq, c1, c2, c3, c5, c6, c7, p1, ← hm0, es2, e1, f3]
    rw [eOwn]
    rcases hd with hd | hd
    · simp [hd, c5, c6, c7, jr]
    · have hn : ¬ own < 0 := by omega
      simp [hd, hn, p1, c5, c6, c7, jr]
  · refine ⟨0, (m * 7907 + own * 65537 + 104729 * ((k : Int) + 1)) % 2147483587, Int.le_refl _, Int.emod_nonneg _ (by decide), ?_⟩
    have h1 : ¬ own < 0 := fun h => hd (.inl h)
    have h2 : ¬ 1000000000000000000 ≤ own := fun h => hd (.inr h)
    simp [b__law_jar, -eIf_eq, c1, c2, c3, c5, c6, c7, p1, ← hm0, es2, e1, f3]
    rw [eOwn]
    simp [h1, h2, p1, c5, c6, c7, jr]
theorem pick_ok {M : List D} {n : Nat} {ms : List D} (hj : JarAt M n) (h1 : ms ≠ []) (h2 : ms.length < 1000) :
    ∃ v M', c__law_pick [.cel n, .lst ms] M = .ok v M' ∧ v ∈ ms ∧ JarAt M' n := by
  have hl : 0 < ms.length := List.length_pos_iff.mpr h1
  obtain ⟨v, M', e, h3, h4, h5⟩ := dip_ok (m := (ms.length : Int)) hj (by omega) (by omega)
  have e0 : env0 N__law_pick.length [.cel n, .lst ms] = [.shr (.cel n), .shr (.lst ms), .no] := rfl
  obtain ⟨k, rfl⟩ : ∃ k : Nat, v = (k : Int) := ⟨v.toNat, by omega⟩
  have hk : k < ms.length := by omega
  have e2 : atI ms ((k : Nat) : Int) = some ms[k] := atI_nat (by simp [hk])
  refine ⟨ms[k], M', ?_, List.getElem_mem _, h5⟩
  unfold c__law_pick
  rw [e0]
  simp [b__law_pick, e, e2]
end HP
set_option maxRecDepth 100000
set_option maxHeartbeats 4000000
namespace HP
open MP PySem L2
def things : List D := [.non, .int 0, .bl true, .int (-3), .int (10 ^ 50), .str "", .str "both", .tup [], .tup [.str "a", .int 1], .lst [.int 2], .dK [(.inr "a", .non)], .tup [.int 1, .tup [.int 2, .lst [.int 3]]]]
def some_ (d : D) : List D := [.xo "InvalidStops" [("given", d)], .xo "InvalidHaul" [("given", d)], .xo "InvalidPrice" [("given", d)], .xo "InvalidRules" [("given", d)], .xo "InvalidText" [("given", d)],
  .xo "InvalidLength" [("given", d)], .xo "InvalidCoin" [("given", d)], .xo "InvalidName" [("given", d)], .xo "InvalidWish" [("given", d)],
  .xo "InvalidIndex" [("given", d)], .xo "InvalidLine" [("given", d)], .xo "NotABook" [("given", d)], .xo "NotBounds" [("given", d)], .xo "NotATariff" [("given", d)],
  .xo "InvalidPrices" [("index", d)], .xo "InvalidRanges" [("index", d)], .xo "InvalidTickets" [("index", d)], .xo "InvalidTariff" [("index", d)],
  .xo "InvalidCoins" [("index", d)], .xo "WrongRow" [("index", d)], .xo "UnknownName" [("given", d)], .xo "InUse" [("index", d)], .xo "BreaksRules" [("shown", d)],
  .xo "NoBook" [("shown", d)], .xo "Broken" [("index", d)], .xo "DoNotFit" [], .xo "NothingToUndo" [], .xo "TooMany" [("limit", d)]]
theorem all_ok {d : D} {M : List D} : c__law_all [d] M = .ok (.lst (some_ d)) M := by kernel_rfl
theorem named_ok {d : D} {M : List D} : c__law_named [d] M = .ok (.lst (some_ d)) M := by kernel_rfl
theorem right_0 {M : List D} : c__law_right [.lst (some_ (.non)), .non] M = .ok (.bl true) M := by kernel_rfl
theorem right_1 {M : List D} : c__law_right [.lst (some_ (.int 0)), .int 0] M = .ok (.bl true) M := by kernel_rfl
theorem right_2 {M : List D} : c__law_right [.lst (some_ (.bl true)), .bl true] M = .ok (.bl true) M := by kernel_rfl
theorem right_3 {M : List D} : c__law_right [.lst (some_ (.int (-3))), .int (-3)] M = .ok (.bl true) M := by kernel_rfl
theorem right_4 {M : List D} : c__law_right [.lst (some_ (.int (10 ^ 50))), .int (10 ^ 50)] M = .ok (.bl true) M := by kernel_rfl
theorem right_5 {M : List D} : c__law_right [.lst (some_ (.str "")), .str ""] M = .ok (.bl true) M := by kernel_rfl
theorem right_6 {M : List D} : c__law_right [.lst (some_ (.str "both")), .str "both"] M = .ok (.bl true) M := by kernel_rfl
theorem right_7 {M : List D} : c__law_right [.lst (some_ (.tup [])), .tup []] M = .ok (.bl true) M := by kernel_rfl
theorem right_8 {M : List D} : c__law_right [.lst (some_ (.tup [.str "a", .int 1])), .tup [.str "a", .int 1]] M = .ok (.bl true) M := by kernel_rfl
theorem right_9 {M : List D} : c__law_right [.lst (some_ (.lst [.int 2])), .lst [.int 2]] M = .ok (.bl true) M := by kernel_rfl
theorem right_10 {M : List D} : c__law_right [.lst (some_ (.dK [(.inr "a", .non)])), .dK [(.inr "a", .non)]] M = .ok (.bl true) M := by kernel_rfl
theorem right_11 {M : List D} : c__law_right [.lst (some_ (.tup [.int 1, .tup [.int 2, .lst [.int 3]]])), .tup [.int 1, .tup [.int 2, .lst [.int 3]]]] M = .ok (.bl true) M := by kernel_rfl
theorem right_ok {d : D} {M : List D} (h : d ∈ things) : c__law_right [.lst (some_ d), d] M = .ok (.bl true) M := by
  simp only [things, List.mem_cons, List.not_mem_nil, or_false] at h
  rcases h with rfl | rfl | rfl | rfl | rfl | rfl | rfl | rfl | rfl | rfl | rfl | rfl
  · exact right_0
  · exact right_1
  · exact right_2
  · exact right_3
  · exact right_4
  · exact right_5
  · exact right_6
  · exact right_7
  · exact right_8
  · exact right_9
  · exact right_10
  · exact right_11
end HP
set_option maxRecDepth 100000
set_option maxHeartbeats 4000000
namespace HP
open MP PySem L2
theorem inRn {n : Nat} (h : n ≤ 1000000) : inR (n : Int) := inR_of (by omega) (by omega)
theorem rng0 {n : Nat} : rngD 0 n = (List.range n).map fun (k : Nat) => D.int (k : Int) := by
  unfold rngD
  refine List.map_congr_left fun k _ => ?_
  rw [Int.zero_add]
theorem rngL1_n {n : Nat} {M : List D} (h : n ≤ 1000000) : rngL1 (.int (n : Int)) M = .ok ((List.range n).map fun (k : Nat) => D.int (k : Int)) M := by
  rw [rngL1_int (inRn h), rng0]
  congr 3
theorem range_at {n : Nat} {pre post : List Nat} {x : Nat} (h : List.range n = pre ++ x :: post) : x < n := by
  have : x ∈ List.range n := by rw [h]; simp
  exact List.mem_range.mp this
theorem menu_ok {env : EnvM} {M : List D} : (eLst (lCons (eC .non) (lCons (eC (.int 0)) (lCons (eC (.bl true)) (lCons (MP.e1 oNeg (eC (.int 3))) (lCons (MP.e2 oPow (eC (.int 10)) (eC (.int 50))) (lCons (eC (.str "")) (lCons (eC (.str "both")) (lCons (eTup lNil) (lCons (eTup (lCons (eC (.str "a")) (lCons (eC (.int 1)) lNil))) (lCons (eLst (lCons (eC (.int 2)) lNil)) (lCons (eDisp1 (eC (.str "a")) (eC .non)) (lCons (eTup (lCons (eC (.int 1)) (lCons (eTup (lCons (eC (.int 2)) (lCons (eLst (lCons (eC (.int 3)) lNil)) lNil))) lNil))) lNil))))))))))))) env M = .ok (.lst things) M := by kernel_rfl
theorem turn_ok {ns : List Int} {k : Nat} {M : List D} {x2 x3 : MP.B} (hk : k ≤ 4) (hl : ns.length ≤ 63) (f2 : x2.free) (f3 : x3.free) : ∃ M' y2 y3, b_law_1 [.shr (.scr ns), .shr (.int (k : Int)), x2, x3] M = .next [.shr (.scr ns), .shr (.int (k : Int)), y2, y3] M' ∧ MP.B.free y2 ∧ MP.B.free y3 := by
  obtain ⟨dd, s, h1, h2, e⟩ := jar_ok (ns := ns) (k := k) hk hl M
  obtain ⟨v, M', e2, hv, _⟩ := pick_ok (M := M ++ [jr dd s 0]) (n := M.length) (ms := things) ⟨dd, s, 0, h1, h2, by simp⟩ (by decide) (by decide)
  have S0 : (bSet 2 (eCall (apC c__law_jar 2 []) (lCons (eV 0) (lCons (eV 1) lNil)))) [.shr (.scr ns), .shr (.int (k : Int)), x2, x3] M = .next [.shr (.scr ns), .shr (.int (k : Int)), .shr (.cel M.length), x3] (M ++ [jr dd s 0]) := by
    simp [e, f2]
  have S1 : ∀ ME : EF, ME [.shr (.scr ns), .shr (.int (k : Int)), .shr (.cel M.length), x3] (M ++ [jr dd s 0]) = .ok (.lst things) (M ++ [jr dd s 0]) → (bSet 3 (eCall (apC c__law_pick 2 []) (lCons (eV 2) (lCons ME lNil)))) [.shr (.scr ns), .shr (.int (k : Int)), .shr (.cel M.length), x3] (M ++ [jr dd s 0]) = .next [.shr (.scr ns), .shr (.int (k : Int)), .shr (.cel M.length), .shr v] M' := fun ME h => by
    generalize things = TT at *
    simp [h, e2, f3]
  have r := fun M => right_ok (M := M) hv
  have al := fun M => all_ok (d := v) (M := M)
  have na := fun M => named_ok (d := v) (M := M)
  have S2 : (bIf (eOr (eNot (eCall (apC c__law_right 2 []) (lCons (eCall (apC c__law_all 1 []) (lCons (eV 3) lNil)) (lCons (eV 3) lNil)))) (eNot (eCall (apC c__law_right 2 []) (lCons (eCall (apC c__law_named 1 []) (lCons (eV 3) lNil)) (lCons (eV 3) lNil))))) (bRet (eC (.bl false))) bNext) [.shr (.scr ns), .shr (.int (k : Int)), .shr (.cel M.length), .shr v] M' = .next [.shr (.scr ns), .shr (.int (k : Int)), .shr (.cel M.length), .shr v] M' := by
    generalize some_ v = SV at *
    simp [al, na, r]
  refine ⟨M', .shr (.cel M.length), .shr v, ?_, free_shr, free_shr⟩
  unfold b_law_1
  simp only [bSeq, S0, S1 _ menu_ok, S2, RS.seq]
end HP
set_option maxRecDepth 100000
set_option maxHeartbeats 4000000
namespace HP
open MP PySem L2
theorem law_ok {ns : List Int} (hl : ns.length ≤ 63) : ∃ M, c_law [.scr ns] [] = .ok (.bl true) M := by
  have e0 : env0 N_law.length [.scr ns] = [.shr (.scr ns), .no, .no, .no] := rfl
  obtain ⟨t, ht⟩ : ∃ t : Int, t = mx2 2 (mn2 (ns.length : Int) 4) := ⟨_, rfl⟩
  have ht2 : 2 ≤ t ∧ t ≤ 4 := by rw [ht]; unfold mx2 mn2; split <;> split <;> omega
  obtain ⟨n, rfl⟩ : ∃ n : Nat, t = (n : Int) := ⟨t.toNat, by omega⟩
  have T0 : (bIf (eOr (MP.e2 oNe (eCall bReprK (lCons (eLst (lCons (eC (.int 10)) (lCons (eC (.int 1000000000000)) (lCons (eC (.int 5)) (lCons (eC (.int 12)) lNil))))) lNil)) (eC (.str "[10, 1000000000000, 5, 12]"))) (MP.e2 oNe (eC (.int 1000000000000000000000000000000)) (MP.e2 oPow (eC (.int 10)) (eC (.int 30))))) (bRet (eC (.bl false))) bNext) [.shr (.scr ns), .no, .no, .no] [] = .next [.shr (.scr ns), .no, .no, .no] [] := by kernel_rfl
  have T1 : (bIf (MP.e2 oNe (eLst (lCons (eCall (apC c__law_bases 1 []) (lCons (eXv0 "WrongValue") lNil)) (lCons (eCall (apC c__law_bases 1 []) (lCons (eXv0 "WrongName") lNil)) lNil))) (eLst (lCons (MP.e2 oMulL (eLst (lCons (eC (.bl true)) (lCons (eC (.bl false)) (lCons (eC (.bl false)) lNil)))) (eC (.int 2))) (lCons (MP.e2 oMulL (eLst (lCons (eC (.bl false)) (lCons (eC (.bl true)) (lCons (eC (.bl false)) lNil)))) (eC (.int 2))) lNil)))) (bRet (eC (.bl false))) bNext) [.shr (.scr ns), .no, .no, .no] [] = .next [.shr (.scr ns), .no, .no, .no] [] := by kernel_rfl
  have T2 : (bIf (eOr (MP.e2 oNe (eCall (apC c__law_bases 1 []) (lCons (eXv0 "NoAnswer") lNil)) (MP.e2 oMulL (eLst (lCons (eC (.bl false)) (lCons (eC (.bl false)) (lCons (eC (.bl true)) lNil)))) (eC (.int 2)))) (MP.e2 oNe (eCall (apC c__law_tags 1 []) (lCons (eXv0 "WrongName") lNil)) (eLst lNil))) (bRet (eC (.bl false))) bNext) [.shr (.scr ns), .no, .no, .no] [] = .next [.shr (.scr ns), .no, .no, .no] [] := by kernel_rfl
  obtain ⟨env2, M2, e2, _⟩ := forL_pre (gd := gN 1) (b := b_law_1) (enc := fun k : Nat => D.int (k : Int)) (xs := List.range n)
    (P := fun pre env M' => ∃ x1 x2 x3 : MP.B, x1.free ∧ x2.free ∧ x3.free ∧ env = [.shr (.scr ns), x1, x2, x3]) (by
      rintro pre z post env M' e ⟨x1, x2, x3, f1, f2, f3, rfl⟩
      have hz := range_at e
      obtain ⟨M3, y2, y3, e3, g2, g3⟩ := turn_ok (ns := ns) (k := z) (M := M') (by omega) hl f2 f3
      exact ⟨[.shr (.scr ns), .shr (.int (z : Int)), x2, x3], by simp [f1], _, M3, .inl e3, _, y2, y3, free_shr, g2, g3, rfl⟩) (env := [.shr (.scr ns), .no, .no, .no]) (M := []) ⟨.no, .no, .no, trivial, trivial, trivial, rfl⟩
  have rg := fun M => rngL1_n (M := M) (n := n) (by omega)
  have T3 : (bFor (iRng1 (eCall bMax (lCons (eC (.int 2)) (lCons (eCall bMin (lCons (eCall bLen (lCons (eVB 0) lNil)) (lCons (eC (.int 4)) lNil))) lNil)))) (gN 1) b_law_1) [.shr (.scr ns), .no, .no, .no] [] = .next env2 M2 := by
    simp [← ht, rg, e2]
  refine ⟨M2, ?_⟩
  unfold c_law
  rw [e0]
  unfold b_law
  simp only [bSeq, T0, T1, T2, T3, RS.seq]
  rfl
end HP
set_option maxRecDepth 100000
set_option maxHeartbeats 1000000
namespace HP
open MP
open PySem PySem.Spec PyProof.Rows L2
def top (i : Nat) : Stmt := PySem.Challenge.pw_haulprices_k01_limits_and_errors.main.body.getD i (.Pass ⟨0, 0, 0, 0⟩)
abbrev st__law_bases : Stmt := top 46
abbrev st__law_tags : Stmt := top 41
abbrev st__law_jar : Stmt := top 38
abbrev st__law_dip : Stmt := top 39
abbrev st__law_pick : Stmt := top 40
abbrev st__law_words : Stmt := top 44
abbrev st__law_kept : Stmt := top 45
abbrev st__law_right : Stmt := top 47
abbrev st_InvalidStops___init__ : Stmt := (clsB (top 2)).getD 0 (.Pass ⟨0, 0, 0, 0⟩)
abbrev st_InvalidHaul___init__ : Stmt := (clsB (top 3)).getD 0 (.Pass ⟨0, 0, 0, 0⟩)
abbrev st_InvalidPrice___init__ : Stmt := (clsB (top 4)).getD 0 (.Pass ⟨0, 0, 0, 0⟩)
abbrev st_InvalidRules___init__ : Stmt := (clsB (top 5)).getD 0 (.Pass ⟨0, 0, 0, 0⟩)
abbrev st_InvalidText___init__ : Stmt := (clsB (top 6)).getD 0 (.Pass ⟨0, 0, 0, 0⟩)
abbrev st_InvalidLength___init__ : Stmt := (clsB (top 7)).getD 0 (.Pass ⟨0, 0, 0, 0⟩)
abbrev st_InvalidCoin___init__ : Stmt := (clsB (top 8)).getD 0 (.Pass ⟨0, 0, 0, 0⟩)
abbrev st_InvalidName___init__ : Stmt := (clsB (top 9)).getD 0 (.Pass ⟨0, 0, 0, 0⟩)
abbrev st_InvalidWish___init__ : Stmt := (clsB (top 10)).getD 0 (.Pass ⟨0, 0, 0, 0⟩)
abbrev st_InvalidIndex___init__ : Stmt := (clsB (top 11)).getD 0 (.Pass ⟨0, 0, 0, 0⟩)
abbrev st_InvalidLine___init__ : Stmt := (clsB (top 12)).getD 0 (.Pass ⟨0, 0, 0, 0⟩)
abbrev st_NotABook___init__ : Stmt := (clsB (top 13)).getD 0 (.Pass ⟨0, 0, 0, 0⟩)
abbrev st_NotBounds___init__ : Stmt := (clsB (top 14)).getD 0 (.Pass ⟨0, 0, 0, 0⟩)
abbrev st_NotATariff___init__ : Stmt := (clsB (top 15)).getD 0 (.Pass ⟨0, 0, 0, 0⟩)
abbrev st_InvalidPrices___init__ : Stmt := (clsB (top 16)).getD 0 (.Pass ⟨0, 0, 0, 0⟩)
abbrev st_InvalidRanges___init__ : Stmt := (clsB (top 17)).getD 0 (.Pass ⟨0, 0, 0, 0⟩)
abbrev st_InvalidTickets___init__ : Stmt := (clsB (top 18)).getD 0 (.Pass ⟨0, 0, 0, 0⟩)
abbrev st_InvalidTariff___init__ : Stmt := (clsB (top 19)).getD 0 (.Pass ⟨0, 0, 0, 0⟩)
abbrev st_InvalidCoins___init__ : Stmt := (clsB (top 20)).getD 0 (.Pass ⟨0, 0, 0, 0⟩)
abbrev st_WrongRow___init__ : Stmt := (clsB (top 21)).getD 0 (.Pass ⟨0, 0, 0, 0⟩)
abbrev st_UnknownName___init__ : Stmt := (clsB (top 23)).getD 0 (.Pass ⟨0, 0, 0, 0⟩)
abbrev st_InUse___init__ : Stmt := (clsB (top 24)).getD 0 (.Pass ⟨0, 0, 0, 0⟩)
abbrev st_BreaksRules___init__ : Stmt := (clsB (top 26)).getD 0 (.Pass ⟨0, 0, 0, 0⟩)
abbrev st_NoBook___init__ : Stmt := (clsB (top 27)).getD 0 (.Pass ⟨0, 0, 0, 0⟩)
abbrev st_Broken___init__ : Stmt := (clsB (top 28)).getD 0 (.Pass ⟨0, 0, 0, 0⟩)
abbrev st_TooMany___init__ : Stmt := (clsB (top 31)).getD 0 (.Pass ⟨0, 0, 0, 0⟩)
abbrev st__law_all : Stmt := top 42
abbrev st__law_named : Stmt := top 43
abbrev st_law : Stmt := top 48
def d__law_bases : DefM := ⟨.g "_law_bases", "_law_bases", "_law_bases", defArgs st__law_bases, defBody st__law_bases, defScope st__law_bases, [], []⟩
def d__law_tags : DefM := ⟨.g "_law_tags", "_law_tags", "_law_tags", defArgs st__law_tags, defBody st__law_tags, defScope st__law_tags, [], []⟩
def d__law_jar : DefM := ⟨.g "_law_jar", "_law_jar", "_law_jar", defArgs st__law_jar, defBody st__law_jar, defScope st__law_jar, [], []⟩
def d__law_dip : DefM := ⟨.g "_law_dip", "_law_dip", "_law_dip", defArgs st__law_dip, defBody st__law_dip, defScope st__law_dip, [], []⟩
def d__law_pick : DefM := ⟨.g "_law_pick", "_law_pick", "_law_pick", defArgs st__law_pick, defBody st__law_pick, defScope st__law_pick, [], []⟩
def d__law_words : DefM := ⟨.g "_law_words", "_law_words", "_law_words", defArgs st__law_words, defBody st__law_words, defScope st__law_words, [], []⟩
def d__law_kept : DefM := ⟨.g "_law_kept", "_law_kept", "_law_kept", defArgs st__law_kept, defBody st__law_kept, defScope st__law_kept, [], []⟩
def d__law_right : DefM := ⟨.g "_law_right", "_law_right", "_law_right", defArgs st__law_right, defBody st__law_right, defScope st__law_right, [], []⟩
def d_InvalidStops___init__ : DefM := ⟨.m "InvalidStops" "__init__", "__init__", "InvalidStops.__init__", defArgs st_InvalidStops___init__, defBody st_InvalidStops___init__, defScope st_InvalidStops___init__, [], []⟩
def d_InvalidHaul___init__ : DefM := ⟨.m "InvalidHaul" "__init__", "__init__", "InvalidHaul.__init__", defArgs st_InvalidHaul___init__, defBody st_InvalidHaul___init__, defScope st_InvalidHaul___init__, [], []⟩
def d_InvalidPrice___init__ : DefM := ⟨.m "InvalidPrice" "__init__", "__init__", "InvalidPrice.__init__", defArgs st_InvalidPrice___init__, defBody st_InvalidPrice___init__, defScope st_InvalidPrice___init__, [], []⟩
def d_InvalidRules___init__ : DefM := ⟨.m "InvalidRules" "__init__", "__init__", "InvalidRules.__init__", defArgs st_InvalidRules___init__, defBody st_InvalidRules___init__, defScope st_InvalidRules___init__, [], []⟩
def d_InvalidText___init__ : DefM := ⟨.m "InvalidText" "__init__", "__init__", "InvalidText.__init__", defArgs st_InvalidText___init__, defBody st_InvalidText___init__, defScope st_InvalidText___init__, [], []⟩
def d_InvalidLength___init__ : DefM := ⟨.m "InvalidLength" "__init__", "__init__", "InvalidLength.__init__", defArgs st_InvalidLength___init__, defBody st_InvalidLength___init__, defScope st_InvalidLength___init__, [], []⟩
def d_InvalidCoin___init__ : DefM := ⟨.m "InvalidCoin" "__init__", "__init__", "InvalidCoin.__init__", defArgs st_InvalidCoin___init__, defBody st_InvalidCoin___init__, defScope st_InvalidCoin___init__, [], []⟩
def d_InvalidName___init__ : DefM := ⟨.m "InvalidName" "__init__", "__init__", "InvalidName.__init__", defArgs st_InvalidName___init__, defBody st_InvalidName___init__, defScope st_InvalidName___init__, [], []⟩
def d_InvalidWish___init__ : DefM := ⟨.m "InvalidWish" "__init__", "__init__", "InvalidWish.__init__", defArgs st_InvalidWish___init__, defBody st_InvalidWish___init__, defScope st_InvalidWish___init__, [], []⟩
def d_InvalidIndex___init__ : DefM := ⟨.m "InvalidIndex" "__init__", "__init__", "InvalidIndex.__init__", defArgs st_InvalidIndex___init__, defBody st_InvalidIndex___init__, defScope st_InvalidIndex___init__, [], []⟩
def d_InvalidLine___init__ : DefM := ⟨.m "InvalidLine" "__init__", "__init__", "InvalidLine.__init__", defArgs st_InvalidLine___init__, defBody st_InvalidLine___init__, defScope st_InvalidLine___init__, [], []⟩
def d_NotABook___init__ : DefM := ⟨.m "NotABook" "__init__", "__init__", "NotABook.__init__", defArgs st_NotABook___init__, defBody st_NotABook___init__, defScope st_NotABook___init__, [], []⟩
def d_NotBounds___init__ : DefM := ⟨.m "NotBounds" "__init__", "__init__", "NotBounds.__init__", defArgs st_NotBounds___init__, defBody st_NotBounds___init__, defScope st_NotBounds___init__, [], []⟩
def d_NotATariff___init__ : DefM := ⟨.m "NotATariff" "__init__", "__init__", "NotATariff.__init__", defArgs st_NotATariff___init__, defBody st_NotATariff___init__, defScope st_NotATariff___init__, [], []⟩
def d_InvalidPrices___init__ : DefM := ⟨.m "InvalidPrices" "__init__", "__init__", "InvalidPrices.__init__", defArgs st_InvalidPrices___init__, defBody st_InvalidPrices___init__, defScope st_InvalidPrices___init__, [], []⟩
def d_InvalidRanges___init__ : DefM := ⟨.m "InvalidRanges" "__init__", "__init__", "InvalidRanges.__init__", defArgs st_InvalidRanges___init__, defBody st_InvalidRanges___init__, defScope st_InvalidRanges___init__, [], []⟩
def d_InvalidTickets___init__ : DefM := ⟨.m "InvalidTickets" "__init__", "__init__", "InvalidTickets.__init__", defArgs st_InvalidTickets___init__, defBody st_InvalidTickets___init__, defScope st_InvalidTickets___init__, [], []⟩
def d_InvalidTariff___init__ : DefM := ⟨.m "InvalidTariff" "__init__", "__init__", "InvalidTariff.__init__", defArgs st_InvalidTariff___init__, defBody st_InvalidTariff___init__, defScope st_InvalidTariff___init__, [], []⟩
def d_InvalidCoins___init__ : DefM := ⟨.m "InvalidCoins" "__init__", "__init__", "InvalidCoins.__init__", defArgs st_InvalidCoins___init__, defBody st_InvalidCoins___init__, defScope st_InvalidCoins___init__, [], []⟩
def d_WrongRow___init__ : DefM := ⟨.m "WrongRow" "__init__", "__init__", "WrongRow.__init__", defArgs st_WrongRow___init__, defBody st_WrongRow___init__, defScope st_WrongRow___init__, [], []⟩
def d_UnknownName___init__ : DefM := ⟨.m "UnknownName" "__init__", "__init__", "UnknownName.__init__", defArgs st_UnknownName___init__, defBody st_UnknownName___init__, defScope st_UnknownName___init__, [], []⟩
def d_InUse___init__ : DefM := ⟨.m "InUse" "__init__", "__init__", "InUse.__init__", defArgs st_InUse___init__, defBody st_InUse___init__, defScope st_InUse___init__, [], []⟩
def d_BreaksRules___init__ : DefM := ⟨.m "BreaksRules" "__init__", "__init__", "BreaksRules.__init__", defArgs st_BreaksRules___init__, defBody st_BreaksRules___init__, defScope st_BreaksRules___init__, [], []⟩
def d_NoBook___init__ : DefM := ⟨.m "NoBook" "__init__", "__init__", "NoBook.__init__", defArgs st_NoBook___init__, defBody st_NoBook___init__, defScope st_NoBook___init__, [], []⟩
def d_Broken___init__ : DefM := ⟨.m "Broken" "__init__", "__init__", "Broken.__init__", defArgs st_Broken___init__, defBody st_Broken___init__, defScope st_Broken___init__, [], []⟩
def d_TooMany___init__ : DefM := ⟨.m "TooMany" "__init__", "__init__", "TooMany.__init__", defArgs st_TooMany___init__, defBody st_TooMany___init__, defScope st_TooMany___init__, [], []⟩
def d__law_all : DefM := ⟨.g "_law_all", "_law_all", "_law_all", defArgs st__law_all, defBody st__law_all, defScope st__law_all, [], []⟩
def d__law_named : DefM := ⟨.g "_law_named", "_law_named", "_law_named", defArgs st__law_named, defBody st__law_named, defScope st__law_named, [], []⟩
def d_law : DefM := ⟨.g "law", "law", "law", defArgs st_law, defBody st_law, defScope st_law, [], []⟩
def fn : List DefM := [d__law_bases, d__law_tags, d__law_jar, d__law_dip, d__law_pick, d__law_words, d__law_kept, d__law_right, d_InvalidStops___init__, d_InvalidHaul___init__, d_InvalidPrice___init__, d_InvalidRules___init__, d_InvalidText___init__, d_InvalidLength___init__, d_InvalidCoin___init__, d_InvalidName___init__, d_InvalidWish___init__, d_InvalidIndex___init__, d_InvalidLine___init__, d_NotABook___init__, d_NotBounds___init__, d_NotATariff___init__, d_InvalidPrices___init__, d_InvalidRanges___init__, d_InvalidTickets___init__, d_InvalidTariff___init__, d_InvalidCoins___init__, d_WrongRow___init__, d_UnknownName___init__, d_InUse___init__, d_BreaksRules___init__, d_NoBook___init__, d_Broken___init__, d_TooMany___init__, d__law_all, d__law_named, d_law]
def fa : List He.Fa := ([.int "MOST_STOPS" 10, .int "MOST_PRICE" 1000000000000, .int "MOST_KEPT" 5, .int "MOST_PIECE" 12, .free "repr", .int "MOST_LENGTH" 1000000000000000000000000000000, .glo "WrongValue", .free "isinstance", .glo "WrongName", .glo "NoAnswer", .free "ValueError", .free "LookupError", .free "ArithmeticError", .glo "_law_bases", .glo "InvalidStops", .glo "InvalidHaul", .glo "InvalidPrice", .glo "InvalidRules", .glo "InvalidText", .glo "InvalidLength", .glo "NotABook", .glo "NotBounds", .glo "NotATariff", .glo "InvalidPrices", .glo "InvalidRanges", .glo "InvalidTickets", .glo "InvalidTariff", .glo "WrongRow", .glo "BreaksRules", .glo "NoBook"] : List He.Fa) ++ ([.glo "DoNotFit", .glo "NothingToUndo", .glo "TooMany", .glo "InvalidCoin", .glo "InvalidName", .glo "InvalidWish", .glo "InvalidIndex", .glo "InvalidLine", .glo "InvalidCoins", .glo "UnknownName", .glo "InUse", .glo "Broken", .glo "_law_tags", .free "len", .free "min", .free "max", .free "range", .free "int", .free "abs", .glo "_law_jar", .glo "_law_dip", .glo "_law_pick", .glo "_law_words", .glo "_law_kept", .glo "_law_all", .glo "_law_right", .glo "_law_named", .glo "law"] : List He.Fa)
def fm : List Fm := ([.excC "WrongValue", .kitC "WrongValue" "WrongValue" true, .excC "WrongRow", .kitC "WrongRow" "WrongValue" true, .excC "WrongName", .kitC "WrongName" "WrongValue" false, .excC "UnknownName", .kitC "UnknownName" "WrongValue" false, .excC "TooMany", .kitC "TooMany" "WrongValue" false, .excC "NothingToUndo", .kitC "NothingToUndo" "WrongValue" false, .excC "NotBounds", .kitC "NotBounds" "WrongValue" true, .excC "NotATariff", .kitC "NotATariff" "WrongValue" true, .excC "NotABook", .kitC "NotABook" "WrongValue" true, .excC "NoBook", .kitC "NoBook" "WrongValue" false, .excC "NoAnswer", .kitC "NoAnswer" "WrongValue" false, .excC "InvalidWish", .kitC "InvalidWish" "WrongValue" true, .excC "InvalidTickets", .kitC "InvalidTickets" "WrongValue" true, .excC "InvalidText", .kitC "InvalidText" "WrongValue" true, .excC "InvalidTariff", .kitC "InvalidTariff" "WrongValue" true] : List Fm) ++ ([.excC "InvalidStops", .kitC "InvalidStops" "WrongValue" true, .excC "InvalidRules", .kitC "InvalidRules" "WrongValue" true, .excC "InvalidRanges", .kitC "InvalidRanges" "WrongValue" true, .excC "InvalidPrices", .kitC "InvalidPrices" "WrongValue" true, .excC "InvalidPrice", .kitC "InvalidPrice" "WrongValue" true, .excC "InvalidName", .kitC "InvalidName" "WrongValue" true, .excC "InvalidLine", .kitC "InvalidLine" "WrongValue" true, .excC "InvalidLength", .kitC "InvalidLength" "WrongValue" true, .excC "InvalidIndex", .kitC "InvalidIndex" "WrongValue" true, .excC "InvalidHaul", .kitC "InvalidHaul" "WrongValue" true, .excC "InvalidCoins", .kitC "InvalidCoins" "WrongValue" true, .excC "InvalidCoin", .kitC "InvalidCoin" "WrongValue" true, .excC "InUse", .kitC "InUse" "WrongValue" false, .excC "DoNotFit", .kitC "DoNotFit" "WrongValue" false, .excC "Broken", .kitC "Broken" "WrongValue" false] : List Fm) ++ ([.excC "BreaksRules", .kitC "BreaksRules" "WrongValue" false, .kitC "WrongValue" "WrongName" false, .kitC "WrongRow" "WrongName" false, .kitC "WrongName" "WrongName" true, .kitC "UnknownName" "WrongName" true, .kitC "TooMany" "WrongName" false, .kitC "NothingToUndo" "WrongName" false, .kitC "NotBounds" "WrongName" false, .kitC "NotATariff" "WrongName" false, .kitC "NotABook" "WrongName" false, .kitC "NoBook" "WrongName" false, .kitC "NoAnswer" "WrongName" false, .kitC "InvalidWish" "WrongName" false, .kitC "InvalidTickets" "WrongName" false, .kitC "InvalidText" "WrongName" false, .kitC "InvalidTariff" "WrongName" false, .kitC "InvalidStops" "WrongName" false, .kitC "InvalidRules" "WrongName" false, .kitC "InvalidRanges" "WrongName" false, .kitC "InvalidPrices" "WrongName" false, .kitC "InvalidPrice" "WrongName" false, .kitC "InvalidName" "WrongName" false, .kitC "InvalidLine" "WrongName" false, .kitC "InvalidLength" "WrongName" false, .kitC "InvalidIndex" "WrongName" false, .kitC "InvalidHaul" "WrongName" false, .kitC "InvalidCoins" "WrongName" false, .kitC "InvalidCoin" "WrongName" false, .kitC "InUse" "WrongName" true] : List Fm) ++ ([.kitC "DoNotFit" "WrongName" false, .kitC "Broken" "WrongName" false, .kitC "BreaksRules" "WrongName" false, .kitC "WrongValue" "NoAnswer" false, .kitC "WrongRow" "NoAnswer" false, .kitC "WrongName" "NoAnswer" false, .kitC "UnknownName" "NoAnswer" false, .kitC "TooMany" "NoAnswer" true, .kitC "NothingToUndo" "NoAnswer" true, .kitC "NotBounds" "NoAnswer" false, .kitC "NotATariff" "NoAnswer" false, .kitC "NotABook" "NoAnswer" false, .kitC "NoBook" "NoAnswer" true, .kitC "NoAnswer" "NoAnswer" true, .kitC "InvalidWish" "NoAnswer" false, .kitC "InvalidTickets" "NoAnswer" false, .kitC "InvalidText" "NoAnswer" false, .kitC "InvalidTariff" "NoAnswer" false, .kitC "InvalidStops" "NoAnswer" false, .kitC "InvalidRules" "NoAnswer" false, .kitC "InvalidRanges" "NoAnswer" false, .kitC "InvalidPrices" "NoAnswer" false, .kitC "InvalidPrice" "NoAnswer" false, .kitC "InvalidName" "NoAnswer" false, .kitC "InvalidLine" "NoAnswer" false, .kitC "InvalidLength" "NoAnswer" false, .kitC "InvalidIndex" "NoAnswer" false, .kitC "InvalidHaul" "NoAnswer" false, .kitC "InvalidCoins" "NoAnswer" false, .kitC "InvalidCoin" "NoAnswer" false] : List Fm) ++ ([.kitC "InUse" "NoAnswer" false, .kitC "DoNotFit" "NoAnswer" true, .kitC "Broken" "NoAnswer" true, .kitC "BreaksRules" "NoAnswer" true, .kit "WrongValue" "ValueError" true, .kit "WrongRow" "ValueError" true, .kit "WrongName" "ValueError" false, .kit "UnknownName" "ValueError" false, .kit "TooMany" "ValueError" false, .kit "NothingToUndo" "ValueError" false, .kit "NotBounds" "ValueError" true, .kit "NotATariff" "ValueError" true, .kit "NotABook" "ValueError" true, .kit "NoBook" "ValueError" false, .kit "NoAnswer" "ValueError" false, .kit "InvalidWish" "ValueError" true, .kit "InvalidTickets" "ValueError" true, .kit "InvalidText" "ValueError" true, .kit "InvalidTariff" "ValueError" true, .kit "InvalidStops" "ValueError" true, .kit "InvalidRules" "ValueError" true, .kit "InvalidRanges" "ValueError" true, .kit "InvalidPrices" "ValueError" true, .kit "InvalidPrice" "ValueError" true, .kit "InvalidName" "ValueError" true, .kit "InvalidLine" "ValueError" true, .kit "InvalidLength" "ValueError" true, .kit "InvalidIndex" "ValueError" true, .kit "InvalidHaul" "ValueError" true, .kit "InvalidCoins" "ValueError" true] : List Fm) ++ ([.kit "InvalidCoin" "ValueError" true, .kit "InUse" "ValueError" false, .kit "DoNotFit" "ValueError" false, .kit "Broken" "ValueError" false, .kit "BreaksRules" "ValueError" false, .kit "WrongValue" "LookupError" false, .kit "WrongRow" "LookupError" false, .kit "WrongName" "LookupError" true, .kit "UnknownName" "LookupError" true, .kit "TooMany" "LookupError" false, .kit "NothingToUndo" "LookupError" false, .kit "NotBounds" "LookupError" false, .kit "NotATariff" "LookupError" false, .kit "NotABook" "LookupError" false, .kit "NoBook" "LookupError" false, .kit "NoAnswer" "LookupError" false, .kit "InvalidWish" "LookupError" false, .kit "InvalidTickets" "LookupError" false, .kit "InvalidText" "LookupError" false, .kit "InvalidTariff" "LookupError" false, .kit "InvalidStops" "LookupError" false, .kit "InvalidRules" "LookupError" false, .kit "InvalidRanges" "LookupError" false, .kit "InvalidPrices" "LookupError" false, .kit "InvalidPrice" "LookupError" false, .kit "InvalidName" "LookupError" false, .kit "InvalidLine" "LookupError" false, .kit "InvalidLength" "LookupError" false, .kit "InvalidIndex" "LookupError" false, .kit "InvalidHaul" "LookupError" false] : List Fm) ++ ([.kit "InvalidCoins" "LookupError" false, .kit "InvalidCoin" "LookupError" false, .kit "InUse" "LookupError" true, .kit "DoNotFit" "LookupError" false, .kit "Broken" "LookupError" false, .kit "BreaksRules" "LookupError" false, .kit "WrongValue" "ArithmeticError" false, .kit "WrongRow" "ArithmeticError" false, .kit "WrongName" "ArithmeticError" false, .kit "UnknownName" "ArithmeticError" false, .kit "TooMany" "ArithmeticError" true, .kit "NothingToUndo" "ArithmeticError" true, .kit "NotBounds" "ArithmeticError" false, .kit "NotATariff" "ArithmeticError" false, .kit "NotABook" "ArithmeticError" false, .kit "NoBook" "ArithmeticError" true, .kit "NoAnswer" "ArithmeticError" true, .kit "InvalidWish" "ArithmeticError" false, .kit "InvalidTickets" "ArithmeticError" false, .kit "InvalidText" "ArithmeticError" false, .kit "InvalidTariff" "ArithmeticError" false, .kit "InvalidStops" "ArithmeticError" false, .kit "InvalidRules" "ArithmeticError" false, .kit "InvalidRanges" "ArithmeticError" false, .kit "InvalidPrices" "ArithmeticError" false, .kit "InvalidPrice" "ArithmeticError" false, .kit "InvalidName" "ArithmeticError" false, .kit "InvalidLine" "ArithmeticError" false, .kit "InvalidLength" "ArithmeticError" false, .kit "InvalidIndex" "ArithmeticError" false] : List Fm) ++ ([.kit "InvalidHaul" "ArithmeticError" false, .kit "InvalidCoins" "ArithmeticError" false, .kit "InvalidCoin" "ArithmeticError" false, .kit "InUse" "ArithmeticError" false, .kit "DoNotFit" "ArithmeticError" true, .kit "Broken" "ArithmeticError" true, .kit "BreaksRules" "ArithmeticError" true, .xn "WrongValue", .xn "WrongName", .xn "NoAnswer", .kitC "WrongValue" "InvalidStops" false, .kitC "WrongRow" "InvalidStops" false, .kitC "WrongName" "InvalidStops" false, .kitC "UnknownName" "InvalidStops" false, .kitC "TooMany" "InvalidStops" false, .kitC "NothingToUndo" "InvalidStops" false, .kitC "NotBounds" "InvalidStops" false, .kitC "NotATariff" "InvalidStops" false, .kitC "NotABook" "InvalidStops" false, .kitC "NoBook" "InvalidStops" false, .kitC "NoAnswer" "InvalidStops" false, .kitC "InvalidWish" "InvalidStops" false, .kitC "InvalidTickets" "InvalidStops" false, .kitC "InvalidText" "InvalidStops" false, .kitC "InvalidTariff" "InvalidStops" false, .kitC "InvalidStops" "InvalidStops" true, .kitC "InvalidRules" "InvalidStops" false, .kitC "InvalidRanges" "InvalidStops" false, .kitC "InvalidPrices" "InvalidStops" false, .kitC "InvalidPrice" "InvalidStops" false] : List Fm) ++ ([.kitC "InvalidName" "InvalidStops" false, .kitC "InvalidLine" "InvalidStops" false, .kitC "InvalidLength" "InvalidStops" false, .kitC "InvalidIndex" "InvalidStops" false, .kitC "InvalidHaul" "InvalidStops" false, .kitC "InvalidCoins" "InvalidStops" false, .kitC "InvalidCoin" "InvalidStops" false, .kitC "InUse" "InvalidStops" false, .kitC "DoNotFit" "InvalidStops" false, .kitC "Broken" "InvalidStops" false, .kitC "BreaksRules" "InvalidStops" false, .kitC "WrongValue" "InvalidHaul" false, .kitC "WrongRow" "InvalidHaul" false, .kitC "WrongName" "InvalidHaul" false, .kitC "UnknownName" "InvalidHaul" false, .kitC "TooMany" "InvalidHaul" false, .kitC "NothingToUndo" "InvalidHaul" false, .kitC "NotBounds" "InvalidHaul" false, .kitC "NotATariff" "InvalidHaul" false, .kitC "NotABook" "InvalidHaul" false, .kitC "NoBook" "InvalidHaul" false, .kitC "NoAnswer" "InvalidHaul" false, .kitC "InvalidWish" "InvalidHaul" false, .kitC "InvalidTickets" "InvalidHaul" false, .kitC "InvalidText" "InvalidHaul" false, .kitC "InvalidTariff" "InvalidHaul" false, .kitC "InvalidStops" "InvalidHaul" false, .kitC "InvalidRules" "InvalidHaul" false, .kitC "InvalidRanges" "InvalidHaul" false, .kitC "InvalidPrices" "InvalidHaul" false] : List Fm) ++ ([.kitC "InvalidPrice" "InvalidHaul" false, .kitC "InvalidName" "InvalidHaul" false, .kitC "InvalidLine" "InvalidHaul" false, .kitC "InvalidLength" "InvalidHaul" false, .kitC "InvalidIndex" "InvalidHaul" false, .kitC "InvalidHaul" "InvalidHaul" true, .kitC "InvalidCoins" "InvalidHaul" false, .kitC "InvalidCoin" "InvalidHaul" false, .kitC "InUse" "InvalidHaul" false, .kitC "DoNotFit" "InvalidHaul" false, .kitC "Broken" "InvalidHaul" false, .kitC "BreaksRules" "InvalidHaul" false, .kitC "WrongValue" "InvalidPrice" false, .kitC "WrongRow" "InvalidPrice" false, .kitC "WrongName" "InvalidPrice" false, .kitC "UnknownName" "InvalidPrice" false, .kitC "TooMany" "InvalidPrice" false, .kitC "NothingToUndo" "InvalidPrice" false, .kitC "NotBounds" "InvalidPrice" false, .kitC "NotATariff" "InvalidPrice" false, .kitC "NotABook" "InvalidPrice" false, .kitC "NoBook" "InvalidPrice" false, .kitC "NoAnswer" "InvalidPrice" false, .kitC "InvalidWish" "InvalidPrice" false, .kitC "InvalidTickets" "InvalidPrice" false, .kitC "InvalidText" "InvalidPrice" false, .kitC "InvalidTariff" "InvalidPrice" false, .kitC "InvalidStops" "InvalidPrice" false, .kitC "InvalidRules" "InvalidPrice" false, .kitC "InvalidRanges" "InvalidPrice" false] : List Fm) ++ ([.kitC "InvalidPrices" "InvalidPrice" false, .kitC "InvalidPrice" "InvalidPrice" true, .kitC "InvalidName" "InvalidPrice" false, .kitC "InvalidLine" "InvalidPrice" false, .kitC "InvalidLength" "InvalidPrice" false, .kitC "InvalidIndex" "InvalidPrice" false, .kitC "InvalidHaul" "InvalidPrice" false, .kitC "InvalidCoins" "InvalidPrice" false, .kitC "InvalidCoin" "InvalidPrice" false, .kitC "InUse" "InvalidPrice" false, .kitC "DoNotFit" "InvalidPrice" false, .kitC "Broken" "InvalidPrice" false, .kitC "BreaksRules" "InvalidPrice" false, .kitC "WrongValue" "InvalidRules" false, .kitC "WrongRow" "InvalidRules" false, .kitC "WrongName" "InvalidRules" false, .kitC "UnknownName" "InvalidRules" false, .kitC "TooMany" "InvalidRules" false, .kitC "NothingToUndo" "InvalidRules" false, .kitC "NotBounds" "InvalidRules" false, .kitC "NotATariff" "InvalidRules" false, .kitC "NotABook" "InvalidRules" false, .kitC "NoBook" "InvalidRules" false, .kitC "NoAnswer" "InvalidRules" false, .kitC "InvalidWish" "InvalidRules" false, .kitC "InvalidTickets" "InvalidRules" false, .kitC "InvalidText" "InvalidRules" false, .kitC "InvalidTariff" "InvalidRules" false, .kitC "InvalidStops" "InvalidRules" false, .kitC "InvalidRules" "InvalidRules" true] : List Fm) ++ ([.kitC "InvalidRanges" "InvalidRules" false, .kitC "InvalidPrices" "InvalidRules" false, .kitC "InvalidPrice" "InvalidRules" false, .kitC "InvalidName" "InvalidRules" false, .kitC "InvalidLine" "InvalidRules" false, .kitC "InvalidLength" "InvalidRules" false, .kitC "InvalidIndex" "InvalidRules" false, .kitC "InvalidHaul" "InvalidRules" false, .kitC "InvalidCoins" "InvalidRules" false, .kitC "InvalidCoin" "InvalidRules" false, .kitC "InUse" "InvalidRules" false, .kitC "DoNotFit" "InvalidRules" false, .kitC "Broken" "InvalidRules" false, .kitC "BreaksRules" "InvalidRules" false, .kitC "WrongValue" "InvalidText" false, .kitC "WrongRow" "InvalidText" false, .kitC "WrongName" "InvalidText" false, .kitC "UnknownName" "InvalidText" false, .kitC "TooMany" "InvalidText" false, .kitC "NothingToUndo" "InvalidText" false, .kitC "NotBounds" "InvalidText" false, .kitC "NotATariff" "InvalidText" false, .kitC "NotABook" "InvalidText" false, .kitC "NoBook" "InvalidText" false, .kitC "NoAnswer" "InvalidText" false, .kitC "InvalidWish" "InvalidText" false, .kitC "InvalidTickets" "InvalidText" false, .kitC "InvalidText" "InvalidText" true, .kitC "InvalidTariff" "InvalidText" false, .kitC "InvalidStops" "InvalidText" false] : List Fm) ++ ([.kitC "InvalidRules" "InvalidText" false, .kitC "InvalidRanges" "InvalidText" false, .kitC "InvalidPrices" "InvalidText" false, .kitC "InvalidPrice" "InvalidText" false, .kitC "InvalidName" "InvalidText" false, .kitC "InvalidLine" "InvalidText" false, .kitC "InvalidLength" "InvalidText" false, .kitC "InvalidIndex" "InvalidText" false, .kitC "InvalidHaul" "InvalidText" false, .kitC "InvalidCoins" "InvalidText" false, .kitC "InvalidCoin" "InvalidText" false, .kitC "InUse" "InvalidText" false, .kitC "DoNotFit" "InvalidText" false, .kitC "Broken" "InvalidText" false, .kitC "BreaksRules" "InvalidText" false, .kitC "WrongValue" "InvalidLength" false, .kitC "WrongRow" "InvalidLength" false, .kitC "WrongName" "InvalidLength" false, .kitC "UnknownName" "InvalidLength" false, .kitC "TooMany" "InvalidLength" false, .kitC "NothingToUndo" "InvalidLength" false, .kitC "NotBounds" "InvalidLength" false, .kitC "NotATariff" "InvalidLength" false, .kitC "NotABook" "InvalidLength" false, .kitC "NoBook" "InvalidLength" false, .kitC "NoAnswer" "InvalidLength" false, .kitC "InvalidWish" "InvalidLength" false, .kitC "InvalidTickets" "InvalidLength" false, .kitC "InvalidText" "InvalidLength" false, .kitC "InvalidTariff" "InvalidLength" false] : List Fm) ++ ([.kitC "InvalidStops" "InvalidLength" false, .kitC "InvalidRules" "InvalidLength" false, .kitC "InvalidRanges" "InvalidLength" false, .kitC "InvalidPrices" "InvalidLength" false, .kitC "InvalidPrice" "InvalidLength" false, .kitC "InvalidName" "InvalidLength" false, .kitC "InvalidLine" "InvalidLength" false, .kitC "InvalidLength" "InvalidLength" true, .kitC "InvalidIndex" "InvalidLength" false, .kitC "InvalidHaul" "InvalidLength" false, .kitC "InvalidCoins" "InvalidLength" false, .kitC "InvalidCoin" "InvalidLength" false, .kitC "InUse" "InvalidLength" false, .kitC "DoNotFit" "InvalidLength" false, .kitC "Broken" "InvalidLength" false, .kitC "BreaksRules" "InvalidLength" false, .kitC "WrongValue" "NotABook" false, .kitC "WrongRow" "NotABook" false, .kitC "WrongName" "NotABook" false, .kitC "UnknownName" "NotABook" false, .kitC "TooMany" "NotABook" false, .kitC "NothingToUndo" "NotABook" false, .kitC "NotBounds" "NotABook" false, .kitC "NotATariff" "NotABook" false, .kitC "NotABook" "NotABook" true, .kitC "NoBook" "NotABook" false, .kitC "NoAnswer" "NotABook" false, .kitC "InvalidWish" "NotABook" false, .kitC "InvalidTickets" "NotABook" false, .kitC "InvalidText" "NotABook" false] : List Fm) ++ ([.kitC "InvalidTariff" "NotABook" false, .kitC "InvalidStops" "NotABook" false, .kitC "InvalidRules" "NotABook" false, .kitC "InvalidRanges" "NotABook" false, .kitC "InvalidPrices" "NotABook" false, .kitC "InvalidPrice" "NotABook" false, .kitC "InvalidName" "NotABook" false, .kitC "InvalidLine" "NotABook" false, .kitC "InvalidLength" "NotABook" false, .kitC "InvalidIndex" "NotABook" false, .kitC "InvalidHaul" "NotABook" false, .kitC "InvalidCoins" "NotABook" false, .kitC "InvalidCoin" "NotABook" false, .kitC "InUse" "NotABook" false, .kitC "DoNotFit" "NotABook" false, .kitC "Broken" "NotABook" false, .kitC "BreaksRules" "NotABook" false, .kitC "WrongValue" "NotBounds" false, .kitC "WrongRow" "NotBounds" false, .kitC "WrongName" "NotBounds" false, .kitC "UnknownName" "NotBounds" false, .kitC "TooMany" "NotBounds" false, .kitC "NothingToUndo" "NotBounds" false, .kitC "NotBounds" "NotBounds" true, .kitC "NotATariff" "NotBounds" false, .kitC "NotABook" "NotBounds" false, .kitC "NoBook" "NotBounds" false, .kitC "NoAnswer" "NotBounds" false, .kitC "InvalidWish" "NotBounds" false, .kitC "InvalidTickets" "NotBounds" false] : List Fm) ++ ([.kitC "InvalidText" "NotBounds" false, .kitC "InvalidTariff" "NotBounds" false, .kitC "InvalidStops" "NotBounds" false, .kitC "InvalidRules" "NotBounds" false, .kitC "InvalidRanges" "NotBounds" false, .kitC "InvalidPrices" "NotBounds" false, .kitC "InvalidPrice" "NotBounds" false, .kitC "InvalidName" "NotBounds" false, .kitC "InvalidLine" "NotBounds" false, .kitC "InvalidLength" "NotBounds" false, .kitC "InvalidIndex" "NotBounds" false, .kitC "InvalidHaul" "NotBounds" false, .kitC "InvalidCoins" "NotBounds" false, .kitC "InvalidCoin" "NotBounds" false, .kitC "InUse" "NotBounds" false, .kitC "DoNotFit" "NotBounds" false, .kitC "Broken" "NotBounds" false, .kitC "BreaksRules" "NotBounds" false, .kitC "WrongValue" "NotATariff" false, .kitC "WrongRow" "NotATariff" false, .kitC "WrongName" "NotATariff" false, .kitC "UnknownName" "NotATariff" false, .kitC "TooMany" "NotATariff" false, .kitC "NothingToUndo" "NotATariff" false, .kitC "NotBounds" "NotATariff" false, .kitC "NotATariff" "NotATariff" true, .kitC "NotABook" "NotATariff" false, .kitC "NoBook" "NotATariff" false, .kitC "NoAnswer" "NotATariff" false, .kitC "InvalidWish" "NotATariff" false] : List Fm) ++ ([.kitC "InvalidTickets" "NotATariff" false, .kitC "InvalidText" "NotATariff" false, .kitC "InvalidTariff" "NotATariff" false, .kitC "InvalidStops" "NotATariff" false, .kitC "InvalidRules" "NotATariff" false, .kitC "InvalidRanges" "NotATariff" false, .kitC "InvalidPrices" "NotATariff" false, .kitC "InvalidPrice" "NotATariff" false, .kitC "InvalidName" "NotATariff" false, .kitC "InvalidLine" "NotATariff" false, .kitC "InvalidLength" "NotATariff" false, .kitC "InvalidIndex" "NotATariff" false, .kitC "InvalidHaul" "NotATariff" false, .kitC "InvalidCoins" "NotATariff" false, .kitC "InvalidCoin" "NotATariff" false, .kitC "InUse" "NotATariff" false, .kitC "DoNotFit" "NotATariff" false, .kitC "Broken" "NotATariff" false, .kitC "BreaksRules" "NotATariff" false, .kitC "WrongValue" "InvalidPrices" false, .kitC "WrongRow" "InvalidPrices" false, .kitC "WrongName" "InvalidPrices" false, .kitC "UnknownName" "InvalidPrices" false, .kitC "TooMany" "InvalidPrices" false, .kitC "NothingToUndo" "InvalidPrices" false, .kitC "NotBounds" "InvalidPrices" false, .kitC "NotATariff" "InvalidPrices" false, .kitC "NotABook" "InvalidPrices" false, .kitC "NoBook" "InvalidPrices" false, .kitC "NoAnswer" "InvalidPrices" false] : List Fm) ++ ([.kitC "InvalidWish" "InvalidPrices" false, .kitC "InvalidTickets" "InvalidPrices" false, .kitC "InvalidText" "InvalidPrices" false, .kitC "InvalidTariff" "InvalidPrices" false, .kitC "InvalidStops" "InvalidPrices" false, .kitC "InvalidRules" "InvalidPrices" false, .kitC "InvalidRanges" "InvalidPrices" false, .kitC "InvalidPrices" "InvalidPrices" true, .kitC "InvalidPrice" "InvalidPrices" false, .kitC "InvalidName" "InvalidPrices" false, .kitC "InvalidLine" "InvalidPrices" false, .kitC "InvalidLength" "InvalidPrices" false, .kitC "InvalidIndex" "InvalidPrices" false, .kitC "InvalidHaul" "InvalidPrices" false, .kitC "InvalidCoins" "InvalidPrices" false, .kitC "InvalidCoin" "InvalidPrices" false, .kitC "InUse" "InvalidPrices" false, .kitC "DoNotFit" "InvalidPrices" false, .kitC "Broken" "InvalidPrices" false, .kitC "BreaksRules" "InvalidPrices" false, .kitC "WrongValue" "InvalidRanges" false, .kitC "WrongRow" "InvalidRanges" false, .kitC "WrongName" "InvalidRanges" false, .kitC "UnknownName" "InvalidRanges" false, .kitC "TooMany" "InvalidRanges" false, .kitC "NothingToUndo" "InvalidRanges" false, .kitC "NotBounds" "InvalidRanges" false, .kitC "NotATariff" "InvalidRanges" false, .kitC "NotABook" "InvalidRanges" false, .kitC "NoBook" "InvalidRanges" false] : List Fm) ++ ([.kitC "NoAnswer" "InvalidRanges" false, .kitC "InvalidWish" "InvalidRanges" false, .kitC "InvalidTickets" "InvalidRanges" false, .kitC "InvalidText" "InvalidRanges" false, .kitC "InvalidTariff" "InvalidRanges" false, .kitC "InvalidStops" "InvalidRanges" false, .kitC "InvalidRules" "InvalidRanges" false, .kitC "InvalidRanges" "InvalidRanges" true, .kitC "InvalidPrices" "InvalidRanges" false, .kitC "InvalidPrice" "InvalidRanges" false, .kitC "InvalidName" "InvalidRanges" false, .kitC "InvalidLine" "InvalidRanges" false, .kitC "InvalidLength" "InvalidRanges" false, .kitC "InvalidIndex" "InvalidRanges" false, .kitC "InvalidHaul" "InvalidRanges" false, .kitC "InvalidCoins" "InvalidRanges" false, .kitC "InvalidCoin" "InvalidRanges" false, .kitC "InUse" "InvalidRanges" false, .kitC "DoNotFit" "InvalidRanges" false, .kitC "Broken" "InvalidRanges" false, .kitC "BreaksRules" "InvalidRanges" false, .kitC "WrongValue" "InvalidTickets" false, .kitC "WrongRow" "InvalidTickets" false, .kitC "WrongName" "InvalidTickets" false, .kitC "UnknownName" "InvalidTickets" false, .kitC "TooMany" "InvalidTickets" false, .kitC "NothingToUndo" "InvalidTickets" false, .kitC "NotBounds" "InvalidTickets" false, .kitC "NotATariff" "InvalidTickets" false, .kitC "NotABook" "InvalidTickets" false] : List Fm) ++ ([.kitC "NoBook" "InvalidTickets" false, .kitC "NoAnswer" "InvalidTickets" false, .kitC "InvalidWish" "InvalidTickets" false, .kitC "InvalidTickets" "InvalidTickets" true, .kitC "InvalidText" "InvalidTickets" false, .kitC "InvalidTariff" "InvalidTickets" false, .kitC "InvalidStops" "InvalidTickets" false, .kitC "InvalidRules" "InvalidTickets" false, .kitC "InvalidRanges" "InvalidTickets" false, .kitC "InvalidPrices" "InvalidTickets" false, .kitC "InvalidPrice" "InvalidTickets" false, .kitC "InvalidName" "InvalidTickets" false, .kitC "InvalidLine" "InvalidTickets" false, .kitC "InvalidLength" "InvalidTickets" false, .kitC "InvalidIndex" "InvalidTickets" false, .kitC "InvalidHaul" "InvalidTickets" false, .kitC "InvalidCoins" "InvalidTickets" false, .kitC "InvalidCoin" "InvalidTickets" false, .kitC "InUse" "InvalidTickets" false, .kitC "DoNotFit" "InvalidTickets" false, .kitC "Broken" "InvalidTickets" false, .kitC "BreaksRules" "InvalidTickets" false, .kitC "WrongValue" "InvalidTariff" false, .kitC "WrongRow" "InvalidTariff" false, .kitC "WrongName" "InvalidTariff" false, .kitC "UnknownName" "InvalidTariff" false, .kitC "TooMany" "InvalidTariff" false, .kitC "NothingToUndo" "InvalidTariff" false, .kitC "NotBounds" "InvalidTariff" false, .kitC "NotATariff" "InvalidTariff" false] : List Fm) ++ ([.kitC "NotABook" "InvalidTariff" false, .kitC "NoBook" "InvalidTariff" false, .kitC "NoAnswer" "InvalidTariff" false, .kitC "InvalidWish" "InvalidTariff" false, .kitC "InvalidTickets" "InvalidTariff" false, .kitC "InvalidText" "InvalidTariff" false, .kitC "InvalidTariff" "InvalidTariff" true, .kitC "InvalidStops" "InvalidTariff" false, .kitC "InvalidRules" "InvalidTariff" false, .kitC "InvalidRanges" "InvalidTariff" false, .kitC "InvalidPrices" "InvalidTariff" false, .kitC "InvalidPrice" "InvalidTariff" false, .kitC "InvalidName" "InvalidTariff" false, .kitC "InvalidLine" "InvalidTariff" false, .kitC "InvalidLength" "InvalidTariff" false, .kitC "InvalidIndex" "InvalidTariff" false, .kitC "InvalidHaul" "InvalidTariff" false, .kitC "InvalidCoins" "InvalidTariff" false, .kitC "InvalidCoin" "InvalidTariff" false, .kitC "InUse" "InvalidTariff" false, .kitC "DoNotFit" "InvalidTariff" false, .kitC "Broken" "InvalidTariff" false, .kitC "BreaksRules" "InvalidTariff" false, .kitC "WrongValue" "WrongRow" false, .kitC "WrongRow" "WrongRow" true, .kitC "WrongName" "WrongRow" false, .kitC "UnknownName" "WrongRow" false, .kitC "TooMany" "WrongRow" false, .kitC "NothingToUndo" "WrongRow" false, .kitC "NotBounds" "WrongRow" false] : List Fm) ++ ([.kitC "NotATariff" "WrongRow" false, .kitC "NotABook" "WrongRow" false, .kitC "NoBook" "WrongRow" false, .kitC "NoAnswer" "WrongRow" false, .kitC "InvalidWish" "WrongRow" false, .kitC "InvalidTickets" "WrongRow" false, .kitC "InvalidText" "WrongRow" false, .kitC "InvalidTariff" "WrongRow" false, .kitC "InvalidStops" "WrongRow" false, .kitC "InvalidRules" "WrongRow" false, .kitC "InvalidRanges" "WrongRow" false, .kitC "InvalidPrices" "WrongRow" false, .kitC "InvalidPrice" "WrongRow" false, .kitC "InvalidName" "WrongRow" false, .kitC "InvalidLine" "WrongRow" false, .kitC "InvalidLength" "WrongRow" false, .kitC "InvalidIndex" "WrongRow" false, .kitC "InvalidHaul" "WrongRow" false, .kitC "InvalidCoins" "WrongRow" false, .kitC "InvalidCoin" "WrongRow" false, .kitC "InUse" "WrongRow" false, .kitC "DoNotFit" "WrongRow" false, .kitC "Broken" "WrongRow" false, .kitC "BreaksRules" "WrongRow" false, .kitC "WrongValue" "BreaksRules" false, .kitC "WrongRow" "BreaksRules" false, .kitC "WrongName" "BreaksRules" false, .kitC "UnknownName" "BreaksRules" false, .kitC "TooMany" "BreaksRules" false, .kitC "NothingToUndo" "BreaksRules" false] : List Fm) ++ ([.kitC "NotBounds" "BreaksRules" false, .kitC "NotATariff" "BreaksRules" false, .kitC "NotABook" "BreaksRules" false, .kitC "NoBook" "BreaksRules" false, .kitC "NoAnswer" "BreaksRules" false, .kitC "InvalidWish" "BreaksRules" false, .kitC "InvalidTickets" "BreaksRules" false, .kitC "InvalidText" "BreaksRules" false, .kitC "InvalidTariff" "BreaksRules" false, .kitC "InvalidStops" "BreaksRules" false, .kitC "InvalidRules" "BreaksRules" false, .kitC "InvalidRanges" "BreaksRules" false, .kitC "InvalidPrices" "BreaksRules" false, .kitC "InvalidPrice" "BreaksRules" false, .kitC "InvalidName" "BreaksRules" false, .kitC "InvalidLine" "BreaksRules" false, .kitC "InvalidLength" "BreaksRules" false, .kitC "InvalidIndex" "BreaksRules" false, .kitC "InvalidHaul" "BreaksRules" false, .kitC "InvalidCoins" "BreaksRules" false, .kitC "InvalidCoin" "BreaksRules" false, .kitC "InUse" "BreaksRules" false, .kitC "DoNotFit" "BreaksRules" false, .kitC "Broken" "BreaksRules" false, .kitC "BreaksRules" "BreaksRules" true, .kitC "WrongValue" "NoBook" false, .kitC "WrongRow" "NoBook" false, .kitC "WrongName" "NoBook" false, .kitC "UnknownName" "NoBook" false, .kitC "TooMany" "NoBook" false] : List Fm) ++ ([.kitC "NothingToUndo" "NoBook" false, .kitC "NotBounds" "NoBook" false, .kitC "NotATariff" "NoBook" false, .kitC "NotABook" "NoBook" false, .kitC "NoBook" "NoBook" true, .kitC "NoAnswer" "NoBook" false, .kitC "InvalidWish" "NoBook" false, .kitC "InvalidTickets" "NoBook" false, .kitC "InvalidText" "NoBook" false, .kitC "InvalidTariff" "NoBook" false, .kitC "InvalidStops" "NoBook" false, .kitC "InvalidRules" "NoBook" false, .kitC "InvalidRanges" "NoBook" false, .kitC "InvalidPrices" "NoBook" false, .kitC "InvalidPrice" "NoBook" false, .kitC "InvalidName" "NoBook" false, .kitC "InvalidLine" "NoBook" false, .kitC "InvalidLength" "NoBook" false, .kitC "InvalidIndex" "NoBook" false, .kitC "InvalidHaul" "NoBook" false, .kitC "InvalidCoins" "NoBook" false, .kitC "InvalidCoin" "NoBook" false, .kitC "InUse" "NoBook" false, .kitC "DoNotFit" "NoBook" false, .kitC "Broken" "NoBook" false, .kitC "BreaksRules" "NoBook" false, .kitC "WrongValue" "DoNotFit" false, .kitC "WrongRow" "DoNotFit" false, .kitC "WrongName" "DoNotFit" false, .kitC "UnknownName" "DoNotFit" false] : List Fm) ++ ([.kitC "TooMany" "DoNotFit" false, .kitC "NothingToUndo" "DoNotFit" false, .kitC "NotBounds" "DoNotFit" false, .kitC "NotATariff" "DoNotFit" false, .kitC "NotABook" "DoNotFit" false, .kitC "NoBook" "DoNotFit" false, .kitC "NoAnswer" "DoNotFit" false, .kitC "InvalidWish" "DoNotFit" false, .kitC "InvalidTickets" "DoNotFit" false, .kitC "InvalidText" "DoNotFit" false, .kitC "InvalidTariff" "DoNotFit" false, .kitC "InvalidStops" "DoNotFit" false, .kitC "InvalidRules" "DoNotFit" false, .kitC "InvalidRanges" "DoNotFit" false, .kitC "InvalidPrices" "DoNotFit" false, .kitC "InvalidPrice" "DoNotFit" false, .kitC "InvalidName" "DoNotFit" false, .kitC "InvalidLine" "DoNotFit" false, .kitC "InvalidLength" "DoNotFit" false, .kitC "InvalidIndex" "DoNotFit" false, .kitC "InvalidHaul" "DoNotFit" false, .kitC "InvalidCoins" "DoNotFit" false, .kitC "InvalidCoin" "DoNotFit" false, .kitC "InUse" "DoNotFit" false, .kitC "DoNotFit" "DoNotFit" true, .kitC "Broken" "DoNotFit" false, .kitC "BreaksRules" "DoNotFit" false, .kitC "WrongValue" "NothingToUndo" false, .kitC "WrongRow" "NothingToUndo" false, .kitC "WrongName" "NothingToUndo" false] : List Fm) ++ ([.kitC "UnknownName" "NothingToUndo" false, .kitC "TooMany" "NothingToUndo" false, .kitC "NothingToUndo" "NothingToUndo" true, .kitC "NotBounds" "NothingToUndo" false, .kitC "NotATariff" "NothingToUndo" false, .kitC "NotABook" "NothingToUndo" false, .kitC "NoBook" "NothingToUndo" false, .kitC "NoAnswer" "NothingToUndo" false, .kitC "InvalidWish" "NothingToUndo" false, .kitC "InvalidTickets" "NothingToUndo" false, .kitC "InvalidText" "NothingToUndo" false, .kitC "InvalidTariff" "NothingToUndo" false, .kitC "InvalidStops" "NothingToUndo" false, .kitC "InvalidRules" "NothingToUndo" false, .kitC "InvalidRanges" "NothingToUndo" false, .kitC "InvalidPrices" "NothingToUndo" false, .kitC "InvalidPrice" "NothingToUndo" false, .kitC "InvalidName" "NothingToUndo" false, .kitC "InvalidLine" "NothingToUndo" false, .kitC "InvalidLength" "NothingToUndo" false, .kitC "InvalidIndex" "NothingToUndo" false, .kitC "InvalidHaul" "NothingToUndo" false, .kitC "InvalidCoins" "NothingToUndo" false, .kitC "InvalidCoin" "NothingToUndo" false, .kitC "InUse" "NothingToUndo" false, .kitC "DoNotFit" "NothingToUndo" false, .kitC "Broken" "NothingToUndo" false, .kitC "BreaksRules" "NothingToUndo" false, .kitC "WrongValue" "TooMany" false, .kitC "WrongRow" "TooMany" false] : List Fm) ++ ([.kitC "WrongName" "TooMany" false, .kitC "UnknownName" "TooMany" false, .kitC "TooMany" "TooMany" true, .kitC "NothingToUndo" "TooMany" false, .kitC "NotBounds" "TooMany" false, .kitC "NotATariff" "TooMany" false, .kitC "NotABook" "TooMany" false, .kitC "NoBook" "TooMany" false, .kitC "NoAnswer" "TooMany" false, .kitC "InvalidWish" "TooMany" false, .kitC "InvalidTickets" "TooMany" false, .kitC "InvalidText" "TooMany" false, .kitC "InvalidTariff" "TooMany" false, .kitC "InvalidStops" "TooMany" false, .kitC "InvalidRules" "TooMany" false, .kitC "InvalidRanges" "TooMany" false, .kitC "InvalidPrices" "TooMany" false, .kitC "InvalidPrice" "TooMany" false, .kitC "InvalidName" "TooMany" false, .kitC "InvalidLine" "TooMany" false, .kitC "InvalidLength" "TooMany" false, .kitC "InvalidIndex" "TooMany" false, .kitC "InvalidHaul" "TooMany" false, .kitC "InvalidCoins" "TooMany" false, .kitC "InvalidCoin" "TooMany" false, .kitC "InUse" "TooMany" false, .kitC "DoNotFit" "TooMany" false, .kitC "Broken" "TooMany" false, .kitC "BreaksRules" "TooMany" false, .kitC "WrongValue" "InvalidCoin" false] : List Fm) ++ ([.kitC "WrongRow" "InvalidCoin" false, .kitC "WrongName" "InvalidCoin" false, .kitC "UnknownName" "InvalidCoin" false, .kitC "TooMany" "InvalidCoin" false, .kitC "NothingToUndo" "InvalidCoin" false, .kitC "NotBounds" "InvalidCoin" false, .kitC "NotATariff" "InvalidCoin" false, .kitC "NotABook" "InvalidCoin" false, .kitC "NoBook" "InvalidCoin" false, .kitC "NoAnswer" "InvalidCoin" false, .kitC "InvalidWish" "InvalidCoin" false, .kitC "InvalidTickets" "InvalidCoin" false, .kitC "InvalidText" "InvalidCoin" false, .kitC "InvalidTariff" "InvalidCoin" false, .kitC "InvalidStops" "InvalidCoin" false, .kitC "InvalidRules" "InvalidCoin" false, .kitC "InvalidRanges" "InvalidCoin" false, .kitC "InvalidPrices" "InvalidCoin" false, .kitC "InvalidPrice" "InvalidCoin" false, .kitC "InvalidName" "InvalidCoin" false, .kitC "InvalidLine" "InvalidCoin" false, .kitC "InvalidLength" "InvalidCoin" false, .kitC "InvalidIndex" "InvalidCoin" false, .kitC "InvalidHaul" "InvalidCoin" false, .kitC "InvalidCoins" "InvalidCoin" false, .kitC "InvalidCoin" "InvalidCoin" true, .kitC "InUse" "InvalidCoin" false, .kitC "DoNotFit" "InvalidCoin" false, .kitC "Broken" "InvalidCoin" false, .kitC "BreaksRules" "InvalidCoin" false] : List Fm) ++ ([.kitC "WrongValue" "InvalidName" false, .kitC "WrongRow" "InvalidName" false, .kitC "WrongName" "InvalidName" false, .kitC "UnknownName" "InvalidName" false, .kitC "TooMany" "InvalidName" false, .kitC "NothingToUndo" "InvalidName" false, .kitC "NotBounds" "InvalidName" false, .kitC "NotATariff" "InvalidName" false, .kitC "NotABook" "InvalidName" false, .kitC "NoBook" "InvalidName" false, .kitC "NoAnswer" "InvalidName" false, .kitC "InvalidWish" "InvalidName" false, .kitC "InvalidTickets" "InvalidName" false, .kitC "InvalidText" "InvalidName" false, .kitC "InvalidTariff" "InvalidName" false, .kitC "InvalidStops" "InvalidName" false, .kitC "InvalidRules" "InvalidName" false, .kitC "InvalidRanges" "InvalidName" false, .kitC "InvalidPrices" "InvalidName" false, .kitC "InvalidPrice" "InvalidName" false, .kitC "InvalidName" "InvalidName" true, .kitC "InvalidLine" "InvalidName" false, .kitC "InvalidLength" "InvalidName" false, .kitC "InvalidIndex" "InvalidName" false, .kitC "InvalidHaul" "InvalidName" false, .kitC "InvalidCoins" "InvalidName" false, .kitC "InvalidCoin" "InvalidName" false, .kitC "InUse" "InvalidName" false, .kitC "DoNotFit" "InvalidName" false, .kitC "Broken" "InvalidName" false] : List Fm) ++ ([.kitC "BreaksRules" "InvalidName" false, .kitC "WrongValue" "InvalidWish" false, .kitC "WrongRow" "InvalidWish" false, .kitC "WrongName" "InvalidWish" false, .kitC "UnknownName" "InvalidWish" false, .kitC "TooMany" "InvalidWish" false, .kitC "NothingToUndo" "InvalidWish" false, .kitC "NotBounds" "InvalidWish" false, .kitC "NotATariff" "InvalidWish" false, .kitC "NotABook" "InvalidWish" false, .kitC "NoBook" "InvalidWish" false, .kitC "NoAnswer" "InvalidWish" false, .kitC "InvalidWish" "InvalidWish" true, .kitC "InvalidTickets" "InvalidWish" false, .kitC "InvalidText" "InvalidWish" false, .kitC "InvalidTariff" "InvalidWish" false, .kitC "InvalidStops" "InvalidWish" false, .kitC "InvalidRules" "InvalidWish" false, .kitC "InvalidRanges" "InvalidWish" false, .kitC "InvalidPrices" "InvalidWish" false, .kitC "InvalidPrice" "InvalidWish" false, .kitC "InvalidName" "InvalidWish" false, .kitC "InvalidLine" "InvalidWish" false, .kitC "InvalidLength" "InvalidWish" false, .kitC "InvalidIndex" "InvalidWish" false, .kitC "InvalidHaul" "InvalidWish" false, .kitC "InvalidCoins" "InvalidWish" false, .kitC "InvalidCoin" "InvalidWish" false, .kitC "InUse" "InvalidWish" false, .kitC "DoNotFit" "InvalidWish" false] : List Fm) ++ ([.kitC "Broken" "InvalidWish" false, .kitC "BreaksRules" "InvalidWish" false, .kitC "WrongValue" "InvalidIndex" false, .kitC "WrongRow" "InvalidIndex" false, .kitC "WrongName" "InvalidIndex" false, .kitC "UnknownName" "InvalidIndex" false, .kitC "TooMany" "InvalidIndex" false, .kitC "NothingToUndo" "InvalidIndex" false, .kitC "NotBounds" "InvalidIndex" false, .kitC "NotATariff" "InvalidIndex" false, .kitC "NotABook" "InvalidIndex" false, .kitC "NoBook" "InvalidIndex" false, .kitC "NoAnswer" "InvalidIndex" false, .kitC "InvalidWish" "InvalidIndex" false, .kitC "InvalidTickets" "InvalidIndex" false, .kitC "InvalidText" "InvalidIndex" false, .kitC "InvalidTariff" "InvalidIndex" false, .kitC "InvalidStops" "InvalidIndex" false, .kitC "InvalidRules" "InvalidIndex" false, .kitC "InvalidRanges" "InvalidIndex" false, .kitC "InvalidPrices" "InvalidIndex" false, .kitC "InvalidPrice" "InvalidIndex" false, .kitC "InvalidName" "InvalidIndex" false, .kitC "InvalidLine" "InvalidIndex" false, .kitC "InvalidLength" "InvalidIndex" false, .kitC "InvalidIndex" "InvalidIndex" true, .kitC "InvalidHaul" "InvalidIndex" false, .kitC "InvalidCoins" "InvalidIndex" false, .kitC "InvalidCoin" "InvalidIndex" false, .kitC "InUse" "InvalidIndex" false] : List Fm) ++ ([.kitC "DoNotFit" "InvalidIndex" false, .kitC "Broken" "InvalidIndex" false, .kitC "BreaksRules" "InvalidIndex" false, .kitC "WrongValue" "InvalidLine" false, .kitC "WrongRow" "InvalidLine" false, .kitC "WrongName" "InvalidLine" false, .kitC "UnknownName" "InvalidLine" false, .kitC "TooMany" "InvalidLine" false, .kitC "NothingToUndo" "InvalidLine" false, .kitC "NotBounds" "InvalidLine" false, .kitC "NotATariff" "InvalidLine" false, .kitC "NotABook" "InvalidLine" false, .kitC "NoBook" "InvalidLine" false, .kitC "NoAnswer" "InvalidLine" false, .kitC "InvalidWish" "InvalidLine" false, .kitC "InvalidTickets" "InvalidLine" false, .kitC "InvalidText" "InvalidLine" false, .kitC "InvalidTariff" "InvalidLine" false, .kitC "InvalidStops" "InvalidLine" false, .kitC "InvalidRules" "InvalidLine" false, .kitC "InvalidRanges" "InvalidLine" false, .kitC "InvalidPrices" "InvalidLine" false, .kitC "InvalidPrice" "InvalidLine" false, .kitC "InvalidName" "InvalidLine" false, .kitC "InvalidLine" "InvalidLine" true, .kitC "InvalidLength" "InvalidLine" false, .kitC "InvalidIndex" "InvalidLine" false, .kitC "InvalidHaul" "InvalidLine" false, .kitC "InvalidCoins" "InvalidLine" false, .kitC "InvalidCoin" "InvalidLine" false] : List Fm) ++ ([.kitC "InUse" "InvalidLine" false, .kitC "DoNotFit" "InvalidLine" false, .kitC "Broken" "InvalidLine" false, .kitC "BreaksRules" "InvalidLine" false, .kitC "WrongValue" "InvalidCoins" false, .kitC "WrongRow" "InvalidCoins" false, .kitC "WrongName" "InvalidCoins" false, .kitC "UnknownName" "InvalidCoins" false, .kitC "TooMany" "InvalidCoins" false, .kitC "NothingToUndo" "InvalidCoins" false, .kitC "NotBounds" "InvalidCoins" false, .kitC "NotATariff" "InvalidCoins" false, .kitC "NotABook" "InvalidCoins" false, .kitC "NoBook" "InvalidCoins" false, .kitC "NoAnswer" "InvalidCoins" false, .kitC "InvalidWish" "InvalidCoins" false, .kitC "InvalidTickets" "InvalidCoins" false, .kitC "InvalidText" "InvalidCoins" false, .kitC "InvalidTariff" "InvalidCoins" false, .kitC "InvalidStops" "InvalidCoins" false, .kitC "InvalidRules" "InvalidCoins" false, .kitC "InvalidRanges" "InvalidCoins" false, .kitC "InvalidPrices" "InvalidCoins" false, .kitC "InvalidPrice" "InvalidCoins" false, .kitC "InvalidName" "InvalidCoins" false, .kitC "InvalidLine" "InvalidCoins" false, .kitC "InvalidLength" "InvalidCoins" false, .kitC "InvalidIndex" "InvalidCoins" false, .kitC "InvalidHaul" "InvalidCoins" false, .kitC "InvalidCoins" "InvalidCoins" true] : List Fm) ++ ([.kitC "InvalidCoin" "InvalidCoins" false, .kitC "InUse" "InvalidCoins" false, .kitC "DoNotFit" "InvalidCoins" false, .kitC "Broken" "InvalidCoins" false, .kitC "BreaksRules" "InvalidCoins" false, .kitC "WrongValue" "UnknownName" false, .kitC "WrongRow" "UnknownName" false, .kitC "WrongName" "UnknownName" false, .kitC "UnknownName" "UnknownName" true, .kitC "TooMany" "UnknownName" false, .kitC "NothingToUndo" "UnknownName" false, .kitC "NotBounds" "UnknownName" false, .kitC "NotATariff" "UnknownName" false, .kitC "NotABook" "UnknownName" false, .kitC "NoBook" "UnknownName" false, .kitC "NoAnswer" "UnknownName" false, .kitC "InvalidWish" "UnknownName" false, .kitC "InvalidTickets" "UnknownName" false, .kitC "InvalidText" "UnknownName" false, .kitC "InvalidTariff" "UnknownName" false, .kitC "InvalidStops" "UnknownName" false, .kitC "InvalidRules" "UnknownName" false, .kitC "InvalidRanges" "UnknownName" false, .kitC "InvalidPrices" "UnknownName" false, .kitC "InvalidPrice" "UnknownName" false, .kitC "InvalidName" "UnknownName" false, .kitC "InvalidLine" "UnknownName" false, .kitC "InvalidLength" "UnknownName" false, .kitC "InvalidIndex" "UnknownName" false, .kitC "InvalidHaul" "UnknownName" false] : List Fm) ++ ([.kitC "InvalidCoins" "UnknownName" false, .kitC "InvalidCoin" "UnknownName" false, .kitC "InUse" "UnknownName" false, .kitC "DoNotFit" "UnknownName" false, .kitC "Broken" "UnknownName" false, .kitC "BreaksRules" "UnknownName" false, .kitC "WrongValue" "InUse" false, .kitC "WrongRow" "InUse" false, .kitC "WrongName" "InUse" false, .kitC "UnknownName" "InUse" false, .kitC "TooMany" "InUse" false, .kitC "NothingToUndo" "InUse" false, .kitC "NotBounds" "InUse" false, .kitC "NotATariff" "InUse" false, .kitC "NotABook" "InUse" false, .kitC "NoBook" "InUse" false, .kitC "NoAnswer" "InUse" false, .kitC "InvalidWish" "InUse" false, .kitC "InvalidTickets" "InUse" false, .kitC "InvalidText" "InUse" false, .kitC "InvalidTariff" "InUse" false, .kitC "InvalidStops" "InUse" false, .kitC "InvalidRules" "InUse" false, .kitC "InvalidRanges" "InUse" false, .kitC "InvalidPrices" "InUse" false, .kitC "InvalidPrice" "InUse" false, .kitC "InvalidName" "InUse" false, .kitC "InvalidLine" "InUse" false, .kitC "InvalidLength" "InUse" false, .kitC "InvalidIndex" "InUse" false] : List Fm) ++ ([.kitC "InvalidHaul" "InUse" false, .kitC "InvalidCoins" "InUse" false, .kitC "InvalidCoin" "InUse" false, .kitC "InUse" "InUse" true, .kitC "DoNotFit" "InUse" false, .kitC "Broken" "InUse" false, .kitC "BreaksRules" "InUse" false, .kitC "WrongValue" "Broken" false, .kitC "WrongRow" "Broken" false, .kitC "WrongName" "Broken" false, .kitC "UnknownName" "Broken" false, .kitC "TooMany" "Broken" false, .kitC "NothingToUndo" "Broken" false, .kitC "NotBounds" "Broken" false, .kitC "NotATariff" "Broken" false, .kitC "NotABook" "Broken" false, .kitC "NoBook" "Broken" false, .kitC "NoAnswer" "Broken" false, .kitC "InvalidWish" "Broken" false, .kitC "InvalidTickets" "Broken" false, .kitC "InvalidText" "Broken" false, .kitC "InvalidTariff" "Broken" false, .kitC "InvalidStops" "Broken" false, .kitC "InvalidRules" "Broken" false, .kitC "InvalidRanges" "Broken" false, .kitC "InvalidPrices" "Broken" false, .kitC "InvalidPrice" "Broken" false, .kitC "InvalidName" "Broken" false, .kitC "InvalidLine" "Broken" false, .kitC "InvalidLength" "Broken" false] : List Fm) ++ ([.kitC "InvalidIndex" "Broken" false, .kitC "InvalidHaul" "Broken" false, .kitC "InvalidCoins" "Broken" false, .kitC "InvalidCoin" "Broken" false, .kitC "InUse" "Broken" false, .kitC "DoNotFit" "Broken" false, .kitC "Broken" "Broken" true, .kitC "BreaksRules" "Broken" false, .xf "NoBook" "shown", .xf "BreaksRules" "shown", .xf "TooMany" "limit", .xf "WrongRow" "index", .xf "InvalidTickets" "index", .xf "InvalidTariff" "index", .xf "InvalidRanges" "index", .xf "InvalidPrices" "index", .xf "InvalidCoins" "index", .xf "InUse" "index", .xf "Broken" "index", .xf "UnknownName" "given", .xf "NotBounds" "given", .xf "NotATariff" "given", .xf "NotABook" "given", .xf "InvalidWish" "given", .xf "InvalidText" "given", .xf "InvalidStops" "given", .xf "InvalidRules" "given", .xf "InvalidPrice" "given", .xf "InvalidName" "given", .xf "InvalidLine" "given"] : List Fm) ++ ([.xf "InvalidLength" "given", .xf "InvalidIndex" "given", .xf "InvalidHaul" "given", .xf "InvalidCoin" "given", .xc "InvalidStops" "given", .xc "InvalidHaul" "given", .xc "InvalidPrice" "given", .xc "InvalidRules" "given", .xc "InvalidText" "given", .xc "InvalidLength" "given", .xc "InvalidCoin" "given", .xc "InvalidName" "given", .xc "InvalidWish" "given", .xc "InvalidIndex" "given", .xc "InvalidLine" "given", .xc "NotABook" "given", .xc "NotBounds" "given", .xc "NotATariff" "given", .xc "InvalidPrices" "index", .xc "InvalidRanges" "index", .xc "InvalidTickets" "index", .xc "InvalidTariff" "index", .xc "InvalidCoins" "index", .xc "WrongRow" "index", .xc "UnknownName" "given", .xc "InUse" "index", .xc "BreaksRules" "shown", .xc "NoBook" "shown", .xc "Broken" "index", .xn "DoNotFit"] : List Fm) ++ ([.xn "NothingToUndo", .xc "TooMany" "limit"] : List Fm)
theorem sc__law_bases : FnScope N__law_bases [("_law_e" : Str)] (defScope st__law_bases) := ⟨rfl, rfl, rfl, by decide +kernel, rfl, by decide +kernel, by decide +kernel⟩
theorem sc__law_tags : FnScope N__law_tags [("_law_e" : Str)] (defScope st__law_tags) := ⟨rfl, rfl, rfl, by decide +kernel, rfl, by decide +kernel, by decide +kernel⟩
theorem sc__law_jar : FnScope N__law_jar [("_law_script" : Str), ("_law_k" : Str)] (defScope st__law_jar) := ⟨rfl, rfl, rfl, by decide +kernel, rfl, by decide +kernel, by decide +kernel⟩
theorem sc__law_dip : FnScope N__law_dip [("_law_jar_here" : Str), ("_law_many" : Str)] (defScope st__law_dip) := ⟨rfl, rfl, rfl, by decide +kernel, rfl, by decide +kernel, by decide +kernel⟩
theorem sc__law_pick : FnScope N__law_pick [("_law_jar_here" : Str), ("_law_menu" : Str)] (defScope st__law_pick) := ⟨rfl, rfl, rfl, by decide +kernel, rfl, by decide +kernel, by decide +kernel⟩
theorem sc__law_words : FnScope N__law_words [] (defScope st__law_words) := ⟨rfl, rfl, rfl, by decide +kernel, rfl, by decide +kernel, by decide +kernel⟩
theorem sc__law_kept : FnScope N__law_kept [("_law_e" : Str), ("_law_at" : Str)] (defScope st__law_kept) := ⟨rfl, rfl, rfl, by decide +kernel, rfl, by decide +kernel, by decide +kernel⟩
theorem sc__law_right : FnScope N__law_right [("_law_some" : Str), ("_law_thing" : Str)] (defScope st__law_right) := ⟨rfl, rfl, rfl, by decide +kernel, rfl, by decide +kernel, by decide +kernel⟩
theorem sc_InvalidStops___init__ : FnScope N_InvalidStops___init__ [("self" : Str), ("given" : Str)] (defScope st_InvalidStops___init__) := ⟨rfl, rfl, rfl, by decide +kernel, rfl, by decide +kernel, by decide +kernel⟩
theorem sc_InvalidHaul___init__ : FnScope N_InvalidHaul___init__ [("self" : Str), ("given" : Str)] (defScope st_InvalidHaul___init__) := ⟨rfl, rfl, rfl, by decide +kernel, rfl, by decide +kernel, by decide +kernel⟩
theorem sc_InvalidPrice___init__ : FnScope N_InvalidPrice___init__ [("self" : Str), ("given" : Str)] (defScope st_InvalidPrice___init__) := ⟨rfl, rfl, rfl, by decide +kernel, rfl, by decide +kernel, by decide +kernel⟩
theorem sc_InvalidRules___init__ : FnScope N_InvalidRules___init__ [("self" : Str), ("given" : Str)] (defScope st_InvalidRules___init__) := ⟨rfl, rfl, rfl, by decide +kernel, rfl, by decide +kernel, by decide +kernel⟩
theorem sc_InvalidText___init__ : FnScope N_InvalidText___init__ [("self" : Str), ("given" : Str)] (defScope st_InvalidText___init__) := ⟨rfl, rfl, rfl, by decide +kernel, rfl, by decide +kernel, by decide +kernel⟩
theorem sc_InvalidLength___init__ : FnScope N_InvalidLength___init__ [("self" : Str), ("given" : Str)] (defScope st_InvalidLength___init__) := ⟨rfl, rfl, rfl, by decide +kernel, rfl, by decide +kernel, by decide +kernel⟩
theorem sc_InvalidCoin___init__ : FnScope N_InvalidCoin___init__ [("self" : Str), ("given" : Str)] (defScope st_InvalidCoin___init__) := ⟨rfl, rfl, rfl, by decide +kernel, rfl, by decide +kernel, by decide +kernel⟩
theorem sc_InvalidName___init__ : FnScope N_InvalidName___init__ [("self" : Str), ("given" : Str)] (defScope st_InvalidName___init__) := ⟨rfl, rfl, rfl, by decide +kernel, rfl, by decide +kernel, by decide +kernel⟩
theorem sc_InvalidWish___init__ : FnScope N_InvalidWish___init__ [("self" : Str), ("given" : Str)] (defScope st_InvalidWish___init__) := ⟨rfl, rfl, rfl, by decide +kernel, rfl, by decide +kernel, by decide +kernel⟩
theorem sc_InvalidIndex___init__ : FnScope N_InvalidIndex___init__ [("self" : Str), ("given" : Str)] (defScope st_InvalidIndex___init__) := ⟨rfl, rfl, rfl, by decide +kernel, rfl, by decide +kernel, by decide +kernel⟩
theorem sc_InvalidLine___init__ : FnScope N_InvalidLine___init__ [("self" : Str), ("given" : Str)] (defScope st_InvalidLine___init__) := ⟨rfl, rfl, rfl, by decide +kernel, rfl, by decide +kernel, by decide +kernel⟩
theorem sc_NotABook___init__ : FnScope N_NotABook___init__ [("self" : Str), ("given" : Str)] (defScope st_NotABook___init__) := ⟨rfl, rfl, rfl, by decide +kernel, rfl, by decide +kernel, by decide +kernel⟩
theorem sc_NotBounds___init__ : FnScope N_NotBounds___init__ [("self" : Str), ("given" : Str)] (defScope st_NotBounds___init__) := ⟨rfl, rfl, rfl, by decide +kernel, rfl, by decide +kernel, by decide +kernel⟩
theorem sc_NotATariff___init__ : FnScope N_NotATariff___init__ [("self" : Str), ("given" : Str)] (defScope st_NotATariff___init__) := ⟨rfl, rfl, rfl, by decide +kernel, rfl, by decide +kernel, by decide +kernel⟩
theorem sc_InvalidPrices___init__ : FnScope N_InvalidPrices___init__ [("self" : Str), ("index" : Str)] (defScope st_InvalidPrices___init__) := ⟨rfl, rfl, rfl, by decide +kernel, rfl, by decide +kernel, by decide +kernel⟩
theorem sc_InvalidRanges___init__ : FnScope N_InvalidRanges___init__ [("self" : Str), ("index" : Str)] (defScope st_InvalidRanges___init__) := ⟨rfl, rfl, rfl, by decide +kernel, rfl, by decide +kernel, by decide +kernel⟩
theorem sc_InvalidTickets___init__ : FnScope N_InvalidTickets___init__ [("self" : Str), ("index" : Str)] (defScope st_InvalidTickets___init__) := ⟨rfl, rfl, rfl, by decide +kernel, rfl, by decide +kernel, by decide +kernel⟩
theorem sc_InvalidTariff___init__ : FnScope N_InvalidTariff___init__ [("self" : Str), ("index" : Str)] (defScope st_InvalidTariff___init__) := ⟨rfl, rfl, rfl, by decide +kernel, rfl, by decide +kernel, by decide +kernel⟩
theorem sc_InvalidCoins___init__ : FnScope N_InvalidCoins___init__ [("self" : Str), ("index" : Str)] (defScope st_InvalidCoins___init__) := ⟨rfl, rfl, rfl, by decide +kernel, rfl, by decide +kernel, by decide +kernel⟩
theorem sc_WrongRow___init__ : FnScope N_WrongRow___init__ [("self" : Str), ("index" : Str)] (defScope st_WrongRow___init__) := ⟨rfl, rfl, rfl, by decide +kernel, rfl, by decide +kernel, by decide +kernel⟩
theorem sc_UnknownName___init__ : FnScope N_UnknownName___init__ [("self" : Str), ("given" : Str)] (defScope st_UnknownName___init__) := ⟨rfl, rfl, rfl, by decide +kernel, rfl, by decide +kernel, by decide +kernel⟩
theorem sc_InUse___init__ : FnScope N_InUse___init__ [("self" : Str), ("index" : Str)] (defScope st_InUse___init__) := ⟨rfl, rfl, rfl, by decide +kernel, rfl, by decide +kernel, by decide +kernel⟩
theorem sc_BreaksRules___init__ : FnScope N_BreaksRules___init__ [("self" : Str), ("shown" : Str)] (defScope st_BreaksRules___init__) := ⟨rfl, rfl, rfl, by decide +kernel, rfl, by decide +kernel, by decide +kernel⟩
theorem sc_NoBook___init__ : FnScope N_NoBook___init__ [("self" : Str), ("shown" : Str)] (defScope st_NoBook___init__) := ⟨rfl, rfl, rfl, by decide +kernel, rfl, by decide +kernel, by decide +kernel⟩
theorem sc_Broken___init__ : FnScope N_Broken___init__ [("self" : Str), ("index" : Str)] (defScope st_Broken___init__) := ⟨rfl, rfl, rfl, by decide +kernel, rfl, by decide +kernel, by decide +kernel⟩
theorem sc_TooMany___init__ : FnScope N_TooMany___init__ [("self" : Str), ("limit" : Str)] (defScope st_TooMany___init__) := ⟨rfl, rfl, rfl, by decide +kernel, rfl, by decide +kernel, by decide +kernel⟩
theorem sc__law_all : FnScope N__law_all [("_law_thing" : Str)] (defScope st__law_all) := ⟨rfl, rfl, rfl, by decide +kernel, rfl, by decide +kernel, by decide +kernel⟩
theorem sc__law_named : FnScope N__law_named [("_law_thing" : Str)] (defScope st__law_named) := ⟨rfl, rfl, rfl, by decide +kernel, rfl, by decide +kernel, by decide +kernel⟩
theorem sc_law : FnScope N_law [("_law_script" : Str)] (defScope st_law) := ⟨rfl, rfl, rfl, by decide +kernel, rfl, by decide +kernel, by decide +kernel⟩
section
variable {P : Program} {w : World} {K : PySem.W.Frag} {h base : Heap} {mg : Str → Option Value}
theorem ok__law_bases (kx : K.In h) (G : h.Ns mainGlobals mg) (c : SaysM fa fm fn K) : FnK P w K mg base (DE K) 1 1 ((.g "_law_bases" : Loc3).at_ K) [] c__law_bases := by
  obtain ⟨fd, F⟩ := c.d 0 (d := d__law_bases) rfl
  exact fnk_of (fin := endE) F sc__law_bases rfl (F.bindsN fun _ _ _ _ _ _ us hl => match us, hl with | [_], _ => rfl) .nil (fun _ _ => .nil) finE fun cdv A outer s H E hr =>
    (ss_cons (ss_set (i := 1) sc__law_bases.nd rfl (by first | exact Or.inl rfl | exact Or.inr rfl) (SO.e (so_lst (sl_cons (se_isXv (cv := .ref (He.ga _ "WrongValue")) (u := .ref (He.ga _ "WrongValue")) (isXU_consC (c.b 60 rfl) (c.b 61 rfl) (isXU_consC (c.b 58 rfl) (c.b 59 rfl) (isXU_consC (c.b 56 rfl) (c.b 57 rfl) (isXU_consC (c.b 54 rfl) (c.b 55 rfl) (isXU_consC (c.b 52 rfl) (c.b 53 rfl) (isXU_consC (c.b 50 rfl) (c.b 51 rfl) (isXU_consC (c.b 48 rfl) (c.b 49 rfl) (isXU_consC (c.b 46 rfl) (c.b 47 rfl) (isXU_consC (c.b 44 rfl) (c.b 45 rfl) (isXU_consC (c.b 42 rfl) (c.b 43 rfl) (isXU_consC (c.b 40 rfl) (c.b 41 rfl) (isXU_consC (c.b 38 rfl) (c.b 39 rfl) (isXU_consC (c.b 36 rfl) (c.b 37 rfl) (isXU_consC (c.b 34 rfl) (c.b 35 rfl) (isXU_consC (c.b 32 rfl) (c.b 33 rfl) (isXU_consC (c.b 30 rfl) (c.b 31 rfl) (isXU_consC (c.b 28 rfl) (c.b 29 rfl) (isXU_consC (c.b 26 rfl) (c.b 27 rfl) (isXU_consC (c.b 24 rfl) (c.b 25 rfl) (isXU_consC (c.b 22 rfl) (c.b 23 rfl) (isXU_consC (c.b 20 rfl) (c.b 21 rfl) (isXU_consC (c.b 18 rfl) (c.b 19 rfl) (isXU_consC (c.b 16 rfl) (c.b 17 rfl) (isXU_consC (c.b 14 rfl) (c.b 15 rfl) (isXU_consC (c.b 12 rfl) (c.b 13 rfl) (isXU_consC (c.b 10 rfl) (c.b 11 rfl) (isXU_consC (c.b 8 rfl) (c.b 9 rfl) (isXU_consC (c.b 6 rfl) (c.b 7 rfl) (isXU_consC (c.b 4 rfl) (c.b 5 rfl) (isXU_consC (c.b 2 rfl) (c.b 3 rfl) (isXU_consC (c.b 0 rfl) (c.b 1 rfl) isXU_nil))))))))))))))))))))))))))))))) (vE 0) (by exact pe_own (He.glo_ok kx G (x := "WrongValue") (c.a 6 rfl))) (fun _ h => h) rfl (He.free_ok kx G (x := "isinstance") (c.a 7 rfl))) (sl_cons (se_isXv (cv := .ref (He.ga _ "WrongName")) (u := .ref (He.ga _ "WrongName")) (isXU_consC (c.b 60 rfl) (c.b 92 rfl) (isXU_consC (c.b 58 rfl) (c.b 91 rfl) (isXU_consC (c.b 56 rfl) (c.b 90 rfl) (isXU_consC (c.b 54 rfl) (c.b 89 rfl) (isXU_consC (c.b 52 rfl) (c.b 88 rfl) (isXU_consC (c.b 50 rfl) (c.b 87 rfl) (isXU_consC (c.b 48 rfl) (c.b 86 rfl) (isXU_consC (c.b 46 rfl) (c.b 85 rfl) (isXU_consC (c.b 44 rfl) (c.b 84 rfl) (isXU_consC (c.b 42 rfl) (c.b 83 rfl) (isXU_consC (c.b 40 rfl) (c.b 82 rfl) (isXU_consC (c.b 38 rfl) (c.b 81 rfl) (isXU_consC (c.b 36 rfl) (c.b 80 rfl) (isXU_consC (c.b 34 rfl) (c.b 79 rfl) (isXU_consC (c.b 32 rfl) (c.b 78 rfl) (isXU_consC (c.b 30 rfl) (c.b 77 rfl) (isXU_consC (c.b 28 rfl) (c.b 76 rfl) (isXU_consC (c.b 26 rfl) (c.b 75 rfl) (isXU_consC (c.b 24 rfl) (c.b 74 rfl) (isXU_consC (c.b 22 rfl) (c.b 73 rfl) (isXU_consC (c.b 20 rfl) (c.b 72 rfl) (isXU_consC (c.b 18 rfl) (c.b 71 rfl) (isXU_consC (c.b 16 rfl) (c.b 70 rfl) (isXU_consC (c.b 14 rfl) (c.b 69 rfl) (isXU_consC (c.b 12 rfl) (c.b 68 rfl) (isXU_consC (c.b 10 rfl) (c.b 67 rfl) (isXU_consC (c.b 8 rfl) (c.b 66 rfl) (isXU_consC (c.b 6 rfl) (c.b 65 rfl) (isXU_consC (c.b 4 rfl) (c.b 64 rfl) (isXU_consC (c.b 2 rfl) (c.b 63 rfl) (isXU_consC (c.b 0 rfl) (c.b 62 rfl) isXU_nil))))))))))))))))))))))))))))))) (vE 0) (by exact pe_own (He.glo_ok kx G (x := "WrongName") (c.a 8 rfl))) (fun _ h => h) rfl (He.free_ok kx G (x := "isinstance") (c.a 7 rfl))) (sl_cons (se_isXv (cv := .ref (He.ga _ "NoAnswer")) (u := .ref (He.ga _ "NoAnswer")) (isXU_consC (c.b 60 rfl) (c.b 123 rfl) (isXU_consC (c.b 58 rfl) (c.b 122 rfl) (isXU_consC (c.b 56 rfl) (c.b 121 rfl) (isXU_consC (c.b 54 rfl) (c.b 120 rfl) (isXU_consC (c.b 52 rfl) (c.b 119 rfl) (isXU_consC (c.b 50 rfl) (c.b 118 rfl) (isXU_consC (c.b 48 rfl) (c.b 117 rfl) (isXU_consC (c.b 46 rfl) (c.b 116 rfl) (isXU_consC (c.b 44 rfl) (c.b 115 rfl) (isXU_consC (c.b 42 rfl) (c.b 114 rfl) (isXU_consC (c.b 40 rfl) (c.b 113 rfl) (isXU_consC (c.b 38 rfl) (c.b 112 rfl) (isXU_consC (c.b 36 rfl) (c.b 111 rfl) (isXU_consC (c.b 34 rfl) (c.b 110 rfl) (isXU_consC (c.b 32 rfl) (c.b 109 rfl) (isXU_consC (c.b 30 rfl) (c.b 108 rfl) (isXU_consC (c.b 28 rfl) (c.b 107 rfl) (isXU_consC (c.b 26 rfl) (c.b 106 rfl) (isXU_consC (c.b 24 rfl) (c.b 105 rfl) (isXU_consC (c.b 22 rfl) (c.b 104 rfl) (isXU_consC (c.b 20 rfl) (c.b 103 rfl) (isXU_consC (c.b 18 rfl) (c.b 102 rfl) (isXU_consC (c.b 16 rfl) (c.b 101 rfl) (isXU_consC (c.b 14 rfl) (c.b 100 rfl) (isXU_consC (c.b 12 rfl) (c.b 99 rfl) (isXU_consC (c.b 10 rfl) (c.b 98 rfl) (isXU_consC (c.b 8 rfl) (c.b 97 rfl) (isXU_consC (c.b 6 rfl) (c.b 96 rfl) (isXU_consC (c.b 4 rfl) (c.b 95 rfl) (isXU_consC (c.b 2 rfl) (c.b 94 rfl) (isXU_consC (c.b 0 rfl) (c.b 93 rfl) isXU_nil))))))))))))))))))))))))))))))) (vE 0) (by exact pe_own (He.glo_ok kx G (x := "NoAnswer") (c.a 9 rfl))) (fun _ h => h) rfl (He.free_ok kx G (x := "isinstance") (c.a 7 rfl))) sl_nil)))))) (ss_one (ss_ret DE.ok (s_bin DE.ok op2_add (vB 1) (SE.b (SO.e (so_lst (sl_cons (se_isXv (cv := .ty "ValueError") (u := .type "ValueError") (isXU_consT (c.b 60 rfl) (c.b 154 rfl) (isXU_consT (c.b 58 rfl) (c.b 153 rfl) (isXU_consT (c.b 56 rfl) (c.b 152 rfl) (isXU_consT (c.b 54 rfl) (c.b 151 rfl) (isXU_consT (c.b 52 rfl) (c.b 150 rfl) (isXU_consT (c.b 50 rfl) (c.b 149 rfl) (isXU_consT (c.b 48 rfl) (c.b 148 rfl) (isXU_consT (c.b 46 rfl) (c.b 147 rfl) (isXU_consT (c.b 44 rfl) (c.b 146 rfl) (isXU_consT (c.b 42 rfl) (c.b 145 rfl) (isXU_consT (c.b 40 rfl) (c.b 144 rfl) (isXU_consT (c.b 38 rfl) (c.b 143 rfl) (isXU_consT (c.b 36 rfl) (c.b 142 rfl) (isXU_consT (c.b 34 rfl) (c.b 141 rfl) (isXU_consT (c.b 32 rfl) (c.b 140 rfl) (isXU_consT (c.b 30 rfl) (c.b 139 rfl) (isXU_consT (c.b 28 rfl) (c.b 138 rfl) (isXU_consT (c.b 26 rfl) (c.b 137 rfl) (isXU_consT (c.b 24 rfl) (c.b 136 rfl) (isXU_consT (c.b 22 rfl) (c.b 135 rfl) (isXU_consT (c.b 20 rfl) (c.b 134 rfl) (isXU_consT (c.b 18 rfl) (c.b 133 rfl) (isXU_consT (c.b 16 rfl) (c.b 132 rfl) (isXU_consT (c.b 14 rfl) (c.b 131 rfl) (isXU_consT (c.b 12 rfl) (c.b 130 rfl) (isXU_consT (c.b 10 rfl) (c.b 129 rfl) (isXU_consT (c.b 8 rfl) (c.b 128 rfl) (isXU_consT (c.b 6 rfl) (c.b 127 rfl) (isXU_consT (c.b 4 rfl) (c.b 126 rfl) (isXU_consT (c.b 2 rfl) (c.b 125 rfl) (isXU_consT (c.b 0 rfl) (c.b 124 rfl) isXU_nil))))))))))))))))))))))))))))))) (vE 0) (pe_tyN (n := "ValueError") rfl (He.free_ok kx G (x := "ValueError") (c.a 10 rfl)) (by decide +kernel)) (fun _ h => h) rfl (He.free_ok kx G (x := "isinstance") (c.a 7 rfl))) (sl_cons (se_isXv (cv := .ty "LookupError") (u := .type "LookupError") (isXU_consT (c.b 60 rfl) (c.b 185 rfl) (isXU_consT (c.b 58 rfl) (c.b 184 rfl) (isXU_consT (c.b 56 rfl) (c.b 183 rfl) (isXU_consT (c.b 54 rfl) (c.b 182 rfl) (isXU_consT (c.b 52 rfl) (c.b 181 rfl) (isXU_consT (c.b 50 rfl) (c.b 180 rfl) (isXU_consT (c.b 48 rfl) (c.b 179 rfl) (isXU_consT (c.b 46 rfl) (c.b 178 rfl) (isXU_consT (c.b 44 rfl) (c.b 177 rfl) (isXU_consT (c.b 42 rfl) (c.b 176 rfl) (isXU_consT (c.b 40 rfl) (c.b 175 rfl) (isXU_consT (c.b 38 rfl) (c.b 174 rfl) (isXU_consT (c.b 36 rfl) (c.b 173 rfl) (isXU_consT (c.b 34 rfl) (c.b 172 rfl) (isXU_consT (c.b 32 rfl) (c.b 171 rfl) (isXU_consT (c.b 30 rfl) (c.b 170 rfl) (isXU_consT (c.b 28 rfl) (c.b 169 rfl) (isXU_consT (c.b 26 rfl) (c.b 168 rfl) (isXU_consT (c.b 24 rfl) (c.b 167 rfl) (isXU_consT (c.b 22 rfl) (c.b 166 rfl) (isXU_consT (c.b 20 rfl) (c.b 165 rfl) (isXU_consT (c.b 18 rfl) (c.b 164 rfl) (isXU_consT (c.b 16 rfl) (c.b 163 rfl) (isXU_consT (c.b 14 rfl) (c.b 162 rfl) (isXU_consT (c.b 12 rfl) (c.b 161 rfl) (isXU_consT (c.b 10 rfl) (c.b 160 rfl) (isXU_consT (c.b 8 rfl) (c.b 159 rfl) (isXU_consT (c.b 6 rfl) (c.b 158 rfl) (isXU_consT (c.b 4 rfl) (c.b 157 rfl) (isXU_consT (c.b 2 rfl) (c.b 156 rfl) (isXU_consT (c.b 0 rfl) (c.b 155 rfl) isXU_nil))))))))))))))))))))))))))))))) (vE 0) (pe_tyN (n := "LookupError") rfl (He.free_ok kx G (x := "LookupError") (c.a 11 rfl)) (by decide +kernel)) (fun _ h => h) rfl (He.free_ok kx G (x := "isinstance") (c.a 7 rfl))) (sl_cons (se_isXv (cv := .ty "ArithmeticError") (u := .type "ArithmeticError") (isXU_consT (c.b 60 rfl) (c.b 216 rfl) (isXU_consT (c.b 58 rfl) (c.b 215 rfl) (isXU_consT (c.b 56 rfl) (c.b 214 rfl) (isXU_consT (c.b 54 rfl) (c.b 213 rfl) (isXU_consT (c.b 52 rfl) (c.b 212 rfl) (isXU_consT (c.b 50 rfl) (c.b 211 rfl) (isXU_consT (c.b 48 rfl) (c.b 210 rfl) (isXU_consT (c.b 46 rfl) (c.b 209 rfl) (isXU_consT (c.b 44 rfl) (c.b 208 rfl) (isXU_consT (c.b 42 rfl) (c.b 207 rfl) (isXU_consT (c.b 40 rfl) (c.b 206 rfl) (isXU_consT (c.b 38 rfl) (c.b 205 rfl) (isXU_consT (c.b 36 rfl) (c.b 204 rfl) (isXU_consT (c.b 34 rfl) (c.b 203 rfl) (isXU_consT (c.b 32 rfl) (c.b 202 rfl) (isXU_consT (c.b 30 rfl) (c.b 201 rfl) (isXU_consT (c.b 28 rfl) (c.b 200 rfl) (isXU_consT (c.b 26 rfl) (c.b 199 rfl) (isXU_consT (c.b 24 rfl) (c.b 198 rfl) (isXU_consT (c.b 22 rfl) (c.b 197 rfl) (isXU_consT (c.b 20 rfl) (c.b 196 rfl) (isXU_consT (c.b 18 rfl) (c.b 195 rfl) (isXU_consT (c.b 16 rfl) (c.b 194 rfl) (isXU_consT (c.b 14 rfl) (c.b 193 rfl) (isXU_consT (c.b 12 rfl) (c.b 192 rfl) (isXU_consT (c.b 10 rfl) (c.b 191 rfl) (isXU_consT (c.b 8 rfl) (c.b 190 rfl) (isXU_consT (c.b 6 rfl) (c.b 189 rfl) (isXU_consT (c.b 4 rfl) (c.b 188 rfl) (isXU_consT (c.b 2 rfl) (c.b 187 rfl) (isXU_consT (c.b 0 rfl) (c.b 186 rfl) isXU_nil))))))))))))))))))))))))))))))) (vE 0) (pe_tyN (n := "ArithmeticError") rfl (He.free_ok kx G (x := "ArithmeticError") (c.a 12 rfl)) (by decide +kernel)) (fun _ h => h) rfl (He.free_ok kx G (x := "isinstance") (c.a 7 rfl))) sl_nil))))))))))
theorem ok__law_tags (kx : K.In h) (G : h.Ns mainGlobals mg) (c : SaysM fa fm fn K) : FnK P w K mg base (DE K) 1 1 ((.g "_law_tags" : Loc3).at_ K) [] c__law_tags := by
  obtain ⟨fd, F⟩ := c.d 1 (d := d__law_tags) rfl
  exact fnk_of (fin := endE) F sc__law_tags rfl (F.bindsN fun _ _ _ _ _ _ us hl => match us, hl with | [_], _ => rfl) .nil (fun _ _ => .nil) finE fun cdv A outer s H E hr =>
    (ss_cons (ss_set (i := 1) sc__law_tags.nd rfl (by first | exact Or.inl rfl | exact Or.inr rfl) (SO.e (so_lst sl_nil))) (ss_cons (ss_set (i := 1) sc__law_tags.nd rfl (by first | exact Or.inl rfl | exact Or.inr rfl) (s_bin DE.ok op2_add (vB 1) (SE.b (s_if DE.ok (st_val (se_isXv (cv := .ref (He.ga _ "InvalidStops")) (u := .ref (He.ga _ "InvalidStops")) (isXU_consC (c.b 60 rfl) (c.b 250 rfl) (isXU_consC (c.b 58 rfl) (c.b 249 rfl) (isXU_consC (c.b 56 rfl) (c.b 248 rfl) (isXU_consC (c.b 54 rfl) (c.b 247 rfl) (isXU_consC (c.b 52 rfl) (c.b 246 rfl) (isXU_consC (c.b 50 rfl) (c.b 245 rfl) (isXU_consC (c.b 48 rfl) (c.b 244 rfl) (isXU_consC (c.b 46 rfl) (c.b 243 rfl) (isXU_consC (c.b 44 rfl) (c.b 242 rfl) (isXU_consC (c.b 42 rfl) (c.b 241 rfl) (isXU_consC (c.b 40 rfl) (c.b 240 rfl) (isXU_consC (c.b 38 rfl) (c.b 239 rfl) (isXU_consC (c.b 36 rfl) (c.b 238 rfl) (isXU_consC (c.b 34 rfl) (c.b 237 rfl) (isXU_consC (c.b 32 rfl) (c.b 236 rfl) (isXU_consC (c.b 30 rfl) (c.b 235 rfl) (isXU_consC (c.b 28 rfl) (c.b 234 rfl) (isXU_consC (c.b 26 rfl) (c.b 233 rfl) (isXU_consC (c.b 24 rfl) (c.b 232 rfl) (isXU_consC (c.b 22 rfl) (c.b 231 rfl) (isXU_consC (c.b 20 rfl) (c.b 230 rfl) (isXU_consC (c.b 18 rfl) (c.b 229 rfl) (isXU_consC (c.b 16 rfl) (c.b 228 rfl) (isXU_consC (c.b 14 rfl) (c.b 227 rfl) (isXU_consC (c.b 12 rfl) (c.b 226 rfl) (isXU_consC (c.b 10 rfl) (c.b 225 rfl) (isXU_consC (c.b 8 rfl) (c.b 224 rfl) (isXU_consC (c.b 6 rfl) (c.b 223 rfl) (isXU_consC (c.b 4 rfl) (c.b 222 rfl) (isXU_consC (c.b 2 rfl) (c.b 221 rfl) (isXU_consC (c.b 0 rfl) (c.b 220 rfl) isXU_nil))))))))))))))))))))))))))))))) (vE 0) (by exact pe_own (He.glo_ok kx G (x := "InvalidStops") (c.a 14 rfl))) (fun _ h => h) rfl (He.free_ok kx G (x := "isinstance") (c.a 7 rfl)))) (SO.e (so_lst (sl_cons se_str sl_nil))) (SO.e (so_lst sl_nil)))))) (ss_cons (ss_set (i := 1) sc__law_tags.nd rfl (by first | exact Or.inl rfl | exact Or.inr rfl) (s_bin DE.ok op2_add (vB 1) (SE.b (s_if DE.ok (st_val (se_isXv (cv := .ref (He.ga _ "InvalidHaul")) (u := .ref (He.ga _ "InvalidHaul")) (isXU_consC (c.b 60 rfl) (c.b 281 rfl) (isXU_consC (c.b 58 rfl) (c.b 280 rfl) (isXU_consC (c.b 56 rfl) (c.b 279 rfl) (isXU_consC (c.b 54 rfl) (c.b 278 rfl) (isXU_consC (c.b 52 rfl) (c.b 277 rfl) (isXU_consC (c.b 50 rfl) (c.b 276 rfl) (isXU_consC (c.b 48 rfl) (c.b 275 rfl) (isXU_consC (c.b 46 rfl) (c.b 274 rfl) (isXU_consC (c.b 44 rfl) (c.b 273 rfl) (isXU_consC (c.b 42 rfl) (c.b 272 rfl) (isXU_consC (c.b 40 rfl) (c.b 271 rfl) (isXU_consC (c.b 38 rfl) (c.b 270 rfl) (isXU_consC (c.b 36 rfl) (c.b 269 rfl) (isXU_consC (c.b 34 rfl) (c.b 268 rfl) (isXU_consC (c.b 32 rfl) (c.b 267 rfl) (isXU_consC (c.b 30 rfl) (c.b 266 rfl) (isXU_consC (c.b 28 rfl) (c.b 265 rfl) (isXU_consC (c.b 26 rfl) (c.b 264 rfl) (isXU_consC (c.b 24 rfl) (c.b 263 rfl) (isXU_consC (c.b 22 rfl) (c.b 262 rfl) (isXU_consC (c.b 20 rfl) (c.b 261 rfl) (isXU_consC (c.b 18 rfl) (c.b 260 rfl) (isXU_consC (c.b 16 rfl) (c.b 259 rfl) (isXU_consC (c.b 14 rfl) (c.b 258 rfl) (isXU_consC (c.b 12 rfl) (c.b 257 rfl) (isXU_consC (c.b 10 rfl) (c.b 256 rfl) (isXU_consC (c.b 8 rfl) (c.b 255 rfl) (isXU_consC (c.b 6 rfl) (c.b 254 rfl) (isXU_consC (c.b 4 rfl) (c.b 253 rfl) (isXU_consC (c.b 2 rfl) (c.b 252 rfl) (isXU_consC (c.b 0 rfl) (c.b 251 rfl) isXU_nil))))))))))))))))))))))))))))))) (vE 0) (by exact pe_own (He.glo_ok kx G (x := "InvalidHaul") (c.a 15 rfl))) (fun _ h => h) rfl (He.free_ok kx G (x := "isinstance") (c.a 7 rfl)))) (SO.e (so_lst (sl_cons se_str sl_nil))) (SO.e (so_lst sl_nil)))))) (ss_cons (ss_set (i := 1) sc__law_tags.nd rfl (by first | exact Or.inl rfl | exact Or.inr rfl) (s_bin DE.ok op2_add (vB 1) (SE.b (s_if DE.ok (st_val (se_isXv (cv := .ref (He.ga _ "InvalidPrice")) (u := .ref (He.ga _ "InvalidPrice")) (isXU_consC (c.b 60 rfl) (c.b 312 rfl) (isXU_consC (c.b 58 rfl) (c.b 311 rfl) (isXU_consC (c.b 56 rfl) (c.b 310 rfl) (isXU_consC (c.b 54 rfl) (c.b 309 rfl) (isXU_consC (c.b 52 rfl) (c.b 308 rfl) (isXU_consC (c.b 50 rfl) (c.b 307 rfl) (isXU_consC (c.b 48 rfl) (c.b 306 rfl) (isXU_consC (c.b 46 rfl) (c.b 305 rfl) (isXU_consC (c.b 44 rfl) (c.b 304 rfl) (isXU_consC (c.b 42 rfl) (c.b 303 rfl) (isXU_consC (c.b 40 rfl) (c.b 302 rfl) (isXU_consC (c.b 38 rfl) (c.b 301 rfl) (isXU_consC (c.b 36 rfl) (c.b 300 rfl) (isXU_consC (c.b 34 rfl) (c.b 299 rfl) (isXU_consC (c.b 32 rfl) (c.b 298 rfl) (isXU_consC (c.b 30 rfl) (c.b 297 rfl) (isXU_consC (c.b 28 rfl) (c.b 296 rfl) (isXU_consC (c.b 26 rfl) (c.b 295 rfl) (isXU_consC (c.b 24 rfl) (c.b 294 rfl) (isXU_consC (c.b 22 rfl) (c.b 293 rfl) (isXU_consC (c.b 20 rfl) (c.b 292 rfl) (isXU_consC (c.b 18 rfl) (c.b 291 rfl) (isXU_consC (c.b 16 rfl) (c.b 290 rfl) (isXU_consC (c.b 14 rfl) (c.b 289 rfl) (isXU_consC (c.b 12 rfl) (c.b 288 rfl) (isXU_consC (c.b 10 rfl) (c.b 287 rfl) (isXU_consC (c.b 8 rfl) (c.b 286 rfl) (isXU_consC (c.b 6 rfl) (c.b 285 rfl) (isXU_consC (c.b 4 rfl) (c.b 284 rfl) (isXU_consC (c.b 2 rfl) (c.b 283 rfl) (isXU_consC (c.b 0 rfl) (c.b 282 rfl) isXU_nil))))))))))))))))))))))))))))))) (vE 0) (by exact pe_own (He.glo_ok kx G (x := "InvalidPrice") (c.a 16 rfl))) (fun _ h => h) rfl (He.free_ok kx G (x := "isinstance") (c.a 7 rfl)))) (SO.e (so_lst (sl_cons se_str sl_nil))) (SO.e (so_lst sl_nil)))))) (ss_cons (ss_set (i := 1) sc__law_tags.nd rfl (by first | exact Or.inl rfl | exact Or.inr rfl) (s_bin DE.ok op2_add (vB 1) (SE.b (s_if DE.ok (st_val (se_isXv (cv := .ref (He.ga _ "InvalidRules")) (u := .ref (He.ga _ "InvalidRules")) (isXU_consC (c.b 60 rfl) (c.b 343 rfl) (isXU_consC (c.b 58 rfl) (c.b 342 rfl) (isXU_consC (c.b 56 rfl) (c.b 341 rfl) (isXU_consC (c.b 54 rfl) (c.b 340 rfl) (isXU_consC (c.b 52 rfl) (c.b 339 rfl) (isXU_consC (c.b 50 rfl) (c.b 338 rfl) (isXU_consC (c.b 48 rfl) (c.b 337 rfl) (isXU_consC (c.b 46 rfl) (c.b 336 rfl) (isXU_consC (c.b 44 rfl) (c.b 335 rfl) (isXU_consC (c.b 42 rfl) (c.b 334 rfl) (isXU_consC (c.b 40 rfl) (c.b 333 rfl) (isXU_consC (c.b 38 rfl) (c.b 332 rfl) (isXU_consC (c.b 36 rfl) (c.b 331 rfl) (isXU_consC (c.b 34 rfl) (c.b 330 rfl) (isXU_consC (c.b 32 rfl) (c.b 329 rfl) (isXU_consC (c.b 30 rfl) (c.b 328 rfl) (isXU_consC (c.b 28 rfl) (c.b 327 rfl) (isXU_consC (c.b 26 rfl) (c.b 326 rfl) (isXU_consC (c.b 24 rfl) (c.b 325 rfl) (isXU_consC (c.b 22 rfl) (c.b 324 rfl) (isXU_consC (c.b 20 rfl) (c.b 323 rfl) (isXU_consC (c.b 18 rfl) (c.b 322 rfl) (isXU_consC (c.b 16 rfl) (c.b 321 rfl) (isXU_consC (c.b 14 rfl) (c.b 320 rfl) (isXU_consC (c.b 12 rfl) (c.b 319 rfl) (isXU_consC (c.b 10 rfl) (c.b 318 rfl) (isXU_consC (c.b 8 rfl) (c.b 317 rfl) (isXU_consC (c.b 6 rfl) (c.b 316 rfl) (isXU_consC (c.b 4 rfl) (c.b 315 rfl) (isXU_consC (c.b 2 rfl) (c.b 314 rfl) (isXU_consC (c.b 0 rfl) (c.b 313 rfl) isXU_nil))))))))))))))))))))))))))))))) (vE 0) (by exact pe_own (He.glo_ok kx G (x := "InvalidRules") (c.a 17 rfl))) (fun _ h => h) rfl (He.free_ok kx G (x := "isinstance") (c.a 7 rfl)))) (SO.e (so_lst (sl_cons se_str sl_nil))) (SO.e (so_lst sl_nil)))))) (ss_cons (ss_set (i := 1) sc__law_tags.nd rfl (by first | exact Or.inl rfl | exact Or.inr rfl) (s_bin DE.ok op2_add (vB 1) (SE.b (s_if DE.ok (st_val (se_isXv (cv := .ref (He.ga _ "InvalidText")) (u := .ref (He.ga _ "InvalidText")) (isXU_consC (c.b 60 rfl) (c.b 374 rfl) (isXU_consC (c.b 58 rfl) (c.b 373 rfl) (isXU_consC (c.b 56 rfl) (c.b 372 rfl) (isXU_consC (c.b 54 rfl) (c.b 371 rfl) (isXU_consC (c.b 52 rfl) (c.b 370 rfl) (isXU_consC (c.b 50 rfl) (c.b 369 rfl) (isXU_consC (c.b 48 rfl) (c.b 368 rfl) (isXU_consC (c.b 46 rfl) (c.b 367 rfl) (isXU_consC (c.b 44 rfl) (c.b 366 rfl) (isXU_consC (c.b 42 rfl) (c.b 365 rfl) (isXU_consC (c.b 40 rfl) (c.b 364 rfl) (isXU_consC (c.b 38 rfl) (c.b 363 rfl) (isXU_consC (c.b 36 rfl) (c.b 362 rfl) (isXU_consC (c.b 34 rfl) (c.b 361 rfl) (isXU_consC (c.b 32 rfl) (c.b 360 rfl) (isXU_consC (c.b 30 rfl) (c.b 359 rfl) (isXU_consC (c.b 28 rfl) (c.b 358 rfl) (isXU_consC (c.b 26 rfl) (c.b 357 rfl) (isXU_consC (c.b 24 rfl) (c.b 356 rfl) (isXU_consC (c.b 22 rfl) (c.b 355 rfl) (isXU_consC (c.b 20 rfl) (c.b 354 rfl) (isXU_consC (c.b 18 rfl) (c.b 353 rfl) (isXU_consC (c.b 16 rfl) (c.b 352 rfl) (isXU_consC (c.b 14 rfl) (c.b 351 rfl) (isXU_consC (c.b 12 rfl) (c.b 350 rfl) (isXU_consC (c.b 10 rfl) (c.b 349 rfl) (isXU_consC (c.b 8 rfl) (c.b 348 rfl) (isXU_consC (c.b 6 rfl) (c.b 347 rfl) (isXU_consC (c.b 4 rfl) (c.b 346 rfl) (isXU_consC (c.b 2 rfl) (c.b 345 rfl) (isXU_consC (c.b 0 rfl) (c.b 344 rfl) isXU_nil))))))))))))))))))))))))))))))) (vE 0) (by exact pe_own (He.glo_ok kx G (x := "InvalidText") (c.a 18 rfl))) (fun _ h => h) rfl (He.free_ok kx G (x := "isinstance") (c.a 7 rfl)))) (SO.e (so_lst (sl_cons se_str sl_nil))) (SO.e (so_lst sl_nil)))))) (ss_cons (ss_set (i := 1) sc__law_tags.nd rfl (by first | exact Or.inl rfl | exact Or.inr rfl) (s_bin DE.ok op2_add (vB 1) (SE.b (s_if DE.ok (st_val (se_isXv (cv := .ref (He.ga _ "InvalidLength")) (u := .ref (He.ga _ "InvalidLength")) (isXU_consC (c.b 60 rfl) (c.b 405 rfl) (isXU_consC (c.b 58 rfl) (c.b 404 rfl) (isXU_consC (c.b 56 rfl) (c.b 403 rfl) (isXU_consC (c.b 54 rfl) (c.b 402 rfl) (isXU_consC (c.b 52 rfl) (c.b 401 rfl) (isXU_consC (c.b 50 rfl) (c.b 400 rfl) (isXU_consC (c.b 48 rfl) (c.b 399 rfl) (isXU_consC (c.b 46 rfl) (c.b 398 rfl) (isXU_consC (c.b 44 rfl) (c.b 397 rfl) (isXU_consC (c.b 42 rfl) (c.b 396 rfl) (isXU_consC (c.b 40 rfl) (c.b 395 rfl) (isXU_consC (c.b 38 rfl) (c.b 394 rfl) (isXU_consC (c.b 36 rfl) (c.b 393 rfl) (isXU_consC (c.b 34 rfl) (c.b 392 rfl) (isXU_consC (c.b 32 rfl) (c.b 391 rfl) (isXU_consC (c.b 30 rfl) (c.b 390 rfl) (isXU_consC (c.b 28 rfl) (c.b 389 rfl) (isXU_consC (c.b 26 rfl) (c.b 388 rfl) (isXU_consC (c.b 24 rfl) (c.b 387 rfl) (isXU_consC (c.b 22 rfl) (c.b 386 rfl) (isXU_consC (c.b 20 rfl) (c.b 385 rfl) (isXU_consC (c.b 18 rfl) (c.b 384 rfl) (isXU_consC (c.b 16 rfl) (c.b 383 rfl) (isXU_consC (c.b 14 rfl) (c.b 382 rfl) (isXU_consC (c.b 12 rfl) (c.b 381 rfl) (isXU_consC (c.b 10 rfl) (c.b 380 rfl) (isXU_consC (c.b 8 rfl) (c.b 379 rfl) (isXU_consC (c.b 6 rfl) (c.b 378 rfl) (isXU_consC (c.b 4 rfl) (c.b 377 rfl) (isXU_consC (c.b 2 rfl) (c.b 376 rfl) (isXU_consC (c.b 0 rfl) (c.b 375 rfl) isXU_nil))))))))))))))))))))))))))))))) (vE 0) (by exact pe_own (He.glo_ok kx G (x := "InvalidLength") (c.a 19 rfl))) (fun _ h => h) rfl (He.free_ok kx G (x := "isinstance") (c.a 7 rfl)))) (SO.e (so_lst (sl_cons se_str sl_nil))) (SO.e (so_lst sl_nil)))))) (ss_cons (ss_set (i := 1) sc__law_tags.nd rfl (by first | exact Or.inl rfl | exact Or.inr rfl) (s_bin DE.ok op2_add (vB 1) (SE.b (s_if DE.ok (st_val (se_isXv (cv := .ref (He.ga _ "NotABook")) (u := .ref (He.ga _ "NotABook")) (isXU_consC (c.b 60 rfl) (c.b 436 rfl) (isXU_consC (c.b 58 rfl) (c.b 435 rfl) (isXU_consC (c.b 56 rfl) (c.b 434 rfl) (isXU_consC (c.b 54 rfl) (c.b 433 rfl) (isXU_consC (c.b 52 rfl) (c.b 432 rfl) (isXU_consC (c.b 50 rfl) (c.b 431 rfl) (isXU_consC (c.b 48 rfl) (c.b 430 rfl) (isXU_consC (c.b 46 rfl) (c.b 429 rfl) (isXU_consC (c.b 44 rfl) (c.b 428 rfl) (isXU_consC (c.b 42 rfl) (c.b 427 rfl) (isXU_consC (c.b 40 rfl) (c.b 426 rfl) (isXU_consC (c.b 38 rfl) (c.b 425 rfl) (isXU_consC (c.b 36 rfl) (c.b 424 rfl) (isXU_consC (c.b 34 rfl) (c.b 423 rfl) (isXU_consC (c.b 32 rfl) (c.b 422 rfl) (isXU_consC (c.b 30 rfl) (c.b 421 rfl) (isXU_consC (c.b 28 rfl) (c.b 420 rfl) (isXU_consC (c.b 26 rfl) (c.b 419 rfl) (isXU_consC (c.b 24 rfl) (c.b 418 rfl) (isXU_consC (c.b 22 rfl) (c.b 417 rfl) (isXU_consC (c.b 20 rfl) (c.b 416 rfl) (isXU_consC (c.b 18 rfl) (c.b 415 rfl) (isXU_consC (c.b 16 rfl) (c.b 414 rfl) (isXU_consC (c.b 14 rfl) (c.b 413 rfl) (isXU_consC (c.b 12 rfl) (c.b 412 rfl) (isXU_consC (c.b 10 rfl) (c.b 411 rfl) (isXU_consC (c.b 8 rfl) (c.b 410 rfl) (isXU_consC (c.b 6 rfl) (c.b 409 rfl) (isXU_consC (c.b 4 rfl) (c.b 408 rfl) (isXU_consC (c.b 2 rfl) (c.b 407 rfl) (isXU_consC (c.b 0 rfl) (c.b 406 rfl) isXU_nil))))))))))))))))))))))))))))))) (vE 0) (by exact pe_own (He.glo_ok kx G (x := "NotABook") (c.a 20 rfl))) (fun _ h => h) rfl (He.free_ok kx G (x := "isinstance") (c.a 7 rfl)))) (SO.e (so_lst (sl_cons se_str sl_nil))) (SO.e (so_lst sl_nil)))))) (ss_cons (ss_set (i := 1) sc__law_tags.nd rfl (by first | exact Or.inl rfl | exact Or.inr rfl) (s_bin DE.ok op2_add (vB 1) (SE.b (s_if DE.ok (st_val (se_isXv (cv := .ref (He.ga _ "NotBounds")) (u := .ref (He.ga _ "NotBounds")) (isXU_consC (c.b 60 rfl) (c.b 467 rfl) (isXU_consC (c.b 58 rfl) (c.b 466 rfl) (isXU_consC (c.b 56 rfl) (c.b 465 rfl) (isXU_consC (c.b 54 rfl) (c.b 464 rfl) (isXU_consC (c.b 52 rfl) (c.b 463 rfl) (isXU_consC (c.b 50 rfl) (c.b 462 rfl) (isXU_consC (c.b 48 rfl) (c.b 461 rfl) (isXU_consC (c.b 46 rfl) (c.b 460 rfl) (isXU_consC (c.b 44 rfl) (c.b 459 rfl) (isXU_consC (c.b 42 rfl) (c.b 458 rfl) (isXU_consC (c.b 40 rfl) (c.b 457 rfl) (isXU_consC (c.b 38 rfl) (c.b 456 rfl) (isXU_consC (c.b 36 rfl) (c.b 455 rfl) (isXU_consC (c.b 34 rfl) (c.b 454 rfl) (isXU_consC (c.b 32 rfl) (c.b 453 rfl) (isXU_consC (c.b 30 rfl) (c.b 452 rfl) (isXU_consC (c.b 28 rfl) (c.b 451 rfl) (isXU_consC (c.b 26 rfl) (c.b 450 rfl) (isXU_consC (c.b 24 rfl) (c.b 449 rfl) (isXU_consC (c.b 22 rfl) (c.b 448 rfl) (isXU_consC (c.b 20 rfl) (c.b 447 rfl) (isXU_consC (c.b 18 rfl) (c.b 446 rfl) (isXU_consC (c.b 16 rfl) (c.b 445 rfl) (isXU_consC (c.b 14 rfl) (c.b 444 rfl) (isXU_consC (c.b 12 rfl) (c.b 443 rfl) (isXU_consC (c.b 10 rfl) (c.b 442 rfl) (isXU_consC (c.b 8 rfl) (c.b 441 rfl) (isXU_consC (c.b 6 rfl) (c.b 440 rfl) (isXU_consC (c.b 4 rfl) (c.b 439 rfl) (isXU_consC (c.b 2 rfl) (c.b 438 rfl) (isXU_consC (c.b 0 rfl) (c.b 437 rfl) isXU_nil))))))))))))))))))))))))))))))) (vE 0) (by exact pe_own (He.glo_ok kx G (x := "NotBounds") (c.a 21 rfl))) (fun _ h => h) rfl (He.free_ok kx G (x := "isinstance") (c.a 7 rfl)))) (SO.e (so_lst (sl_cons se_str sl_nil))) (SO.e (so_lst sl_nil)))))) (ss_cons (ss_set (i := 1) sc__law_tags.nd rfl (by first | exact Or.inl rfl | exact Or.inr rfl) (s_bin DE.ok op2_add (vB 1) (SE.b (s_if DE.ok (st_val (se_isXv (cv := .ref (He.ga _ "NotATariff")) (u := .ref (He.ga _ "NotATariff")) (isXU_consC (c.b 60 rfl) (c.b 498 rfl) (isXU_consC (c.b 58 rfl) (c.b 497 rfl) (isXU_consC (c.b 56 rfl) (c.b 496 rfl) (isXU_consC (c.b 54 rfl) (c.b 495 rfl) (isXU_consC (c.b 52 rfl) (c.b 494 rfl) (isXU_consC (c.b 50 rfl) (c.b 493 rfl) (isXU_consC (c.b 48 rfl) (c.b 492 rfl) (isXU_consC (c.b 46 rfl) (c.b 491 rfl) (isXU_consC (c.b 44 rfl) (c.b 490 rfl) (isXU_consC (c.b 42 rfl) (c.b 489 rfl) (isXU_consC (c.b 40 rfl) (c.b 488 rfl) (isXU_consC (c.b 38 rfl) (c.b 487 rfl) (isXU_consC (c.b 36 rfl) (c.b 486 rfl) (isXU_consC (c.b 34 rfl) (c.b 485 rfl) (isXU_consC (c.b 32 rfl) (c.b 484 rfl) (isXU_consC (c.b 30 rfl) (c.b 483 rfl) (isXU_consC (c.b 28 rfl) (c.b 482 rfl) (isXU_consC (c.b 26 rfl) (c.b 481 rfl) (isXU_consC (c.b 24 rfl) (c.b 480 rfl) (isXU_consC (c.b 22 rfl) (c.b 479 rfl) (isXU_consC (c.b 20 rfl) (c.b 478 rfl) (isXU_consC (c.b 18 rfl) (c.b 477 rfl) (isXU_consC (c.b 16 rfl) (c.b 476 rfl) (isXU_consC (c.b 14 rfl) (c.b 475 rfl) (isXU_consC (c.b 12 rfl) (c.b 474 rfl) (isXU_consC (c.b 10 rfl) (c.b 473 rfl) (isXU_consC (c.b 8 rfl) (c.b 472 rfl) (isXU_consC (c.b 6 rfl) (c.b 471 rfl) (isXU_consC (c.b 4 rfl) (c.b 470 rfl) (isXU_consC (c.b 2 rfl) (c.b 469 rfl) (isXU_consC (c.b 0 rfl) (c.b 468 rfl) isXU_nil))))))))))))))))))))))))))))))) (vE 0) (by exact pe_own (He.glo_ok kx G (x := "NotATariff") (c.a 22 rfl))) (fun _ h => h) rfl (He.free_ok kx G (x := "isinstance") (c.a 7 rfl)))) (SO.e (so_lst (sl_cons se_str sl_nil))) (SO.e (so_lst sl_nil)))))) (ss_cons (ss_set (i := 1) sc__law_tags.nd rfl (by first | exact Or.inl rfl | exact Or.inr rfl) (s_bin DE.ok op2_add (vB 1) (SE.b (s_if DE.ok (st_val (se_isXv (cv := .ref (He.ga _ "InvalidPrices")) (u := .ref (He.ga _ "InvalidPrices")) (isXU_consC (c.b 60 rfl) (c.b 529 rfl) (isXU_consC (c.b 58 rfl) (c.b 528 rfl) (isXU_consC (c.b 56 rfl) (c.b 527 rfl) (isXU_consC (c.b 54 rfl) (c.b 526 rfl) (isXU_consC (c.b 52 rfl) (c.b 525 rfl) (isXU_consC (c.b 50 rfl) (c.b 524 rfl) (isXU_consC (c.b 48 rfl) (c.b 523 rfl) (isXU_consC (c.b 46 rfl) (c.b 522 rfl) (isXU_consC (c.b 44 rfl) (c.b 521 rfl) (isXU_consC (c.b 42 rfl) (c.b 520 rfl) (isXU_consC (c.b 40 rfl) (c.b 519 rfl) (isXU_consC (c.b 38 rfl) (c.b 518 rfl) (isXU_consC (c.b 36 rfl) (c.b 517 rfl) (isXU_consC (c.b 34 rfl) (c.b 516 rfl) (isXU_consC (c.b 32 rfl) (c.b 515 rfl) (isXU_consC (c.b 30 rfl) (c.b 514 rfl) (isXU_consC (c.b 28 rfl) (c.b 513 rfl) (isXU_consC (c.b 26 rfl) (c.b 512 rfl) (isXU_consC (c.b 24 rfl) (c.b 511 rfl) (isXU_consC (c.b 22 rfl) (c.b 510 rfl) (isXU_consC (c.b 20 rfl) (c.b 509 rfl) (isXU_consC (c.b 18 rfl) (c.b 508 rfl) (isXU_consC (c.b 16 rfl) (c.b 507 rfl) (isXU_consC (c.b 14 rfl) (c.b 506 rfl) (isXU_consC (c.b 12 rfl) (c.b 505 rfl) (isXU_consC (c.b 10 rfl) (c.b 504 rfl) (isXU_consC (c.b 8 rfl) (c.b 503 rfl) (isXU_consC (c.b 6 rfl) (c.b 502 rfl) (isXU_consC (c.b 4 rfl) (c.b 501 rfl) (isXU_consC (c.b 2 rfl) (c.b 500 rfl) (isXU_consC (c.b 0 rfl) (c.b 499 rfl) isXU_nil))))))))))))))))))))))))))))))) (vE 0) (by exact pe_own (He.glo_ok kx G (x := "InvalidPrices") (c.a 23 rfl))) (fun _ h => h) rfl (He.free_ok kx G (x := "isinstance") (c.a 7 rfl)))) (SO.e (so_lst (sl_cons se_str sl_nil))) (SO.e (so_lst sl_nil)))))) (ss_cons (ss_set (i := 1) sc__law_tags.nd rfl (by first | exact Or.inl rfl | exact Or.inr rfl) (s_bin DE.ok op2_add (vB 1) (SE.b (s_if DE.ok (st_val (se_isXv (cv := .ref (He.ga _ "InvalidRanges")) (u := .ref (He.ga _ "InvalidRanges")) (isXU_consC (c.b 60 rfl) (c.b 560 rfl) (isXU_consC (c.b 58 rfl) (c.b 559 rfl) (isXU_consC (c.b 56 rfl) (c.b 558 rfl) (isXU_consC (c.b 54 rfl) (c.b 557 rfl) (isXU_consC (c.b 52 rfl) (c.b 556 rfl) (isXU_consC (c.b 50 rfl) (c.b 555 rfl) (isXU_consC (c.b 48 rfl) (c.b 554 rfl) (isXU_consC (c.b 46 rfl) (c.b 553 rfl) (isXU_consC (c.b 44 rfl) (c.b 552 rfl) (isXU_consC (c.b 42 rfl) (c.b 551 rfl) (isXU_consC (c.b 40 rfl) (c.b 550 rfl) (isXU_consC (c.b 38 rfl) (c.b 549 rfl) (isXU_consC (c.b 36 rfl) (c.b 548 rfl) (isXU_consC (c.b 34 rfl) (c.b 547 rfl) (isXU_consC (c.b 32 rfl) (c.b 546 rfl) (isXU_consC (c.b 30 rfl) (c.b 545 rfl) (isXU_consC (c.b 28 rfl) (c.b 544 rfl) (isXU_consC (c.b 26 rfl) (c.b 543 rfl) (isXU_consC (c.b 24 rfl) (c.b 542 rfl) (isXU_consC (c.b 22 rfl) (c.b 541 rfl) (isXU_consC (c.b 20 rfl) (c.b 540 rfl) (isXU_consC (c.b 18 rfl) (c.b 539 rfl) (isXU_consC (c.b 16 rfl) (c.b 538 rfl) (isXU_consC (c.b 14 rfl) (c.b 537 rfl) (isXU_consC (c.b 12 rfl) (c.b 536 rfl) (isXU_consC (c.b 10 rfl) (c.b 535 rfl) (isXU_consC (c.b 8 rfl) (c.b 534 rfl) (isXU_consC (c.b 6 rfl) (c.b 533 rfl) (isXU_consC (c.b 4 rfl) (c.b 532 rfl) (isXU_consC (c.b 2 rfl) (c.b 531 rfl) (isXU_consC (c.b 0 rfl) (c.b 530 rfl) isXU_nil))))))))))))))))))))))))))))))) (vE 0) (by exact pe_own (He.glo_ok kx G (x := "InvalidRanges") (c.a 24 rfl))) (fun _ h => h) rfl (He.free_ok kx G (x := "isinstance") (c.a 7 rfl)))) (SO.e (so_lst (sl_cons se_str sl_nil))) (SO.e (so_lst sl_nil)))))) (ss_cons (ss_set (i := 1) sc__law_tags.nd rfl (by first | exact Or.inl rfl | exact Or.inr rfl) (s_bin DE.ok op2_add (vB 1) (SE.b (s_if DE.ok (st_val (se_isXv (cv := .ref (He.ga _ "InvalidTickets")) (u := .ref (He.ga _ "InvalidTickets")) (isXU_consC (c.b 60 rfl) (c.b 591 rfl) (isXU_consC (c.b 58 rfl) (c.b 590 rfl) (isXU_consC (c.b 56 rfl) (c.b 589 rfl) (isXU_consC (c.b 54 rfl) (c.b 588 rfl) (isXU_consC (c.b 52 rfl) (c.b 587 rfl) (isXU_consC (c.b 50 rfl) (c.b 586 rfl) (isXU_consC (c.b 48 rfl) (c.b 585 rfl) (isXU_consC (c.b 46 rfl) (c.b 584 rfl) (isXU_consC (c.b 44 rfl) (c.b 583 rfl) (isXU_consC (c.b 42 rfl) (c.b 582 rfl) (isXU_consC (c.b 40 rfl) (c.b 581 rfl) (isXU_consC (c.b 38 rfl) (c.b 580 rfl) (isXU_consC (c.b 36 rfl) (c.b 579 rfl) (isXU_consC (c.b 34 rfl) (c.b 578 rfl) (isXU_consC (c.b 32 rfl) (c.b 577 rfl) (isXU_consC (c.b 30 rfl) (c.b 576 rfl) (isXU_consC (c.b 28 rfl) (c.b 575 rfl) (isXU_consC (c.b 26 rfl) (c.b 574 rfl) (isXU_consC (c.b 24 rfl) (c.b 573 rfl) (isXU_consC (c.b 22 rfl) (c.b 572 rfl) (isXU_consC (c.b 20 rfl) (c.b 571 rfl) (isXU_consC (c.b 18 rfl) (c.b 570 rfl) (isXU_consC (c.b 16 rfl) (c.b 569 rfl) (isXU_consC (c.b 14 rfl) (c.b 568 rfl) (isXU_consC (c.b 12 rfl) (c.b 567 rfl) (isXU_consC (c.b 10 rfl) (c.b 566 rfl) (isXU_consC (c.b 8 rfl) (c.b 565 rfl) (isXU_consC (c.b 6 rfl) (c.b 564 rfl) (isXU_consC (c.b 4 rfl) (c.b 563 rfl) (isXU_consC (c.b 2 rfl) (c.b 562 rfl) (isXU_consC (c.b 0 rfl) (c.b 561 rfl) isXU_nil))))))))))))))))))))))))))))))) (vE 0) (by exact pe_own (He.glo_ok kx G (x := "InvalidTickets") (c.a 25 rfl))) (fun _ h => h) rfl (He.free_ok kx G (x := "isinstance") (c.a 7 rfl)))) (SO.e (so_lst (sl_cons se_str sl_nil))) (SO.e (so_lst sl_nil)))))) (ss_cons (ss_set (i := 1) sc__law_tags.nd rfl (by first | exact Or.inl rfl | exact Or.inr rfl) (s_bin DE.ok op2_add (vB 1) (SE.b (s_if DE.ok (st_val (se_isXv (cv := .ref (He.ga _ "InvalidTariff")) (u := .ref (He.ga _ "InvalidTariff")) (isXU_consC (c.b 60 rfl) (c.b 622 rfl) (isXU_consC (c.b 58 rfl) (c.b 621 rfl) (isXU_consC (c.b 56 rfl) (c.b 620 rfl) (isXU_consC (c.b 54 rfl) (c.b 619 rfl) (isXU_consC (c.b 52 rfl) (c.b 618 rfl) (isXU_consC (c.b 50 rfl) (c.b 617 rfl) (isXU_consC (c.b 48 rfl) (c.b 616 rfl) (isXU_consC (c.b 46 rfl) (c.b 615 rfl) (isXU_consC (c.b 44 rfl) (c.b 614 rfl) (isXU_consC (c.b 42 rfl) (c.b 613 rfl) (isXU_consC (c.b 40 rfl) (c.b 612 rfl) (isXU_consC (c.b 38 rfl) (c.b 611 rfl) (isXU_consC (c.b 36 rfl) (c.b 610 rfl) (isXU_consC (c.b 34 rfl) (c.b 609 rfl) (isXU_consC (c.b 32 rfl) (c.b 608 rfl) (isXU_consC (c.b 30 rfl) (c.b 607 rfl) (isXU_consC (c.b 28 rfl) (c.b 606 rfl) (isXU_consC (c.b 26 rfl) (c.b 605 rfl) (isXU_consC (c.b 24 rfl) (c.b 604 rfl) (isXU_consC (c.b 22 rfl) (c.b 603 rfl) (isXU_consC (c.b 20 rfl) (c.b 602 rfl) (isXU_consC (c.b 18 rfl) (c.b 601 rfl) (isXU_consC (c.b 16 rfl) (c.b 600 rfl) (isXU_consC (c.b 14 rfl) (c.b 599 rfl) (isXU_consC (c.b 12 rfl) (c.b 598 rfl) (isXU_consC (c.b 10 rfl) (c.b 597 rfl) (isXU_consC (c.b 8 rfl) (c.b 596 rfl) (isXU_consC (c.b 6 rfl) (c.b 595 rfl) (isXU_consC (c.b 4 rfl) (c.b 594 rfl) (isXU_consC (c.b 2 rfl) (c.b 593 rfl) (isXU_consC (c.b 0 rfl) (c.b 592 rfl) isXU_nil))))))))))))))))))))))))))))))) (vE 0) (by exact pe_own (He.glo_ok kx G (x := "InvalidTariff") (c.a 26 rfl))) (fun _ h => h) rfl (He.free_ok kx G (x := "isinstance") (c.a 7 rfl)))) (SO.e (so_lst (sl_cons se_str sl_nil))) (SO.e (so_lst sl_nil)))))) (ss_cons (ss_set (i := 1) sc__law_tags.nd rfl (by first | exact Or.inl rfl | exact Or.inr rfl) (s_bin DE.ok op2_add (vB 1) (SE.b (s_if DE.ok (st_val (se_isXv (cv := .ref (He.ga _ "WrongRow")) (u := .ref (He.ga _ "WrongRow")) (isXU_consC (c.b 60 rfl) (c.b 653 rfl) (isXU_consC (c.b 58 rfl) (c.b 652 rfl) (isXU_consC (c.b 56 rfl) (c.b 651 rfl) (isXU_consC (c.b 54 rfl) (c.b 650 rfl) (isXU_consC (c.b 52 rfl) (c.b 649 rfl) (isXU_consC (c.b 50 rfl) (c.b 648 rfl) (isXU_consC (c.b 48 rfl) (c.b 647 rfl) (isXU_consC (c.b 46 rfl) (c.b 646 rfl) (isXU_consC (c.b 44 rfl) (c.b 645 rfl) (isXU_consC (c.b 42 rfl) (c.b 644 rfl) (isXU_consC (c.b 40 rfl) (c.b 643 rfl) (isXU_consC (c.b 38 rfl) (c.b 642 rfl) (isXU_consC (c.b 36 rfl) (c.b 641 rfl) (isXU_consC (c.b 34 rfl) (c.b 640 rfl) (isXU_consC (c.b 32 rfl) (c.b 639 rfl) (isXU_consC (c.b 30 rfl) (c.b 638 rfl) (isXU_consC (c.b 28 rfl) (c.b 637 rfl) (isXU_consC (c.b 26 rfl) (c.b 636 rfl) (isXU_consC (c.b 24 rfl) (c.b 635 rfl) (isXU_consC (c.b 22 rfl) (c.b 634 rfl) (isXU_consC (c.b 20 rfl) (c.b 633 rfl) (isXU_consC (c.b 18 rfl) (c.b 632 rfl) (isXU_consC (c.b 16 rfl) (c.b 631 rfl) (isXU_consC (c.b 14 rfl) (c.b 630 rfl) (isXU_consC (c.b 12 rfl) (c.b 629 rfl) (isXU_consC (c.b 10 rfl) (c.b 628 rfl) (isXU_consC (c.b 8 rfl) (c.b 627 rfl) (isXU_consC (c.b 6 rfl) (c.b 626 rfl) (isXU_consC (c.b 4 rfl) (c.b 625 rfl) (isXU_consC (c.b 2 rfl) (c.b 624 rfl) (isXU_consC (c.b 0 rfl) (c.b 623 rfl) isXU_nil))))))))))))))))))))))))))))))) (vE 0) (by exact pe_own (He.glo_ok kx G (x := "WrongRow") (c.a 27 rfl))) (fun _ h => h) rfl (He.free_ok kx G (x := "isinstance") (c.a 7 rfl)))) (SO.e (so_lst (sl_cons se_str sl_nil))) (SO.e (so_lst sl_nil)))))) (ss_cons (ss_set (i := 1) sc__law_tags.nd rfl (by first | exact Or.inl rfl | exact Or.inr rfl) (s_bin DE.ok op2_add (vB 1) (SE.b (s_if DE.ok (st_val (se_isXv (cv := .ref (He.ga _ "BreaksRules")) (u := .ref (He.ga _ "BreaksRules")) (isXU_consC (c.b 60 rfl) (c.b 684 rfl) (isXU_consC (c.b 58 rfl) (c.b 683 rfl) (isXU_consC (c.b 56 rfl) (c.b 682 rfl) (isXU_consC (c.b 54 rfl) (c.b 681 rfl) (isXU_consC (c.b 52 rfl) (c.b 680 rfl) (isXU_consC (c.b 50 rfl) (c.b 679 rfl) (isXU_consC (c.b 48 rfl) (c.b 678 rfl) (isXU_consC (c.b 46 rfl) (c.b 677 rfl) (isXU_consC (c.b 44 rfl) (c.b 676 rfl) (isXU_consC (c.b 42 rfl) (c.b 675 rfl) (isXU_consC (c.b 40 rfl) (c.b 674 rfl) (isXU_consC (c.b 38 rfl) (c.b 673 rfl) (isXU_consC (c.b 36 rfl) (c.b 672 rfl) (isXU_consC (c.b 34 rfl) (c.b 671 rfl) (isXU_consC (c.b 32 rfl) (c.b 670 rfl) (isXU_consC (c.b 30 rfl) (c.b 669 rfl) (isXU_consC (c.b 28 rfl) (c.b 668 rfl) (isXU_consC (c.b 26 rfl) (c.b 667 rfl) (isXU_consC (c.b 24 rfl) (c.b 666 rfl) (isXU_consC (c.b 22 rfl) (c.b 665 rfl) (isXU_consC (c.b 20 rfl) (c.b 664 rfl) (isXU_consC (c.b 18 rfl) (c.b 663 rfl) (isXU_consC (c.b 16 rfl) (c.b 662 rfl) (isXU_consC (c.b 14 rfl) (c.b 661 rfl) (isXU_consC (c.b 12 rfl) (c.b 660 rfl) (isXU_consC (c.b 10 rfl) (c.b 659 rfl) (isXU_consC (c.b 8 rfl) (c.b 658 rfl) (isXU_consC (c.b 6 rfl) (c.b 657 rfl) (isXU_consC (c.b 4 rfl) (c.b 656 rfl) (isXU_consC (c.b 2 rfl) (c.b 655 rfl) (isXU_consC (c.b 0 rfl) (c.b 654 rfl) isXU_nil))))))))))))))))))))))))))))))) (vE 0) (by exact pe_own (He.glo_ok kx G (x := "BreaksRules") (c.a 28 rfl))) (fun _ h => h) rfl (He.free_ok kx G (x := "isinstance") (c.a 7 rfl)))) (SO.e (so_lst (sl_cons se_str sl_nil))) (SO.e (so_lst sl_nil)))))) (ss_cons (ss_set (i := 1) sc__law_tags.nd rfl (by first | exact Or.inl rfl | exact Or.inr rfl) (s_bin DE.ok op2_add (vB 1) (SE.b (s_if DE.ok (st_val (se_isXv (cv := .ref (He.ga _ "NoBook")) (u := .ref (He.ga _ "NoBook")) (isXU_consC (c.b 60 rfl) (c.b 715 rfl) (isXU_consC (c.b 58 rfl) (c.b 714 rfl) (isXU_consC (c.b 56 rfl) (c.b 713 rfl) (isXU_consC (c.b 54 rfl) (c.b 712 rfl) (isXU_consC (c.b 52 rfl) (c.b 711 rfl) (isXU_consC (c.b 50 rfl) (c.b 710 rfl) (isXU_consC (c.b 48 rfl) (c.b 709 rfl) (isXU_consC (c.b 46 rfl) (c.b 708 rfl) (isXU_consC (c.b 44 rfl) (c.b 707 rfl) (isXU_consC (c.b 42 rfl) (c.b 706 rfl) (isXU_consC (c.b 40 rfl) (c.b 705 rfl) (isXU_consC (c.b 38 rfl) (c.b 704 rfl) (isXU_consC (c.b 36 rfl) (c.b 703 rfl) (isXU_consC (c.b 34 rfl) (c.b 702 rfl) (isXU_consC (c.b 32 rfl) (c.b 701 rfl) (isXU_consC (c.b 30 rfl) (c.b 700 rfl) (isXU_consC (c.b 28 rfl) (c.b 699 rfl) (isXU_consC (c.b 26 rfl) (c.b 698 rfl) (isXU_consC (c.b 24 rfl) (c.b 697 rfl) (isXU_consC (c.b 22 rfl) (c.b 696 rfl) (isXU_consC (c.b 20 rfl) (c.b 695 rfl) (isXU_consC (c.b 18 rfl) (c.b 694 rfl) (isXU_consC (c.b 16 rfl) (c.b 693 rfl) (isXU_consC (c.b 14 rfl) (c.b 692 rfl) (isXU_consC (c.b 12 rfl) (c.b 691 rfl) (isXU_consC (c.b 10 rfl) (c.b 690 rfl) (isXU_consC (c.b 8 rfl) (c.b 689 rfl) (isXU_consC (c.b 6 rfl) (c.b 688 rfl) (isXU_consC (c.b 4 rfl) (c.b 687 rfl) (isXU_consC (c.b 2 rfl) (c.b 686 rfl) (isXU_consC (c.b 0 rfl) (c.b 685 rfl) isXU_nil))))))))))))))))))))))))))))))) (vE 0) (by exact pe_own (He.glo_ok kx G (x := "NoBook") (c.a 29 rfl))) (fun _ h => h) rfl (He.free_ok kx G (x := "isinstance") (c.a 7 rfl)))) (SO.e (so_lst (sl_cons se_str sl_nil))) (SO.e (so_lst sl_nil)))))) (ss_cons (ss_set (i := 1) sc__law_tags.nd rfl (by first | exact Or.inl rfl | exact Or.inr rfl) (s_bin DE.ok op2_add (vB 1) (SE.b (s_if DE.ok (st_val (se_isXv (cv := .ref (He.ga _ "DoNotFit")) (u := .ref (He.ga _ "DoNotFit")) (isXU_consC (c.b 60 rfl) (c.b 746 rfl) (isXU_consC (c.b 58 rfl) (c.b 745 rfl) (isXU_consC (c.b 56 rfl) (c.b 744 rfl) (isXU_consC (c.b 54 rfl) (c.b 743 rfl) (isXU_consC (c.b 52 rfl) (c.b 742 rfl) (isXU_consC (c.b 50 rfl) (c.b 741 rfl) (isXU_consC (c.b 48 rfl) (c.b 740 rfl) (isXU_consC (c.b 46 rfl) (c.b 739 rfl) (isXU_consC (c.b 44 rfl) (c.b 738 rfl) (isXU_consC (c.b 42 rfl) (c.b 737 rfl) (isXU_consC (c.b 40 rfl) (c.b 736 rfl) (isXU_consC (c.b 38 rfl) (c.b 735 rfl) (isXU_consC (c.b 36 rfl) (c.b 734 rfl) (isXU_consC (c.b 34 rfl) (c.b 733 rfl) (isXU_consC (c.b 32 rfl) (c.b 732 rfl) (isXU_consC (c.b 30 rfl) (c.b 731 rfl) (isXU_consC (c.b 28 rfl) (c.b 730 rfl) (isXU_consC (c.b 26 rfl) (c.b 729 rfl) (isXU_consC (c.b 24 rfl) (c.b 728 rfl) (isXU_consC (c.b 22 rfl) (c.b 727 rfl) (isXU_consC (c.b 20 rfl) (c.b 726 rfl) (isXU_consC (c.b 18 rfl) (c.b 725 rfl) (isXU_consC (c.b 16 rfl) (c.b 724 rfl) (isXU_consC (c.b 14 rfl) (c.b 723 rfl) (isXU_consC (c.b 12 rfl) (c.b 722 rfl) (isXU_consC (c.b 10 rfl) (c.b 721 rfl) (isXU_consC (c.b 8 rfl) (c.b 720 rfl) (isXU_consC (c.b 6 rfl) (c.b 719 rfl) (isXU_consC (c.b 4 rfl) (c.b 718 rfl) (isXU_consC (c.b 2 rfl) (c.b 717 rfl) (isXU_consC (c.b 0 rfl) (c.b 716 rfl) isXU_nil))))))))))))))))))))))))))))))) (vE 0) (by exact pe_own (He.glo_ok kx G (x := "DoNotFit") (c.a 30 rfl))) (fun _ h => h) rfl (He.free_ok kx G (x := "isinstance") (c.a 7 rfl)))) (SO.e (so_lst (sl_cons se_str sl_nil))) (SO.e (so_lst sl_nil)))))) (ss_cons (ss_set (i := 1) sc__law_tags.nd rfl (by first | exact Or.inl rfl | exact Or.inr rfl) (s_bin DE.ok op2_add (vB 1) (SE.b (s_if DE.ok (st_val (se_isXv (cv := .ref (He.ga _ "NothingToUndo")) (u := .ref (He.ga _ "NothingToUndo")) (isXU_consC (c.b 60 rfl) (c.b 777 rfl) (isXU_consC (c.b 58 rfl) (c.b 776 rfl) (isXU_consC (c.b 56 rfl) (c.b 775 rfl) (isXU_consC (c.b 54 rfl) (c.b 774 rfl) (isXU_consC (c.b 52 rfl) (c.b 773 rfl) (isXU_consC (c.b 50 rfl) (c.b 772 rfl) (isXU_consC (c.b 48 rfl) (c.b 771 rfl) (isXU_consC (c.b 46 rfl) (c.b 770 rfl) (isXU_consC (c.b 44 rfl) (c.b 769 rfl) (isXU_consC (c.b 42 rfl) (c.b 768 rfl) (isXU_consC (c.b 40 rfl) (c.b 767 rfl) (isXU_consC (c.b 38 rfl) (c.b 766 rfl) (isXU_consC (c.b 36 rfl) (c.b 765 rfl) (isXU_consC (c.b 34 rfl) (c.b 764 rfl) (isXU_consC (c.b 32 rfl) (c.b 763 rfl) (isXU_consC (c.b 30 rfl) (c.b 762 rfl) (isXU_consC (c.b 28 rfl) (c.b 761 rfl) (isXU_consC (c.b 26 rfl) (c.b 760 rfl) (isXU_consC (c.b 24 rfl) (c.b 759 rfl) (isXU_consC (c.b 22 rfl) (c.b 758 rfl) (isXU_consC (c.b 20 rfl) (c.b 757 rfl) (isXU_consC (c.b 18 rfl) (c.b 756 rfl) (isXU_consC (c.b 16 rfl) (c.b 755 rfl) (isXU_consC (c.b 14 rfl) (c.b 754 rfl) (isXU_consC (c.b 12 rfl) (c.b 753 rfl) (isXU_consC (c.b 10 rfl) (c.b 752 rfl) (isXU_consC (c.b 8 rfl) (c.b 751 rfl) (isXU_consC (c.b 6 rfl) (c.b 750 rfl) (isXU_consC (c.b 4 rfl) (c.b 749 rfl) (isXU_consC (c.b 2 rfl) (c.b 748 rfl) (isXU_consC (c.b 0 rfl) (c.b 747 rfl) isXU_nil))))))))))))))))))))))))))))))) (vE 0) (by exact pe_own (He.glo_ok kx G (x := "NothingToUndo") (c.a 31 rfl))) (fun _ h => h) rfl (He.free_ok kx G (x := "isinstance") (c.a 7 rfl)))) (SO.e (so_lst (sl_cons se_str sl_nil))) (SO.e (so_lst sl_nil)))))) (ss_cons (ss_set (i := 1) sc__law_tags.nd rfl (by first | exact Or.inl rfl | exact Or.inr rfl) (s_bin DE.ok op2_add (vB 1) (SE.b (s_if DE.ok (st_val (se_isXv (cv := .ref (He.ga _ "TooMany")) (u := .ref (He.ga _ "TooMany")) (isXU_consC (c.b 60 rfl) (c.b 808 rfl) (isXU_consC (c.b 58 rfl) (c.b 807 rfl) (isXU_consC (c.b 56 rfl) (c.b 806 rfl) (isXU_consC (c.b 54 rfl) (c.b 805 rfl) (isXU_consC (c.b 52 rfl) (c.b 804 rfl) (isXU_consC (c.b 50 rfl) (c.b 803 rfl) (isXU_consC (c.b 48 rfl) (c.b 802 rfl) (isXU_consC (c.b 46 rfl) (c.b 801 rfl) (isXU_consC (c.b 44 rfl) (c.b 800 rfl) (isXU_consC (c.b 42 rfl) (c.b 799 rfl) (isXU_consC (c.b 40 rfl) (c.b 798 rfl) (isXU_consC (c.b 38 rfl) (c.b 797 rfl) (isXU_consC (c.b 36 rfl) (c.b 796 rfl) (isXU_consC (c.b 34 rfl) (c.b 795 rfl) (isXU_consC (c.b 32 rfl) (c.b 794 rfl) (isXU_consC (c.b 30 rfl) (c.b 793 rfl) (isXU_consC (c.b 28 rfl) (c.b 792 rfl) (isXU_consC (c.b 26 rfl) (c.b 791 rfl) (isXU_consC (c.b 24 rfl) (c.b 790 rfl) (isXU_consC (c.b 22 rfl) (c.b 789 rfl) (isXU_consC (c.b 20 rfl) (c.b 788 rfl) (isXU_consC (c.b 18 rfl) (c.b 787 rfl) (isXU_consC (c.b 16 rfl) (c.b 786 rfl) (isXU_consC (c.b 14 rfl) (c.b 785 rfl) (isXU_consC (c.b 12 rfl) (c.b 784 rfl) (isXU_consC (c.b 10 rfl) (c.b 783 rfl) (isXU_consC (c.b 8 rfl) (c.b 782 rfl) (isXU_consC (c.b 6 rfl) (c.b 781 rfl) (isXU_consC (c.b 4 rfl) (c.b 780 rfl) (isXU_consC (c.b 2 rfl) (c.b 779 rfl) (isXU_consC (c.b 0 rfl) (c.b 778 rfl) isXU_nil))))))))))))))))))))))))))))))) (vE 0) (by exact pe_own (He.glo_ok kx G (x := "TooMany") (c.a 32 rfl))) (fun _ h => h) rfl (He.free_ok kx G (x := "isinstance") (c.a 7 rfl)))) (SO.e (so_lst (sl_cons se_str sl_nil))) (SO.e (so_lst sl_nil)))))) (ss_cons (ss_set (i := 1) sc__law_tags.nd rfl (by first | exact Or.inl rfl | exact Or.inr rfl) (s_bin DE.ok op2_add (vB 1) (SE.b (s_if DE.ok (st_val (se_isXv (cv := .ref (He.ga _ "InvalidCoin")) (u := .ref (He.ga _ "InvalidCoin")) (isXU_consC (c.b 60 rfl) (c.b 839 rfl) (isXU_consC (c.b 58 rfl) (c.b 838 rfl) (isXU_consC (c.b 56 rfl) (c.b 837 rfl) (isXU_consC (c.b 54 rfl) (c.b 836 rfl) (isXU_consC (c.b 52 rfl) (c.b 835 rfl) (isXU_consC (c.b 50 rfl) (c.b 834 rfl) (isXU_consC (c.b 48 rfl) (c.b 833 rfl) (isXU_consC (c.b 46 rfl) (c.b 832 rfl) (isXU_consC (c.b 44 rfl) (c.b 831 rfl) (isXU_consC (c.b 42 rfl) (c.b 830 rfl) (isXU_consC (c.b 40 rfl) (c.b 829 rfl) (isXU_consC (c.b 38 rfl) (c.b 828 rfl) (isXU_consC (c.b 36 rfl) (c.b 827 rfl) (isXU_consC (c.b 34 rfl) (c.b 826 rfl) (isXU_consC (c.b 32 rfl) (c.b 825 rfl) (isXU_consC (c.b 30 rfl) (c.b 824 rfl) (isXU_consC (c.b 28 rfl) (c.b 823 rfl) (isXU_consC (c.b 26 rfl) (c.b 822 rfl) (isXU_consC (c.b 24 rfl) (c.b 821 rfl) (isXU_consC (c.b 22 rfl) (c.b 820 rfl) (isXU_consC (c.b 20 rfl) (c.b 819 rfl) (isXU_consC (c.b 18 rfl) (c.b 818 rfl) (isXU_consC (c.b 16 rfl) (c.b 817 rfl) (isXU_consC (c.b 14 rfl) (c.b 816 rfl) (isXU_consC (c.b 12 rfl) (c.b 815 rfl) (isXU_consC (c.b 10 rfl) (c.b 814 rfl) (isXU_consC (c.b 8 rfl) (c.b 813 rfl) (isXU_consC (c.b 6 rfl) (c.b 812 rfl) (isXU_consC (c.b 4 rfl) (c.b 811 rfl) (isXU_consC (c.b 2 rfl) (c.b 810 rfl) (isXU_consC (c.b 0 rfl) (c.b 809 rfl) isXU_nil))))))))))))))))))))))))))))))) (vE 0) (by exact pe_own (He.glo_ok kx G (x := "InvalidCoin") (c.a 33 rfl))) (fun _ h => h) rfl (He.free_ok kx G (x := "isinstance") (c.a 7 rfl)))) (SO.e (so_lst (sl_cons se_str sl_nil))) (SO.e (so_lst sl_nil)))))) (ss_cons (ss_set (i := 1) sc__law_tags.nd rfl (by first | exact Or.inl rfl | exact Or.inr rfl) (s_bin DE.ok op2_add (vB 1) (SE.b (s_if DE.ok (st_val (se_isXv (cv := .ref (He.ga _ "InvalidName")) (u := .ref (He.ga _ "InvalidName")) (isXU_consC (c.b 60 rfl) (c.b 870 rfl) (isXU_consC (c.b 58 rfl) (c.b 869 rfl) (isXU_consC (c.b 56 rfl) (c.b 868 rfl) (isXU_consC (c.b 54 rfl) (c.b 867 rfl) (isXU_consC (c.b 52 rfl) (c.b 866 rfl) (isXU_consC (c.b 50 rfl) (c.b 865 rfl) (isXU_consC (c.b 48 rfl) (c.b 864 rfl) (isXU_consC (c.b 46 rfl) (c.b 863 rfl) (isXU_consC (c.b 44 rfl) (c.b 862 rfl) (isXU_consC (c.b 42 rfl) (c.b 861 rfl) (isXU_consC (c.b 40 rfl) (c.b 860 rfl) (isXU_consC (c.b 38 rfl) (c.b 859 rfl) (isXU_consC (c.b 36 rfl) (c.b 858 rfl) (isXU_consC (c.b 34 rfl) (c.b 857 rfl) (isXU_consC (c.b 32 rfl) (c.b 856 rfl) (isXU_consC (c.b 30 rfl) (c.b 855 rfl) (isXU_consC (c.b 28 rfl) (c.b 854 rfl) (isXU_consC (c.b 26 rfl) (c.b 853 rfl) (isXU_consC (c.b 24 rfl) (c.b 852 rfl) (isXU_consC (c.b 22 rfl) (c.b 851 rfl) (isXU_consC (c.b 20 rfl) (c.b 850 rfl) (isXU_consC (c.b 18 rfl) (c.b 849 rfl) (isXU_consC (c.b 16 rfl) (c.b 848 rfl) (isXU_consC (c.b 14 rfl) (c.b 847 rfl) (isXU_consC (c.b 12 rfl) (c.b 846 rfl) (isXU_consC (c.b 10 rfl) (c.b 845 rfl) (isXU_consC (c.b 8 rfl) (c.b 844 rfl) (isXU_consC (c.b 6 rfl) (c.b 843 rfl) (isXU_consC (c.b 4 rfl) (c.b 842 rfl) (isXU_consC (c.b 2 rfl) (c.b 841 rfl) (isXU_consC (c.b 0 rfl) (c.b 840 rfl) isXU_nil))))))))))))))))))))))))))))))) (vE 0) (by exact pe_own (He.glo_ok kx G (x := "InvalidName") (c.a 34 rfl))) (fun _ h => h) rfl (He.free_ok kx G (x := "isinstance") (c.a 7 rfl)))) (SO.e (so_lst (sl_cons se_str sl_nil))) (SO.e (so_lst sl_nil)))))) (ss_cons (ss_set (i := 1) sc__law_tags.nd rfl (by first | exact Or.inl rfl | exact Or.inr rfl) (s_bin DE.ok op2_add (vB 1) (SE.b (s_if DE.ok (st_val (se_isXv (cv := .ref (He.ga _ "InvalidWish")) (u := .ref (He.ga _ "InvalidWish")) (isXU_consC (c.b 60 rfl) (c.b 901 rfl) (isXU_consC (c.b 58 rfl) (c.b 900 rfl) (isXU_consC (c.b 56 rfl) (c.b 899 rfl) (isXU_consC (c.b 54 rfl) (c.b 898 rfl) (isXU_consC (c.b 52 rfl) (c.b 897 rfl) (isXU_consC (c.b 50 rfl) (c.b 896 rfl) (isXU_consC (c.b 48 rfl) (c.b 895 rfl) (isXU_consC (c.b 46 rfl) (c.b 894 rfl) (isXU_consC (c.b 44 rfl) (c.b 893 rfl) (isXU_consC (c.b 42 rfl) (c.b 892 rfl) (isXU_consC (c.b 40 rfl) (c.b 891 rfl) (isXU_consC (c.b 38 rfl) (c.b 890 rfl) (isXU_consC (c.b 36 rfl) (c.b 889 rfl) (isXU_consC (c.b 34 rfl) (c.b 888 rfl) (isXU_consC (c.b 32 rfl) (c.b 887 rfl) (isXU_consC (c.b 30 rfl) (c.b 886 rfl) (isXU_consC (c.b 28 rfl) (c.b 885 rfl) (isXU_consC (c.b 26 rfl) (c.b 884 rfl) (isXU_consC (c.b 24 rfl) (c.b 883 rfl) (isXU_consC (c.b 22 rfl) (c.b 882 rfl) (isXU_consC (c.b 20 rfl) (c.b 881 rfl) (isXU_consC (c.b 18 rfl) (c.b 880 rfl) (isXU_consC (c.b 16 rfl) (c.b 879 rfl) (isXU_consC (c.b 14 rfl) (c.b 878 rfl) (isXU_consC (c.b 12 rfl) (c.b 877 rfl) (isXU_consC (c.b 10 rfl) (c.b 876 rfl) (isXU_consC (c.b 8 rfl) (c.b 875 rfl) (isXU_consC (c.b 6 rfl) (c.b 874 rfl) (isXU_consC (c.b 4 rfl) (c.b 873 rfl) (isXU_consC (c.b 2 rfl) (c.b 872 rfl) (isXU_consC (c.b 0 rfl) (c.b 871 rfl) isXU_nil))))))))))))))))))))))))))))))) (vE 0) (by exact pe_own (He.glo_ok kx G (x := "InvalidWish") (c.a 35 rfl))) (fun _ h => h) rfl (He.free_ok kx G (x := "isinstance") (c.a 7 rfl)))) (SO.e (so_lst (sl_cons se_str sl_nil))) (SO.e (so_lst sl_nil)))))) (ss_cons (ss_set (i := 1) sc__law_tags.nd rfl (by first | exact Or.inl rfl | exact Or.inr rfl) (s_bin DE.ok op2_add (vB 1) (SE.b (s_if DE.ok (st_val (se_isXv (cv := .ref (He.ga _ "InvalidIndex")) (u := .ref (He.ga _ "InvalidIndex")) (isXU_consC (c.b 60 rfl) (c.b 932 rfl) (isXU_consC (c.b 58 rfl) (c.b 931 rfl) (isXU_consC (c.b 56 rfl) (c.b 930 rfl) (isXU_consC (c.b 54 rfl) (c.b 929 rfl) (isXU_consC (c.b 52 rfl) (c.b 928 rfl) (isXU_consC (c.b 50 rfl) (c.b 927 rfl) (isXU_consC (c.b 48 rfl) (c.b 926 rfl) (isXU_consC (c.b 46 rfl) (c.b 925 rfl) (isXU_consC (c.b 44 rfl) (c.b 924 rfl) (isXU_consC (c.b 42 rfl) (c.b 923 rfl) (isXU_consC (c.b 40 rfl) (c.b 922 rfl) (isXU_consC (c.b 38 rfl) (c.b 921 rfl) (isXU_consC (c.b 36 rfl) (c.b 920 rfl) (isXU_consC (c.b 34 rfl) (c.b 919 rfl) (isXU_consC (c.b 32 rfl) (c.b 918 rfl) (isXU_consC (c.b 30 rfl) (c.b 917 rfl) (isXU_consC (c.b 28 rfl) (c.b 916 rfl) (isXU_consC (c.b 26 rfl) (c.b 915 rfl) (isXU_consC (c.b 24 rfl) (c.b 914 rfl) (isXU_consC (c.b 22 rfl) (c.b 913 rfl) (isXU_consC (c.b 20 rfl) (c.b 912 rfl) (isXU_consC (c.b 18 rfl) (c.b 911 rfl) (isXU_consC (c.b 16 rfl) (c.b 910 rfl) (isXU_consC (c.b 14 rfl) (c.b 909 rfl) (isXU_consC (c.b 12 rfl) (c.b 908 rfl) (isXU_consC (c.b 10 rfl) (c.b 907 rfl) (isXU_consC (c.b 8 rfl) (c.b 906 rfl) (isXU_consC (c.b 6 rfl) (c.b 905 rfl) (isXU_consC (c.b 4 rfl) (c.b 904 rfl) (isXU_consC (c.b 2 rfl) (c.b 903 rfl) (isXU_consC (c.b 0 rfl) (c.b 902 rfl) isXU_nil))))))))))))))))))))))))))))))) (vE 0) (by exact pe_own (He.glo_ok kx G (x := "InvalidIndex") (c.a 36 rfl))) (fun _ h => h) rfl (He.free_ok kx G (x := "isinstance") (c.a 7 rfl)))) (SO.e (so_lst (sl_cons se_str sl_nil))) (SO.e (so_lst sl_nil)))))) (ss_cons (ss_set (i := 1) sc__law_tags.nd rfl (by first | exact Or.inl rfl | exact Or.inr rfl) (s_bin DE.ok op2_add (vB 1) (SE.b (s_if DE.ok (st_val (se_isXv (cv := .ref (He.ga _ "InvalidLine")) (u := .ref (He.ga _ "InvalidLine")) (isXU_consC (c.b 60 rfl) (c.b 963 rfl) (isXU_consC (c.b 58 rfl) (c.b 962 rfl) (isXU_consC (c.b 56 rfl) (c.b 961 rfl) (isXU_consC (c.b 54 rfl) (c.b 960 rfl) (isXU_consC (c.b 52 rfl) (c.b 959 rfl) (isXU_consC (c.b 50 rfl) (c.b 958 rfl) (isXU_consC (c.b 48 rfl) (c.b 957 rfl) (isXU_consC (c.b 46 rfl) (c.b 956 rfl) (isXU_consC (c.b 44 rfl) (c.b 955 rfl) (isXU_consC (c.b 42 rfl) (c.b 954 rfl) (isXU_consC (c.b 40 rfl) (c.b 953 rfl) (isXU_consC (c.b 38 rfl) (c.b 952 rfl) (isXU_consC (c.b 36 rfl) (c.b 951 rfl) (isXU_consC (c.b 34 rfl) (c.b 950 rfl) (isXU_consC (c.b 32 rfl) (c.b 949 rfl) (isXU_consC (c.b 30 rfl) (c.b 948 rfl) (isXU_consC (c.b 28 rfl) (c.b 947 rfl) (isXU_consC (c.b 26 rfl) (c.b 946 rfl) (isXU_consC (c.b 24 rfl) (c.b 945 rfl) (isXU_consC (c.b 22 rfl) (c.b 944 rfl) (isXU_consC (c.b 20 rfl) (c.b 943 rfl) (isXU_consC (c.b 18 rfl) (c.b 942 rfl) (isXU_consC (c.b 16 rfl) (c.b 941 rfl) (isXU_consC (c.b 14 rfl) (c.b 940 rfl) (isXU_consC (c.b 12 rfl) (c.b 939 rfl) (isXU_consC (c.b 10 rfl) (c.b 938 rfl) (isXU_consC (c.b 8 rfl) (c.b 937 rfl) (isXU_consC (c.b 6 rfl) (c.b 936 rfl) (isXU_consC (c.b 4 rfl) (c.b 935 rfl) (isXU_consC (c.b 2 rfl) (c.b 934 rfl) (isXU_consC (c.b 0 rfl) (c.b 933 rfl) isXU_nil))))))))))))))))))))))))))))))) (vE 0) (by exact pe_own (He.glo_ok kx G (x := "InvalidLine") (c.a 37 rfl))) (fun _ h => h) rfl (He.free_ok kx G (x := "isinstance") (c.a 7 rfl)))) (SO.e (so_lst (sl_cons se_str sl_nil))) (SO.e (so_lst sl_nil)))))) (ss_cons (ss_set (i := 1) sc__law_tags.nd rfl (by first | exact Or.inl rfl | exact Or.inr rfl) (s_bin DE.ok op2_add (vB 1) (SE.b (s_if DE.ok (st_val (se_isXv (cv := .ref (He.ga _ "InvalidCoins")) (u := .ref (He.ga _ "InvalidCoins")) (isXU_consC (c.b 60 rfl) (c.b 994 rfl) (isXU_consC (c.b 58 rfl) (c.b 993 rfl) (isXU_consC (c.b 56 rfl) (c.b 992 rfl) (isXU_consC (c.b 54 rfl) (c.b 991 rfl) (isXU_consC (c.b 52 rfl) (c.b 990 rfl) (isXU_consC (c.b 50 rfl) (c.b 989 rfl) (isXU_consC (c.b 48 rfl) (c.b 988 rfl) (isXU_consC (c.b 46 rfl) (c.b 987 rfl) (isXU_consC (c.b 44 rfl) (c.b 986 rfl) (isXU_consC (c.b 42 rfl) (c.b 985 rfl) (isXU_consC (c.b 40 rfl) (c.b 984 rfl) (isXU_consC (c.b 38 rfl) (c.b 983 rfl) (isXU_consC (c.b 36 rfl) (c.b 982 rfl) (isXU_consC (c.b 34 rfl) (c.b 981 rfl) (isXU_consC (c.b 32 rfl) (c.b 980 rfl) (isXU_consC (c.b 30 rfl) (c.b 979 rfl) (isXU_consC (c.b 28 rfl) (c.b 978 rfl) (isXU_consC (c.b 26 rfl) (c.b 977 rfl) (isXU_consC (c.b 24 rfl) (c.b 976 rfl) (isXU_consC (c.b 22 rfl) (c.b 975 rfl) (isXU_consC (c.b 20 rfl) (c.b 974 rfl) (isXU_consC (c.b 18 rfl) (c.b 973 rfl) (isXU_consC (c.b 16 rfl) (c.b 972 rfl) (isXU_consC (c.b 14 rfl) (c.b 971 rfl) (isXU_consC (c.b 12 rfl) (c.b 970 rfl) (isXU_consC (c.b 10 rfl) (c.b 969 rfl) (isXU_consC (c.b 8 rfl) (c.b 968 rfl) (isXU_consC (c.b 6 rfl) (c.b 967 rfl) (isXU_consC (c.b 4 rfl) (c.b 966 rfl) (isXU_consC (c.b 2 rfl) (c.b 965 rfl) (isXU_consC (c.b 0 rfl) (c.b 964 rfl) isXU_nil))))))))))))))))))))))))))))))) (vE 0) (by exact pe_own (He.glo_ok kx G (x := "InvalidCoins") (c.a 38 rfl))) (fun _ h => h) rfl (He.free_ok kx G (x := "isinstance") (c.a 7 rfl)))) (SO.e (so_lst (sl_cons se_str sl_nil))) (SO.e (so_lst sl_nil)))))) (ss_cons (ss_set (i := 1) sc__law_tags.nd rfl (by first | exact Or.inl rfl | exact Or.inr rfl) (s_bin DE.ok op2_add (vB 1) (SE.b (s_if DE.ok (st_val (se_isXv (cv := .ref (He.ga _ "UnknownName")) (u := .ref (He.ga _ "UnknownName")) (isXU_consC (c.b 60 rfl) (c.b 1025 rfl) (isXU_consC (c.b 58 rfl) (c.b 1024 rfl) (isXU_consC (c.b 56 rfl) (c.b 1023 rfl) (isXU_consC (c.b 54 rfl) (c.b 1022 rfl) (isXU_consC (c.b 52 rfl) (c.b 1021 rfl) (isXU_consC (c.b 50 rfl) (c.b 1020 rfl) (isXU_consC (c.b 48 rfl) (c.b 1019 rfl) (isXU_consC (c.b 46 rfl) (c.b 1018 rfl) (isXU_consC (c.b 44 rfl) (c.b 1017 rfl) (isXU_consC (c.b 42 rfl) (c.b 1016 rfl) (isXU_consC (c.b 40 rfl) (c.b 1015 rfl) (isXU_consC (c.b 38 rfl) (c.b 1014 rfl) (isXU_consC (c.b 36 rfl) (c.b 1013 rfl) (isXU_consC (c.b 34 rfl) (c.b 1012 rfl) (isXU_consC (c.b 32 rfl) (c.b 1011 rfl) (isXU_consC (c.b 30 rfl) (c.b 1010 rfl) (isXU_consC (c.b 28 rfl) (c.b 1009 rfl) (isXU_consC (c.b 26 rfl) (c.b 1008 rfl) (isXU_consC (c.b 24 rfl) (c.b 1007 rfl) (isXU_consC (c.b 22 rfl) (c.b 1006 rfl) (isXU_consC (c.b 20 rfl) (c.b 1005 rfl) (isXU_consC (c.b 18 rfl) (c.b 1004 rfl) (isXU_consC (c.b 16 rfl) (c.b 1003 rfl) (isXU_consC (c.b 14 rfl) (c.b 1002 rfl) (isXU_consC (c.b 12 rfl) (c.b 1001 rfl) (isXU_consC (c.b 10 rfl) (c.b 1000 rfl) (isXU_consC (c.b 8 rfl) (c.b 999 rfl) (isXU_consC (c.b 6 rfl) (c.b 998 rfl) (isXU_consC (c.b 4 rfl) (c.b 997 rfl) (isXU_consC (c.b 2 rfl) (c.b 996 rfl) (isXU_consC (c.b 0 rfl) (c.b 995 rfl) isXU_nil))))))))))))))))))))))))))))))) (vE 0) (by exact pe_own (He.glo_ok kx G (x := "UnknownName") (c.a 39 rfl))) (fun _ h => h) rfl (He.free_ok kx G (x := "isinstance") (c.a 7 rfl)))) (SO.e (so_lst (sl_cons se_str sl_nil))) (SO.e (so_lst sl_nil)))))) (ss_cons (ss_set (i := 1) sc__law_tags.nd rfl (by first | exact Or.inl rfl | exact Or.inr rfl) (s_bin DE.ok op2_add (vB 1) (SE.b (s_if DE.ok (st_val (se_isXv (cv := .ref (He.ga _ "InUse")) (u := .ref (He.ga _ "InUse")) (isXU_consC (c.b 60 rfl) (c.b 1056 rfl) (isXU_consC (c.b 58 rfl) (c.b 1055 rfl) (isXU_consC (c.b 56 rfl) (c.b 1054 rfl) (isXU_consC (c.b 54 rfl) (c.b 1053 rfl) (isXU_consC (c.b 52 rfl) (c.b 1052 rfl) (isXU_consC (c.b 50 rfl) (c.b 1051 rfl) (isXU_consC (c.b 48 rfl) (c.b 1050 rfl) (isXU_consC (c.b 46 rfl) (c.b 1049 rfl) (isXU_consC (c.b 44 rfl) (c.b 1048 rfl) (isXU_consC (c.b 42 rfl) (c.b 1047 rfl) (isXU_consC (c.b 40 rfl) (c.b 1046 rfl) (isXU_consC (c.b 38 rfl) (c.b 1045 rfl) (isXU_consC (c.b 36 rfl) (c.b 1044 rfl) (isXU_consC (c.b 34 rfl) (c.b 1043 rfl) (isXU_consC (c.b 32 rfl) (c.b 1042 rfl) (isXU_consC (c.b 30 rfl) (c.b 1041 rfl) (isXU_consC (c.b 28 rfl) (c.b 1040 rfl) (isXU_consC (c.b 26 rfl) (c.b 1039 rfl) (isXU_consC (c.b 24 rfl) (c.b 1038 rfl) (isXU_consC (c.b 22 rfl) (c.b 1037 rfl) (isXU_consC (c.b 20 rfl) (c.b 1036 rfl) (isXU_consC (c.b 18 rfl) (c.b 1035 rfl) (isXU_consC (c.b 16 rfl) (c.b 1034 rfl) (isXU_consC (c.b 14 rfl) (c.b 1033 rfl) (isXU_consC (c.b 12 rfl) (c.b 1032 rfl) (isXU_consC (c.b 10 rfl) (c.b 1031 rfl) (isXU_consC (c.b 8 rfl) (c.b 1030 rfl) (isXU_consC (c.b 6 rfl) (c.b 1029 rfl) (isXU_consC (c.b 4 rfl) (c.b 1028 rfl) (isXU_consC (c.b 2 rfl) (c.b 1027 rfl) (isXU_consC (c.b 0 rfl) (c.b 1026 rfl) isXU_nil))))))))))))))))))))))))))))))) (vE 0) (by exact pe_own (He.glo_ok kx G (x := "InUse") (c.a 40 rfl))) (fun _ h => h) rfl (He.free_ok kx G (x := "isinstance") (c.a 7 rfl)))) (SO.e (so_lst (sl_cons se_str sl_nil))) (SO.e (so_lst sl_nil)))))) (ss_cons (ss_set (i := 1) sc__law_tags.nd rfl (by first | exact Or.inl rfl | exact Or.inr rfl) (s_bin DE.ok op2_add (vB 1) (SE.b (s_if DE.ok (st_val (se_isXv (cv := .ref (He.ga _ "Broken")) (u := .ref (He.ga _ "Broken")) (isXU_consC (c.b 60 rfl) (c.b 1087 rfl) (isXU_consC (c.b 58 rfl) (c.b 1086 rfl) (isXU_consC (c.b 56 rfl) (c.b 1085 rfl) (isXU_consC (c.b 54 rfl) (c.b 1084 rfl) (isXU_consC (c.b 52 rfl) (c.b 1083 rfl) (isXU_consC (c.b 50 rfl) (c.b 1082 rfl) (isXU_consC (c.b 48 rfl) (c.b 1081 rfl) (isXU_consC (c.b 46 rfl) (c.b 1080 rfl) (isXU_consC (c.b 44 rfl) (c.b 1079 rfl) (isXU_consC (c.b 42 rfl) (c.b 1078 rfl) (isXU_consC (c.b 40 rfl) (c.b 1077 rfl) (isXU_consC (c.b 38 rfl) (c.b 1076 rfl) (isXU_consC (c.b 36 rfl) (c.b 1075 rfl) (isXU_consC (c.b 34 rfl) (c.b 1074 rfl) (isXU_consC (c.b 32 rfl) (c.b 1073 rfl) (isXU_consC (c.b 30 rfl) (c.b 1072 rfl) (isXU_consC (c.b 28 rfl) (c.b 1071 rfl) (isXU_consC (c.b 26 rfl) (c.b 1070 rfl) (isXU_consC (c.b 24 rfl) (c.b 1069 rfl) (isXU_consC (c.b 22 rfl) (c.b 1068 rfl) (isXU_consC (c.b 20 rfl) (c.b 1067 rfl) (isXU_consC (c.b 18 rfl) (c.b 1066 rfl) (isXU_consC (c.b 16 rfl) (c.b 1065 rfl) (isXU_consC (c.b 14 rfl) (c.b 1064 rfl) (isXU_consC (c.b 12 rfl) (c.b 1063 rfl) (isXU_consC (c.b 10 rfl) (c.b 1062 rfl) (isXU_consC (c.b 8 rfl) (c.b 1061 rfl) (isXU_consC (c.b 6 rfl) (c.b 1060 rfl) (isXU_consC (c.b 4 rfl) (c.b 1059 rfl) (isXU_consC (c.b 2 rfl) (c.b 1058 rfl) (isXU_consC (c.b 0 rfl) (c.b 1057 rfl) isXU_nil))))))))))))))))))))))))))))))) (vE 0) (by exact pe_own (He.glo_ok kx G (x := "Broken") (c.a 41 rfl))) (fun _ h => h) rfl (He.free_ok kx G (x := "isinstance") (c.a 7 rfl)))) (SO.e (so_lst (sl_cons se_str sl_nil))) (SO.e (so_lst sl_nil)))))) (ss_one (ss_ret DE.ok (vE 1))))))))))))))))))))))))))))))))
theorem ok__law_jar (kx : K.In h) (G : h.Ns mainGlobals mg) (c : SaysM fa fm fn K) : FnK P w K mg base (DE K) 1 2 ((.g "_law_jar" : Loc3).at_ K) [] c__law_jar := by
  obtain ⟨fd, F⟩ := c.d 2 (d := d__law_jar) rfl
  exact fnk_of (fin := endE) F sc__law_jar rfl (F.bindsN fun _ _ _ _ _ _ us hl => match us, hl with | [_, _], _ => rfl) .nil (fun _ _ => .nil) finE fun cdv A outer s H E hr =>
    (ss_cons (ss_set (i := 2) sc__law_jar.nd rfl (by first | exact Or.inl rfl | exact Or.inr rfl) (s_bin DE.ok op2_add (SE.b (s_bin DE.ok op2_mul (SE.b (s_bin DE.ok op2_mul (SE.b se_int) (SE.b (s_bin DE.ok op2_add (vB 1) (SE.b se_int))))) (SE.b (s_bin DE.ok op2_add (vB 1) (SE.b se_int))))) (SE.b (s_bin DE.ok op2_mul (SE.b se_int) (SE.b (s_callB DE.ok call_lenS rfl (He.free_ok kx G (x := "len") (c.a 43 rfl)) (by decide +kernel) (slb_cons (vB 0) slb_nil))))))) (ss_cons (ss_for ownX rfl (si_seq (se_sl (vB 0) sp_none (sp_some se_int))) (tg_n (j := 3)) (pgN 3 sc__law_jar.nd) (ss_one (ss_set (i := 2) sc__law_jar.nd rfl (by first | exact Or.inl rfl | exact Or.inr rfl) (s_bin DE.ok op2_mod (SE.b (s_callTy DE.ok call_intS rfl (He.free_ok kx G (x := "int") (c.a 47 rfl)) (by decide +kernel) (slb_cons (SE.b (s_bin DE.ok op2_add (SE.b (s_bin DE.ok op2_mul (vB 2) (SE.b se_int))) (vB 3))) slb_nil))) (SE.b se_int))))) (ss_cons (ss_set (i := 4) sc__law_jar.nd rfl (by first | exact Or.inl rfl | exact Or.inr rfl) (s_if DE.ok (st_cmp (op2_lt hr.units0) (vB 1) (SE.b (s_callB DE.ok call_lenS rfl (He.free_ok kx G (x := "len") (c.a 43 rfl)) (by decide +kernel) (slb_cons (vB 0) slb_nil))) rfl) (s_ix (u1 hr) (vB 0) (vB 1)) se_int)) (ss_cons (ss_set (i := 5) sc__law_jar.nd rfl (by first | exact Or.inl rfl | exact Or.inr rfl) (s_if DE.ok (st_w (sw_or (st_cmp (op2_lt hr.units0) (vB 4) (SE.b se_int) rfl) (sw_or1 (st_cmp op2_ge (vB 4) (SE.b (s_bin DE.ok op2_pow (SE.b se_int) (SE.b se_int))) rfl)))) (s_callB DE.ok call_absS rfl (He.free_ok kx G (x := "abs") (c.a 48 rfl)) (by decide +kernel) (slb_cons (vB 4) slb_nil)) se_int)) (ss_one (ss_ret DE.ok (SO.cell (so_lst (sl_cons (vE 5) (sl_cons (s_bin DE.ok op2_mod (SE.b (s_callTy DE.ok call_intS rfl (He.free_ok kx G (x := "int") (c.a 47 rfl)) (by decide +kernel) (slb_cons (SE.b (s_bin DE.ok op2_add (SE.b (s_bin DE.ok op2_add (SE.b (s_bin DE.ok op2_mul (vB 2) (SE.b se_int))) (SE.b (s_bin DE.ok op2_mul (vB 4) (SE.b se_int))))) (SE.b (s_bin DE.ok op2_mul (SE.b se_int) (SE.b (s_bin DE.ok op2_add (vB 1) (SE.b se_int))))))) slb_nil))) (SE.b se_int)) (sl_cons se_int sl_nil)))))))))))
theorem ok__law_dip (kx : K.In h) (G : h.Ns mainGlobals mg) (c : SaysM fa fm fn K) : FnK P w K mg base (DE K) 1 2 ((.g "_law_dip" : Loc3).at_ K) [] c__law_dip := by
  obtain ⟨fd, F⟩ := c.d 3 (d := d__law_dip) rfl
  exact fnk_of (fin := endE) F sc__law_dip rfl (F.bindsN fun _ _ _ _ _ _ us hl => match us, hl with | [_, _], _ => rfl) .nil (fun _ _ => .nil) finE fun cdv A outer s H E hr =>
    (ss_cons (ss_sub (i := 0) (u1 hr) rfl (by first | exact Or.inl rfl | exact Or.inr (Or.inl rfl)) se_int (s_bin DE.ok op2_add (SE.b (s_ix (u1 hr) (vB 0) (SE.b se_int))) (SE.b se_int))) (ss_cons (ss_if (st_cmp op2_gt (SE.b (s_ix (u1 hr) (vB 0) (SE.b se_int))) (SE.b se_int) rfl) (ss_cons (ss_set (i := 2) sc__law_dip.nd rfl (by first | exact Or.inl rfl | exact Or.inr rfl) (s_bin DE.ok op2_mod (SE.b (s_callTy DE.ok call_intS rfl (He.free_ok kx G (x := "int") (c.a 47 rfl)) (by decide +kernel) (slb_cons (SE.b (s_ix (u1 hr) (vB 0) (SE.b se_int))) slb_nil))) (vB 1))) (ss_cons (ss_sub (i := 0) (u1 hr) rfl (by first | exact Or.inl rfl | exact Or.inr (Or.inl rfl)) se_int (s_bin DE.ok op2_div (SE.b (s_callTy DE.ok call_intS rfl (He.free_ok kx G (x := "int") (c.a 47 rfl)) (by decide +kernel) (slb_cons (SE.b (s_ix (u1 hr) (vB 0) (SE.b se_int))) slb_nil))) (vB 1))) (ss_one (ss_ret DE.ok (vE 2))))) ss_nil) (ss_cons (ss_set (i := 3) sc__law_dip.nd rfl (by first | exact Or.inl rfl | exact Or.inr rfl) (s_callTy DE.ok call_intS rfl (He.free_ok kx G (x := "int") (c.a 47 rfl)) (by decide +kernel) (slb_cons (SE.b (s_ix (u1 hr) (vB 0) (SE.b se_int))) slb_nil))) (ss_cons (ss_sub (i := 0) (u1 hr) rfl (by first | exact Or.inl rfl | exact Or.inr (Or.inl rfl)) se_int (s_bin DE.ok op2_mod (SE.b (s_callTy DE.ok call_intS rfl (He.free_ok kx G (x := "int") (c.a 47 rfl)) (by decide +kernel) (slb_cons (SE.b (s_bin DE.ok op2_add (SE.b (s_bin DE.ok op2_add (SE.b (s_bin DE.ok op2_mul (vB 3) (SE.b se_int))) (SE.b (s_bin DE.ok op2_mul (SE.b (s_ix (u1 hr) (vB 0) (SE.b se_int))) (SE.b se_int))))) (SE.b se_int))) slb_nil))) (SE.b se_int))) (ss_one (ss_ret DE.ok (s_bin DE.ok op2_mod (SE.b (s_callTy DE.ok call_intS rfl (He.free_ok kx G (x := "int") (c.a 47 rfl)) (by decide +kernel) (slb_cons (SE.b (s_bin DE.ok op2_div (SE.b (s_ix (u1 hr) (vB 0) (SE.b se_int))) (SE.b se_int))) slb_nil))) (vB 1))))))))
theorem ok__law_pick (kx : K.In h) (G : h.Ns mainGlobals mg) (c : SaysM fa fm fn K) : FnK P w K mg base (DE K) 2 2 ((.g "_law_pick" : Loc3).at_ K) [] c__law_pick := by
  obtain ⟨fd, F⟩ := c.d 4 (d := d__law_pick) rfl
  exact fnk_of (fin := endE) F sc__law_pick rfl (F.bindsN fun _ _ _ _ _ _ us hl => match us, hl with | [_, _], _ => rfl) .nil (fun _ _ => .nil) finE fun cdv A outer s H E hr =>
    (ss_cons (ss_set (i := 2) sc__law_pick.nd rfl (by first | exact Or.inl rfl | exact Or.inr rfl) (s_call DE.ok (ok__law_dip kx G c) (hr.mono (by decide)) pasX rfl (He.glo_ok kx G (x := "_law_dip") (c.a 50 rfl)) (sl_cons (vE 0) (sl_cons (s_callB DE.ok call_lenS rfl (He.free_ok kx G (x := "len") (c.a 43 rfl)) (by decide +kernel) (slb_cons (vB 1) slb_nil)) sl_nil)))) (ss_one (ss_ret DE.ok (s_ix (u1 hr) (vB 1) (vB 2)))))
theorem ok__law_words (kx : K.In h) (G : h.Ns mainGlobals mg) (c : SaysM fa fm fn K) : FnK P w K mg base (DE K) 1 0 ((.g "_law_words" : Loc3).at_ K) [] c__law_words := by
  obtain ⟨fd, F⟩ := c.d 5 (d := d__law_words) rfl
  exact fnk_of (fin := endE) F sc__law_words rfl (F.bindsN fun _ _ _ _ _ _ us hl => match us, hl with | [], _ => rfl) .nil (fun _ _ => .nil) finE fun cdv A outer s H E hr =>
    (ss_cons (ss_set (i := 0) sc__law_words.nd rfl (by first | exact Or.inl rfl | exact Or.inr rfl) (SO.e (so_lst (sl_cons se_str (sl_cons se_str (sl_cons se_str (sl_cons se_str (sl_cons se_str (sl_cons se_str (sl_cons se_str (sl_cons se_str (sl_cons se_str (sl_cons se_str (sl_cons se_str (sl_cons se_str sl_nil))))))))))))))) (ss_cons (ss_set (i := 0) sc__law_words.nd rfl (by first | exact Or.inl rfl | exact Or.inr rfl) (s_bin DE.ok op2_add (vB 0) (SE.b (SO.e (so_lst (sl_cons se_str (sl_cons se_str (sl_cons se_str (sl_cons se_str (sl_cons se_str (sl_cons se_str (sl_cons se_str (sl_cons se_str (sl_cons se_str (sl_cons se_str sl_nil))))))))))))))) (ss_one (ss_ret DE.ok (s_bin DE.ok op2_add (vB 0) (SE.b (SO.e (so_lst (sl_cons se_str (sl_cons se_str (sl_cons se_str (sl_cons se_str (sl_cons se_str (sl_cons se_str sl_nil))))))))))))))
theorem ok__law_kept (kx : K.In h) (G : h.Ns mainGlobals mg) (c : SaysM fa fm fn K) : FnK P w K mg base (DE K) 1 2 ((.g "_law_kept" : Loc3).at_ K) [] c__law_kept := by
  obtain ⟨fd, F⟩ := c.d 6 (d := d__law_kept) rfl
  exact fnk_of (fin := endE) F sc__law_kept rfl (F.bindsN fun _ _ _ _ _ _ us hl => match us, hl with | [_, _], _ => rfl) .nil (fun _ _ => .nil) finE fun cdv A outer s H E hr =>
    (ss_cons (ss_if (st_cmp op2_inF (vB 1) (SE.b (SO.e (so_lst (sl_cons se_int (sl_cons se_int sl_nil))))) rfl) (ss_one (ss_ret DE.ok se_non)) ss_nil) (ss_cons (ss_if (st_cmp op2_inF (vB 1) (SE.b (SO.e (so_lst (sl_cons se_int (sl_cons se_int sl_nil))))) rfl) (ss_one (ss_ret DE.ok (se_xfV (xfV_cons (c.b 1089 rfl) (xfV_cons (c.b 1088 rfl) xfV_nil)) (vE 0)))) ss_nil) (ss_cons (ss_if (st_cmp (op2_eq hr.units) (vB 1) (SE.b se_int) rfl) (ss_one (ss_ret DE.ok (se_xfV (xfV_cons (c.b 1090 rfl) xfV_nil) (vE 0)))) ss_nil) (ss_one (ss_ret DE.ok (s_if DE.ok (st_cmp op2_inF (vB 1) (SE.b (SO.e (so_lst (sl_cons se_int (sl_cons se_int (sl_cons se_int (sl_cons se_int (sl_cons se_int (sl_cons se_int (sl_cons se_int (sl_cons se_int sl_nil))))))))))) rfl) (se_xfV (xfV_cons (c.b 1098 rfl) (xfV_cons (c.b 1097 rfl) (xfV_cons (c.b 1096 rfl) (xfV_cons (c.b 1095 rfl) (xfV_cons (c.b 1094 rfl) (xfV_cons (c.b 1093 rfl) (xfV_cons (c.b 1092 rfl) (xfV_cons (c.b 1091 rfl) xfV_nil)))))))) (vE 0)) (se_xfV (xfV_cons (c.b 1113 rfl) (xfV_cons (c.b 1112 rfl) (xfV_cons (c.b 1111 rfl) (xfV_cons (c.b 1110 rfl) (xfV_cons (c.b 1109 rfl) (xfV_cons (c.b 1108 rfl) (xfV_cons (c.b 1107 rfl) (xfV_cons (c.b 1106 rfl) (xfV_cons (c.b 1105 rfl) (xfV_cons (c.b 1104 rfl) (xfV_cons (c.b 1103 rfl) (xfV_cons (c.b 1102 rfl) (xfV_cons (c.b 1101 rfl) (xfV_cons (c.b 1100 rfl) (xfV_cons (c.b 1099 rfl) xfV_nil))))))))))))))) (vE 0))))))))
theorem ok__law_right (kx : K.In h) (G : h.Ns mainGlobals mg) (c : SaysM fa fm fn K) : FnK P w K mg base (DE K) 2 2 ((.g "_law_right" : Loc3).at_ K) [] c__law_right := by
  obtain ⟨fd, F⟩ := c.d 7 (d := d__law_right) rfl
  exact fnk_of (fin := endE) F sc__law_right rfl (F.bindsN fun _ _ _ _ _ _ us hl => match us, hl with | [_, _], _ => rfl) .nil (fun _ _ => .nil) finE fun cdv A outer s H E hr =>
    (ss_cons (ss_for ownX rfl (si_rng1 se_int rfl (He.free_ok kx G (x := "range") (c.a 46 rfl))) (tg_n (j := 2)) (pgN 2 sc__law_right.nd) (ss_cons (ss_set (i := 3) sc__law_right.nd rfl (by first | exact Or.inl rfl | exact Or.inr rfl) (s_if DE.ok (st_cmp (op2_lt hr.units0) (vB 2) (SE.b se_int) rfl) se_int (s_if DE.ok (st_cmp (op2_lt hr.units0) (vB 2) (SE.b se_int) rfl) se_int se_int))) (ss_cons (ss_if (st_w (sw_or (st_cmp (op2_ne hr.units) (SE.b (s_call DE.ok (ok__law_tags kx G c) (hr.mono (by decide)) pasX rfl (He.glo_ok kx G (x := "_law_tags") (c.a 42 rfl)) (sl_cons (s_ix (u1 hr) (vB 0) (vB 2)) sl_nil))) (SE.b (SO.e (so_lst (sl_cons (s_ix (u1 hr) (SE.b (s_call0 DE.ok (ok__law_words kx G c) (hr.mono (by decide)) pasX rfl (He.glo_ok kx G (x := "_law_words") (c.a 52 rfl)))) (vB 2)) sl_nil)))) rfl) (sw_or1 (st_cmp (op2_ne hr.units) (SE.b (s_call DE.ok (ok__law_bases kx G c) (hr.mono (by decide)) pasX rfl (He.glo_ok kx G (x := "_law_bases") (c.a 13 rfl)) (sl_cons (s_ix (u1 hr) (vB 0) (vB 2)) sl_nil))) (SE.b (s_bin DE.ok op2_mulL (SE.b (SO.e (so_lc rfl sc__law_right.nd (SI.any (si_rng1 se_int rfl (He.free_ok kx G (x := "range") (c.a 46 rfl)))) (own := [(("_law_k" : Str), 4)]) (blkOk_by (by kernel_rfl)) (tg_n (j := 4)) (by decide) (fun s0 H0 C0 cl0 fp0 => (pgN 4 sc__law_right.nd)) (fun s0 H0 C0 cl0 fp0 => sts_nil) (fun s0 H0 C0 cl0 fp0 => (s_cmp DE.ok (op2_eq hr.units) (vB 4) (vB 3) rfl))))) (SE.b se_int))) rfl)))) (ss_one (ss_ret DE.ok se_bl)) ss_nil) (ss_one (ss_if (st_cmp (op2_ne hr.units) (SE.b (s_callB DE.ok (call_reprK hr) rfl (He.free_ok kx G (x := "repr") (c.a 4 rfl)) (by decide +kernel) (slb_cons (SE.b (s_call DE.ok (ok__law_kept kx G c) (hr.mono (by decide)) pasX rfl (He.glo_ok kx G (x := "_law_kept") (c.a 53 rfl)) (sl_cons (s_ix (u1 hr) (vB 0) (vB 2)) (sl_cons (vE 2) sl_nil)))) slb_nil))) (SE.b (s_callB DE.ok (call_reprK hr) rfl (He.free_ok kx G (x := "repr") (c.a 4 rfl)) (by decide +kernel) (slb_cons (SE.b (s_if DE.ok (st_cmp op2_inF (vB 2) (SE.b (SO.e (so_lst (sl_cons se_int (sl_cons se_int sl_nil))))) rfl) se_non (vE 1))) slb_nil))) rfl) (ss_one (ss_ret DE.ok se_bl)) ss_nil))))) (ss_one (ss_ret DE.ok se_bl)))
theorem xn_InvalidStops (kx : K.In h) (G : h.Ns mainGlobals mg) (c : SaysM fa fm fn K) : XnK P w K mg base "InvalidStops" "given" (He.ma K (He.ga K "InvalidStops") "__init__") := by
  obtain ⟨fd, F⟩ := c.d 8 (d := d_InvalidStops___init__) rfl
  exact xnk_of (xcB_ok (c.b 1114 rfl)) F sc_InvalidStops___init__ (F.bindsN fun _ _ _ _ _ _ us hl => match us, hl with | [_, _], _ => rfl) (by first | exact Or.inl rfl | exact Or.inr (Or.inl rfl)) (by first | exact Or.inl rfl | exact Or.inr (Or.inl rfl))
theorem xnq_InvalidStops (kx : K.In h) (G : h.Ns mainGlobals mg) (c : SaysM fa fm fn K) : XnQ P w K mg base "InvalidStops" "given" "given" (He.ma K (He.ga K "InvalidStops") "__init__") := by
  obtain ⟨fd, F⟩ := c.d 8 (d := d_InvalidStops___init__) rfl
  exact xnq_of (xcB_ok (c.b 1114 rfl)) F sc_InvalidStops___init__ (fun _ _ _ _ _ _ _ _ => rfl) (by first | exact Or.inl rfl | exact Or.inr (Or.inl rfl)) (by first | exact Or.inl rfl | exact Or.inr (Or.inl rfl))
theorem xn_InvalidHaul (kx : K.In h) (G : h.Ns mainGlobals mg) (c : SaysM fa fm fn K) : XnK P w K mg base "InvalidHaul" "given" (He.ma K (He.ga K "InvalidHaul") "__init__") := by
  obtain ⟨fd, F⟩ := c.d 9 (d := d_InvalidHaul___init__) rfl
  exact xnk_of (xcB_ok (c.b 1115 rfl)) F sc_InvalidHaul___init__ (F.bindsN fun _ _ _ _ _ _ us hl => match us, hl with | [_, _], _ => rfl) (by first | exact Or.inl rfl | exact Or.inr (Or.inl rfl)) (by first | exact Or.inl rfl | exact Or.inr (Or.inl rfl))
theorem xnq_InvalidHaul (kx : K.In h) (G : h.Ns mainGlobals mg) (c : SaysM fa fm fn K) : XnQ P w K mg base "InvalidHaul" "given" "given" (He.ma K (He.ga K "InvalidHaul") "__init__") := by
  obtain ⟨fd, F⟩ := c.d 9 (d := d_InvalidHaul___init__) rfl
  exact xnq_of (xcB_ok (c.b 1115 rfl)) F sc_InvalidHaul___init__ (fun _ _ _ _ _ _ _ _ => rfl) (by first | exact Or.inl rfl | exact Or.inr (Or.inl rfl)) (by first | exact Or.inl rfl | exact Or.inr (Or.inl rfl))
theorem xn_InvalidPrice (kx : K.In h) (G : h.Ns mainGlobals mg) (c : SaysM fa fm fn K) : XnK P w K mg base "InvalidPrice" "given" (He.ma K (He.ga K "InvalidPrice") "__init__") := by
  obtain ⟨fd, F⟩ := c.d 10 (d := d_InvalidPrice___init__) rfl
  exact xnk_of (xcB_ok (c.b 1116 rfl)) F sc_InvalidPrice___init__ (F.bindsN fun _ _ _ _ _ _ us hl => match us, hl with | [_, _], _ => rfl) (by first | exact Or.inl rfl | exact Or.inr (Or.inl rfl)) (by first | exact Or.inl rfl | exact Or.inr (Or.inl rfl))
theorem xnq_InvalidPrice (kx : K.In h) (G : h.Ns mainGlobals mg) (c : SaysM fa fm fn K) : XnQ P w K mg base "InvalidPrice" "given" "given" (He.ma K (He.ga K "InvalidPrice") "__init__") := by
  obtain ⟨fd, F⟩ := c.d 10 (d := d_InvalidPrice___init__) rfl
  exact xnq_of (xcB_ok (c.b 1116 rfl)) F sc_InvalidPrice___init__ (fun _ _ _ _ _ _ _ _ => rfl) (by first | exact Or.inl rfl | exact Or.inr (Or.inl rfl)) (by first | exact Or.inl rfl | exact Or.inr (Or.inl rfl))
theorem xn_InvalidRules (kx : K.In h) (G : h.Ns mainGlobals mg) (c : SaysM fa fm fn K) : XnK P w K mg base "InvalidRules" "given" (He.ma K (He.ga K "InvalidRules") "__init__") := by
  obtain ⟨fd, F⟩ := c.d 11 (d := d_InvalidRules___init__) rfl
  exact xnk_of (xcB_ok (c.b 1117 rfl)) F sc_InvalidRules___init__ (F.bindsN fun _ _ _ _ _ _ us hl => match us, hl with | [_, _], _ => rfl) (by first | exact Or.inl rfl | exact Or.inr (Or.inl rfl)) (by first | exact Or.inl rfl | exact Or.inr (Or.inl rfl))
theorem xnq_InvalidRules (kx : K.In h) (G : h.Ns mainGlobals mg) (c : SaysM fa fm fn K) : XnQ P w K mg base "InvalidRules" "given" "given" (He.ma K (He.ga K "InvalidRules") "__init__") := by
  obtain ⟨fd, F⟩ := c.d 11 (d := d_InvalidRules___init__) rfl
  exact xnq_of (xcB_ok (c.b 1117 rfl)) F sc_InvalidRules___init__ (fun _ _ _ _ _ _ _ _ => rfl) (by first | exact Or.inl rfl | exact Or.inr (Or.inl rfl)) (by first | exact Or.inl rfl | exact Or.inr (Or.inl rfl))
theorem xn_InvalidText (kx : K.In h) (G : h.Ns mainGlobals mg) (c : SaysM fa fm fn K) : XnK P w K mg base "InvalidText" "given" (He.ma K (He.ga K "InvalidText") "__init__") := by
  obtain ⟨fd, F⟩ := c.d 12 (d := d_InvalidText___init__) rfl
  exact xnk_of (xcB_ok (c.b 1118 rfl)) F sc_InvalidText___init__ (F.bindsN fun _ _ _ _ _ _ us hl => match us, hl with | [_, _], _ => rfl) (by first | exact Or.inl rfl | exact Or.inr (Or.inl rfl)) (by first | exact Or.inl rfl | exact Or.inr (Or.inl rfl))
theorem xnq_InvalidText (kx : K.In h) (G : h.Ns mainGlobals mg) (c : SaysM fa fm fn K) : XnQ P w K mg base "InvalidText" "given" "given" (He.ma K (He.ga K "InvalidText") "__init__") := by
  obtain ⟨fd, F⟩ := c.d 12 (d := d_InvalidText___init__) rfl
  exact xnq_of (xcB_ok (c.b 1118 rfl)) F sc_InvalidText___init__ (fun _ _ _ _ _ _ _ _ => rfl) (by first | exact Or.inl rfl | exact Or.inr (Or.inl rfl)) (by first | exact Or.inl rfl | exact Or.inr (Or.inl rfl))
theorem xn_InvalidLength (kx : K.In h) (G : h.Ns mainGlobals mg) (c : SaysM fa fm fn K) : XnK P w K mg base "InvalidLength" "given" (He.ma K (He.ga K "InvalidLength") "__init__") := by
  obtain ⟨fd, F⟩ := c.d 13 (d := d_InvalidLength___init__) rfl
  exact xnk_of (xcB_ok (c.b 1119 rfl)) F sc_InvalidLength___init__ (F.bindsN fun _ _ _ _ _ _ us hl => match us, hl with | [_, _], _ => rfl) (by first | exact Or.inl rfl | exact Or.inr (Or.inl rfl)) (by first | exact Or.inl rfl | exact Or.inr (Or.inl rfl))
theorem xnq_InvalidLength (kx : K.In h) (G : h.Ns mainGlobals mg) (c : SaysM fa fm fn K) : XnQ P w K mg base "InvalidLength" "given" "given" (He.ma K (He.ga K "InvalidLength") "__init__") := by
  obtain ⟨fd, F⟩ := c.d 13 (d := d_InvalidLength___init__) rfl
  exact xnq_of (xcB_ok (c.b 1119 rfl)) F sc_InvalidLength___init__ (fun _ _ _ _ _ _ _ _ => rfl) (by first | exact Or.inl rfl | exact Or.inr (Or.inl rfl)) (by first | exact Or.inl rfl | exact Or.inr (Or.inl rfl))
theorem xn_InvalidCoin (kx : K.In h) (G : h.Ns mainGlobals mg) (c : SaysM fa fm fn K) : XnK P w K mg base "InvalidCoin" "given" (He.ma K (He.ga K "InvalidCoin") "__init__") := by
  obtain ⟨fd, F⟩ := c.d 14 (d := d_InvalidCoin___init__) rfl
  exact xnk_of (xcB_ok (c.b 1120 rfl)) F sc_InvalidCoin___init__ (F.bindsN fun _ _ _ _ _ _ us hl => match us, hl with | [_, _], _ => rfl) (by first | exact Or.inl rfl | exact Or.inr (Or.inl rfl)) (by first | exact Or.inl rfl | exact Or.inr (Or.inl rfl))
theorem xnq_InvalidCoin (kx : K.In h) (G : h.Ns mainGlobals mg) (c : SaysM fa fm fn K) : XnQ P w K mg base "InvalidCoin" "given" "given" (He.ma K (He.ga K "InvalidCoin") "__init__") := by
  obtain ⟨fd, F⟩ := c.d 14 (d := d_InvalidCoin___init__) rfl
  exact xnq_of (xcB_ok (c.b 1120 rfl)) F sc_InvalidCoin___init__ (fun _ _ _ _ _ _ _ _ => rfl) (by first | exact Or.inl rfl | exact Or.inr (Or.inl rfl)) (by first | exact Or.inl rfl | exact Or.inr (Or.inl rfl))
theorem xn_InvalidName (kx : K.In h) (G : h.Ns mainGlobals mg) (c : SaysM fa fm fn K) : XnK P w K mg base "InvalidName" "given" (He.ma K (He.ga K "InvalidName") "__init__") := by
  obtain ⟨fd, F⟩ := c.d 15 (d := d_InvalidName___init__) rfl
  exact xnk_of (xcB_ok (c.b 1121 rfl)) F sc_InvalidName___init__ (F.bindsN fun _ _ _ _ _ _ us hl => match us, hl with | [_, _], _ => rfl) (by first | exact Or.inl rfl | exact Or.inr (Or.inl rfl)) (by first | exact Or.inl rfl | exact Or.inr (Or.inl rfl))
theorem xnq_InvalidName (kx : K.In h) (G : h.Ns mainGlobals mg) (c : SaysM fa fm fn K) : XnQ P w K mg base "InvalidName" "given" "given" (He.ma K (He.ga K "InvalidName") "__init__") := by
  obtain ⟨fd, F⟩ := c.d 15 (d := d_InvalidName___init__) rfl
  exact xnq_of (xcB_ok (c.b 1121 rfl)) F sc_InvalidName___init__ (fun _ _ _ _ _ _ _ _ => rfl) (by first | exact Or.inl rfl | exact Or.inr (Or.inl rfl)) (by first | exact Or.inl rfl | exact Or.inr (Or.inl rfl))
theorem xn_InvalidWish (kx : K.In h) (G : h.Ns mainGlobals mg) (c : SaysM fa fm fn K) : XnK P w K mg base "InvalidWish" "given" (He.ma K (He.ga K "InvalidWish") "__init__") := by
  obtain ⟨fd, F⟩ := c.d 16 (d := d_InvalidWish___init__) rfl
  exact xnk_of (xcB_ok (c.b 1122 rfl)) F sc_InvalidWish___init__ (F.bindsN fun _ _ _ _ _ _ us hl => match us, hl with | [_, _], _ => rfl) (by first | exact Or.inl rfl | exact Or.inr (Or.inl rfl)) (by first | exact Or.inl rfl | exact Or.inr (Or.inl rfl))
theorem xnq_InvalidWish (kx : K.In h) (G : h.Ns mainGlobals mg) (c : SaysM fa fm fn K) : XnQ P w K mg base "InvalidWish" "given" "given" (He.ma K (He.ga K "InvalidWish") "__init__") := by
  obtain ⟨fd, F⟩ := c.d 16 (d := d_InvalidWish___init__) rfl
  exact xnq_of (xcB_ok (c.b 1122 rfl)) F sc_InvalidWish___init__ (fun _ _ _ _ _ _ _ _ => rfl) (by first | exact Or.inl rfl | exact Or.inr (Or.inl rfl)) (by first | exact Or.inl rfl | exact Or.inr (Or.inl rfl))
theorem xn_InvalidIndex (kx : K.In h) (G : h.Ns mainGlobals mg) (c : SaysM fa fm fn K) : XnK P w K mg base "InvalidIndex" "given" (He.ma K (He.ga K "InvalidIndex") "__init__") := by
  obtain ⟨fd, F⟩ := c.d 17 (d := d_InvalidIndex___init__) rfl
  exact xnk_of (xcB_ok (c.b 1123 rfl)) F sc_InvalidIndex___init__ (F.bindsN fun _ _ _ _ _ _ us hl => match us, hl with | [_, _], _ => rfl) (by first | exact Or.inl rfl | exact Or.inr (Or.inl rfl)) (by first | exact Or.inl rfl | exact Or.inr (Or.inl rfl))
theorem xnq_InvalidIndex (kx : K.In h) (G : h.Ns mainGlobals mg) (c : SaysM fa fm fn K) : XnQ P w K mg base "InvalidIndex" "given" "given" (He.ma K (He.ga K "InvalidIndex") "__init__") := by
  obtain ⟨fd, F⟩ := c.d 17 (d := d_InvalidIndex___init__) rfl
  exact xnq_of (xcB_ok (c.b 1123 rfl)) F sc_InvalidIndex___init__ (fun _ _ _ _ _ _ _ _ => rfl) (by first | exact Or.inl rfl | exact Or.inr (Or.inl rfl)) (by first | exact Or.inl rfl | exact Or.inr (Or.inl rfl))
theorem xn_InvalidLine (kx : K.In h) (G : h.Ns mainGlobals mg) (c : SaysM fa fm fn K) : XnK P w K mg base "InvalidLine" "given" (He.ma K (He.ga K "InvalidLine") "__init__") := by
  obtain ⟨fd, F⟩ := c.d 18 (d := d_InvalidLine___init__) rfl
  exact xnk_of (xcB_ok (c.b 1124 rfl)) F sc_InvalidLine___init__ (F.bindsN fun _ _ _ _ _ _ us hl => match us, hl with | [_, _], _ => rfl) (by first | exact Or.inl rfl | exact Or.inr (Or.inl rfl)) (by first | exact Or.inl rfl | exact Or.inr (Or.inl rfl))
theorem xnq_InvalidLine (kx : K.In h) (G : h.Ns mainGlobals mg) (c : SaysM fa fm fn K) : XnQ P w K mg base "InvalidLine" "given" "given" (He.ma K (He.ga K "InvalidLine") "__init__") := by
  obtain ⟨fd, F⟩ := c.d 18 (d := d_InvalidLine___init__) rfl
  exact xnq_of (xcB_ok (c.b 1124 rfl)) F sc_InvalidLine___init__ (fun _ _ _ _ _ _ _ _ => rfl) (by first | exact Or.inl rfl | exact Or.inr (Or.inl rfl)) (by first | exact Or.inl rfl | exact Or.inr (Or.inl rfl))
theorem xn_NotABook (kx : K.In h) (G : h.Ns mainGlobals mg) (c : SaysM fa fm fn K) : XnK P w K mg base "NotABook" "given" (He.ma K (He.ga K "NotABook") "__init__") := by
  obtain ⟨fd, F⟩ := c.d 19 (d := d_NotABook___init__) rfl
  exact xnk_of (xcB_ok (c.b 1125 rfl)) F sc_NotABook___init__ (F.bindsN fun _ _ _ _ _ _ us hl => match us, hl with | [_, _], _ => rfl) (by first | exact Or.inl rfl | exact Or.inr (Or.inl rfl)) (by first | exact Or.inl rfl | exact Or.inr (Or.inl rfl))
theorem xnq_NotABook (kx : K.In h) (G : h.Ns mainGlobals mg) (c : SaysM fa fm fn K) : XnQ P w K mg base "NotABook" "given" "given" (He.ma K (He.ga K "NotABook") "__init__") := by
  obtain ⟨fd, F⟩ := c.d 19 (d := d_NotABook___init__) rfl
  exact xnq_of (xcB_ok (c.b 1125 rfl)) F sc_NotABook___init__ (fun _ _ _ _ _ _ _ _ => rfl) (by first | exact Or.inl rfl | exact Or.inr (Or.inl rfl)) (by first | exact Or.inl rfl | exact Or.inr (Or.inl rfl))
theorem xn_NotBounds (kx : K.In h) (G : h.Ns mainGlobals mg) (c : SaysM fa fm fn K) : XnK P w K mg base "NotBounds" "given" (He.ma K (He.ga K "NotBounds") "__init__") := by
  obtain ⟨fd, F⟩ := c.d 20 (d := d_NotBounds___init__) rfl
  exact xnk_of (xcB_ok (c.b 1126 rfl)) F sc_NotBounds___init__ (F.bindsN fun _ _ _ _ _ _ us hl => match us, hl with | [_, _], _ => rfl) (by first | exact Or.inl rfl | exact Or.inr (Or.inl rfl)) (by first | exact Or.inl rfl | exact Or.inr (Or.inl rfl))
theorem xnq_NotBounds (kx : K.In h) (G : h.Ns mainGlobals mg) (c : SaysM fa fm fn K) : XnQ P w K mg base "NotBounds" "given" "given" (He.ma K (He.ga K "NotBounds") "__init__") := by
  obtain ⟨fd, F⟩ := c.d 20 (d := d_NotBounds___init__) rfl
  exact xnq_of (xcB_ok (c.b 1126 rfl)) F sc_NotBounds___init__ (fun _ _ _ _ _ _ _ _ => rfl) (by first | exact Or.inl rfl | exact Or.inr (Or.inl rfl)) (by first | exact Or.inl rfl | exact Or.inr (Or.inl rfl))
theorem xn_NotATariff (kx : K.In h) (G : h.Ns mainGlobals mg) (c : SaysM fa fm fn K) : XnK P w K mg base "NotATariff" "given" (He.ma K (He.ga K "NotATariff") "__init__") := by
  obtain ⟨fd, F⟩ := c.d 21 (d := d_NotATariff___init__) rfl
  exact xnk_of (xcB_ok (c.b 1127 rfl)) F sc_NotATariff___init__ (F.bindsN fun _ _ _ _ _ _ us hl => match us, hl with | [_, _], _ => rfl) (by first | exact Or.inl rfl | exact Or.inr (Or.inl rfl)) (by first | exact Or.inl rfl | exact Or.inr (Or.inl rfl))
theorem xnq_NotATariff (kx : K.In h) (G : h.Ns mainGlobals mg) (c : SaysM fa fm fn K) : XnQ P w K mg base "NotATariff" "given" "given" (He.ma K (He.ga K "NotATariff") "__init__") := by
  obtain ⟨fd, F⟩ := c.d 21 (d := d_NotATariff___init__) rfl
  exact xnq_of (xcB_ok (c.b 1127 rfl)) F sc_NotATariff___init__ (fun _ _ _ _ _ _ _ _ => rfl) (by first | exact Or.inl rfl | exact Or.inr (Or.inl rfl)) (by first | exact Or.inl rfl | exact Or.inr (Or.inl rfl))
theorem xn_InvalidPrices (kx : K.In h) (G : h.Ns mainGlobals mg) (c : SaysM fa fm fn K) : XnK P w K mg base "InvalidPrices" "index" (He.ma K (He.ga K "InvalidPrices") "__init__") := by
  obtain ⟨fd, F⟩ := c.d 22 (d := d_InvalidPrices___init__) rfl
  exact xnk_of (xcB_ok (c.b 1128 rfl)) F sc_InvalidPrices___init__ (F.bindsN fun _ _ _ _ _ _ us hl => match us, hl with | [_, _], _ => rfl) (by first | exact Or.inl rfl | exact Or.inr (Or.inl rfl)) (by first | exact Or.inl rfl | exact Or.inr (Or.inl rfl))
theorem xnq_InvalidPrices (kx : K.In h) (G : h.Ns mainGlobals mg) (c : SaysM fa fm fn K) : XnQ P w K mg base "InvalidPrices" "index" "index" (He.ma K (He.ga K "InvalidPrices") "__init__") := by
  obtain ⟨fd, F⟩ := c.d 22 (d := d_InvalidPrices___init__) rfl
  exact xnq_of (xcB_ok (c.b 1128 rfl)) F sc_InvalidPrices___init__ (fun _ _ _ _ _ _ _ _ => rfl) (by first | exact Or.inl rfl | exact Or.inr (Or.inl rfl)) (by first | exact Or.inl rfl | exact Or.inr (Or.inl rfl))
theorem xn_InvalidRanges (kx : K.In h) (G : h.Ns mainGlobals mg) (c : SaysM fa fm fn K) : XnK P w K mg base "InvalidRanges" "index" (He.ma K (He.ga K "InvalidRanges") "__init__") := by
  obtain ⟨fd, F⟩ := c.d 23 (d := d_InvalidRanges___init__) rfl
  exact xnk_of (xcB_ok (c.b 1129 rfl)) F sc_InvalidRanges___init__ (F.bindsN fun _ _ _ _ _ _ us hl => match us, hl with | [_, _], _ => rfl) (by first | exact Or.inl rfl | exact Or.inr (Or.inl rfl)) (by first | exact Or.inl rfl | exact Or.inr (Or.inl rfl))
theorem xnq_InvalidRanges (kx : K.In h) (G : h.Ns mainGlobals mg) (c : SaysM fa fm fn K) : XnQ P w K mg base "InvalidRanges" "index" "index" (He.ma K (He.ga K "InvalidRanges") "__init__") := by
  obtain ⟨fd, F⟩ := c.d 23 (d := d_InvalidRanges___init__) rfl
  exact xnq_of (xcB_ok (c.b 1129 rfl)) F sc_InvalidRanges___init__ (fun _ _ _ _ _ _ _ _ => rfl) (by first | exact Or.inl rfl | exact Or.inr (Or.inl rfl)) (by first | exact Or.inl rfl | exact Or.inr (Or.inl rfl))
theorem xn_InvalidTickets (kx : K.In h) (G : h.Ns mainGlobals mg) (c : SaysM fa fm fn K) : XnK P w K mg base "InvalidTickets" "index" (He.ma K (He.ga K "InvalidTickets") "__init__") := by
  obtain ⟨fd, F⟩ := c.d 24 (d := d_InvalidTickets___init__) rfl
  exact xnk_of (xcB_ok (c.b 1130 rfl)) F sc_InvalidTickets___init__ (F.bindsN fun _ _ _ _ _ _ us hl => match us, hl with | [_, _], _ => rfl) (by first | exact Or.inl rfl | exact Or.inr (Or.inl rfl)) (by first | exact Or.inl rfl | exact Or.inr (Or.inl rfl))
theorem xnq_InvalidTickets (kx : K.In h) (G : h.Ns mainGlobals mg) (c : SaysM fa fm fn K) : XnQ P w K mg base "InvalidTickets" "index" "index" (He.ma K (He.ga K "InvalidTickets") "__init__") := by
  obtain ⟨fd, F⟩ := c.d 24 (d := d_InvalidTickets___init__) rfl
  exact xnq_of (xcB_ok (c.b 1130 rfl)) F sc_InvalidTickets___init__ (fun _ _ _ _ _ _ _ _ => rfl) (by first | exact Or.inl rfl | exact Or.inr (Or.inl rfl)) (by first | exact Or.inl rfl | exact Or.inr (Or.inl rfl))
theorem xn_InvalidTariff (kx : K.In h) (G : h.Ns mainGlobals mg) (c : SaysM fa fm fn K) : XnK P w K mg base "InvalidTariff" "index" (He.ma K (He.ga K "InvalidTariff") "__init__") := by
  obtain ⟨fd, F⟩ := c.d 25 (d := d_InvalidTariff___init__) rfl
  exact xnk_of (xcB_ok (c.b 1131 rfl)) F sc_InvalidTariff___init__ (F.bindsN fun _ _ _ _ _ _ us hl => match us, hl with | [_, _], _ => rfl) (by first | exact Or.inl rfl | exact Or.inr (Or.inl rfl)) (by first | exact Or.inl rfl | exact Or.inr (Or.inl rfl))
theorem xnq_InvalidTariff (kx : K.In h) (G : h.Ns mainGlobals mg) (c : SaysM fa fm fn K) : XnQ P w K mg base "InvalidTariff" "index" "index" (He.ma K (He.ga K "InvalidTariff") "__init__") := by
  obtain ⟨fd, F⟩ := c.d 25 (d := d_InvalidTariff___init__) rfl
  exact xnq_of (xcB_ok (c.b 1131 rfl)) F sc_InvalidTariff___init__ (fun _ _ _ _ _ _ _ _ => rfl) (by first | exact Or.inl rfl | exact Or.inr (Or.inl rfl)) (by first | exact Or.inl rfl | exact Or.inr (Or.inl rfl))
theorem xn_InvalidCoins (kx : K.In h) (G : h.Ns mainGlobals mg) (c : SaysM fa fm fn K) : XnK P w K mg base "InvalidCoins" "index" (He.ma K (He.ga K "InvalidCoins") "__init__") := by
  obtain ⟨fd, F⟩ := c.d 26 (d := d_InvalidCoins___init__) rfl
  exact xnk_of (xcB_ok (c.b 1132 rfl)) F sc_InvalidCoins___init__ (F.bindsN fun _ _ _ _ _ _ us hl => match us, hl with | [_, _], _ => rfl) (by first | exact Or.inl rfl | exact Or.inr (Or.inl rfl)) (by first | exact Or.inl rfl | exact Or.inr (Or.inl rfl))
theorem xnq_InvalidCoins (kx : K.In h) (G : h.Ns mainGlobals mg) (c : SaysM fa fm fn K) : XnQ P w K mg base "InvalidCoins" "index" "index" (He.ma K (He.ga K "InvalidCoins") "__init__") := by
  obtain ⟨fd, F⟩ := c.d 26 (d := d_InvalidCoins___init__) rfl
  exact xnq_of (xcB_ok (c.b 1132 rfl)) F sc_InvalidCoins___init__ (fun _ _ _ _ _ _ _ _ => rfl) (by first | exact Or.inl rfl | exact Or.inr (Or.inl rfl)) (by first | exact Or.inl rfl | exact Or.inr (Or.inl rfl))
theorem xn_WrongRow (kx : K.In h) (G : h.Ns mainGlobals mg) (c : SaysM fa fm fn K) : XnK P w K mg base "WrongRow" "index" (He.ma K (He.ga K "WrongRow") "__init__") := by
  obtain ⟨fd, F⟩ := c.d 27 (d := d_WrongRow___init__) rfl
  exact xnk_of (xcB_ok (c.b 1133 rfl)) F sc_WrongRow___init__ (F.bindsN fun _ _ _ _ _ _ us hl => match us, hl with | [_, _], _ => rfl) (by first | exact Or.inl rfl | exact Or.inr (Or.inl rfl)) (by first | exact Or.inl rfl | exact Or.inr (Or.inl rfl))
theorem xnq_WrongRow (kx : K.In h) (G : h.Ns mainGlobals mg) (c : SaysM fa fm fn K) : XnQ P w K mg base "WrongRow" "index" "index" (He.ma K (He.ga K "WrongRow") "__init__") := by
  obtain ⟨fd, F⟩ := c.d 27 (d := d_WrongRow___init__) rfl
  exact xnq_of (xcB_ok (c.b 1133 rfl)) F sc_WrongRow___init__ (fun _ _ _ _ _ _ _ _ => rfl) (by first | exact Or.inl rfl | exact Or.inr (Or.inl rfl)) (by first | exact Or.inl rfl | exact Or.inr (Or.inl rfl))
theorem xn_UnknownName (kx : K.In h) (G : h.Ns mainGlobals mg) (c : SaysM fa fm fn K) : XnK P w K mg base "UnknownName" "given" (He.ma K (He.ga K "UnknownName") "__init__") := by
  obtain ⟨fd, F⟩ := c.d 28 (d := d_UnknownName___init__) rfl
  exact xnk_of (xcB_ok (c.b 1134 rfl)) F sc_UnknownName___init__ (F.bindsN fun _ _ _ _ _ _ us hl => match us, hl with | [_, _], _ => rfl) (by first | exact Or.inl rfl | exact Or.inr (Or.inl rfl)) (by first | exact Or.inl rfl | exact Or.inr (Or.inl rfl))
theorem xnq_UnknownName (kx : K.In h) (G : h.Ns mainGlobals mg) (c : SaysM fa fm fn K) : XnQ P w K mg base "UnknownName" "given" "given" (He.ma K (He.ga K "UnknownName") "__init__") := by
  obtain ⟨fd, F⟩ := c.d 28 (d := d_UnknownName___init__) rfl
  exact xnq_of (xcB_ok (c.b 1134 rfl)) F sc_UnknownName___init__ (fun _ _ _ _ _ _ _ _ => rfl) (by first | exact Or.inl rfl | exact Or.inr (Or.inl rfl)) (by first | exact Or.inl rfl | exact Or.inr (Or.inl rfl))
theorem xn_InUse (kx : K.In h) (G : h.Ns mainGlobals mg) (c : SaysM fa fm fn K) : XnK P w K mg base "InUse" "index" (He.ma K (He.ga K "InUse") "__init__") := by
  obtain ⟨fd, F⟩ := c.d 29 (d := d_InUse___init__) rfl
  exact xnk_of (xcB_ok (c.b 1135 rfl)) F sc_InUse___init__ (F.bindsN fun _ _ _ _ _ _ us hl => match us, hl with | [_, _], _ => rfl) (by first | exact Or.inl rfl | exact Or.inr (Or.inl rfl)) (by first | exact Or.inl rfl | exact Or.inr (Or.inl rfl))
theorem xnq_InUse (kx : K.In h) (G : h.Ns mainGlobals mg) (c : SaysM fa fm fn K) : XnQ P w K mg base "InUse" "index" "index" (He.ma K (He.ga K "InUse") "__init__") := by
  obtain ⟨fd, F⟩ := c.d 29 (d := d_InUse___init__) rfl
  exact xnq_of (xcB_ok (c.b 1135 rfl)) F sc_InUse___init__ (fun _ _ _ _ _ _ _ _ => rfl) (by first | exact Or.inl rfl | exact Or.inr (Or.inl rfl)) (by first | exact Or.inl rfl | exact Or.inr (Or.inl rfl))
theorem xn_BreaksRules (kx : K.In h) (G : h.Ns mainGlobals mg) (c : SaysM fa fm fn K) : XnK P w K mg base "BreaksRules" "shown" (He.ma K (He.ga K "BreaksRules") "__init__") := by
  obtain ⟨fd, F⟩ := c.d 30 (d := d_BreaksRules___init__) rfl
  exact xnk_of (xcB_ok (c.b 1136 rfl)) F sc_BreaksRules___init__ (F.bindsN fun _ _ _ _ _ _ us hl => match us, hl with | [_, _], _ => rfl) (by first | exact Or.inl rfl | exact Or.inr (Or.inl rfl)) (by first | exact Or.inl rfl | exact Or.inr (Or.inl rfl))
theorem xnq_BreaksRules (kx : K.In h) (G : h.Ns mainGlobals mg) (c : SaysM fa fm fn K) : XnQ P w K mg base "BreaksRules" "shown" "shown" (He.ma K (He.ga K "BreaksRules") "__init__") := by
  obtain ⟨fd, F⟩ := c.d 30 (d := d_BreaksRules___init__) rfl
  exact xnq_of (xcB_ok (c.b 1136 rfl)) F sc_BreaksRules___init__ (fun _ _ _ _ _ _ _ _ => rfl) (by first | exact Or.inl rfl | exact Or.inr (Or.inl rfl)) (by first | exact Or.inl rfl | exact Or.inr (Or.inl rfl))
theorem xn_NoBook (kx : K.In h) (G : h.Ns mainGlobals mg) (c : SaysM fa fm fn K) : XnK P w K mg base "NoBook" "shown" (He.ma K (He.ga K "NoBook") "__init__") := by
  obtain ⟨fd, F⟩ := c.d 31 (d := d_NoBook___init__) rfl
  exact xnk_of (xcB_ok (c.b 1137 rfl)) F sc_NoBook___init__ (F.bindsN fun _ _ _ _ _ _ us hl => match us, hl with | [_, _], _ => rfl) (by first | exact Or.inl rfl | exact Or.inr (Or.inl rfl)) (by first | exact Or.inl rfl | exact Or.inr (Or.inl rfl))
theorem xnq_NoBook (kx : K.In h) (G : h.Ns mainGlobals mg) (c : SaysM fa fm fn K) : XnQ P w K mg base "NoBook" "shown" "shown" (He.ma K (He.ga K "NoBook") "__init__") := by
  obtain ⟨fd, F⟩ := c.d 31 (d := d_NoBook___init__) rfl
  exact xnq_of (xcB_ok (c.b 1137 rfl)) F sc_NoBook___init__ (fun _ _ _ _ _ _ _ _ => rfl) (by first | exact Or.inl rfl | exact Or.inr (Or.inl rfl)) (by first | exact Or.inl rfl | exact Or.inr (Or.inl rfl))
theorem xn_Broken (kx : K.In h) (G : h.Ns mainGlobals mg) (c : SaysM fa fm fn K) : XnK P w K mg base "Broken" "index" (He.ma K (He.ga K "Broken") "__init__") := by
  obtain ⟨fd, F⟩ := c.d 32 (d := d_Broken___init__) rfl
  exact xnk_of (xcB_ok (c.b 1138 rfl)) F sc_Broken___init__ (F.bindsN fun _ _ _ _ _ _ us hl => match us, hl with | [_, _], _ => rfl) (by first | exact Or.inl rfl | exact Or.inr (Or.inl rfl)) (by first | exact Or.inl rfl | exact Or.inr (Or.inl rfl))
theorem xnq_Broken (kx : K.In h) (G : h.Ns mainGlobals mg) (c : SaysM fa fm fn K) : XnQ P w K mg base "Broken" "index" "index" (He.ma K (He.ga K "Broken") "__init__") := by
  obtain ⟨fd, F⟩ := c.d 32 (d := d_Broken___init__) rfl
  exact xnq_of (xcB_ok (c.b 1138 rfl)) F sc_Broken___init__ (fun _ _ _ _ _ _ _ _ => rfl) (by first | exact Or.inl rfl | exact Or.inr (Or.inl rfl)) (by first | exact Or.inl rfl | exact Or.inr (Or.inl rfl))
theorem xn_TooMany (kx : K.In h) (G : h.Ns mainGlobals mg) (c : SaysM fa fm fn K) : XnK P w K mg base "TooMany" "limit" (He.ma K (He.ga K "TooMany") "__init__") := by
  obtain ⟨fd, F⟩ := c.d 33 (d := d_TooMany___init__) rfl
  exact xnk_of (xcB_ok (c.b 1141 rfl)) F sc_TooMany___init__ (F.bindsN fun _ _ _ _ _ _ us hl => match us, hl with | [_, _], _ => rfl) (by first | exact Or.inl rfl | exact Or.inr (Or.inl rfl)) (by first | exact Or.inl rfl | exact Or.inr (Or.inl rfl))
theorem xnq_TooMany (kx : K.In h) (G : h.Ns mainGlobals mg) (c : SaysM fa fm fn K) : XnQ P w K mg base "TooMany" "limit" "limit" (He.ma K (He.ga K "TooMany") "__init__") := by
  obtain ⟨fd, F⟩ := c.d 33 (d := d_TooMany___init__) rfl
  exact xnq_of (xcB_ok (c.b 1141 rfl)) F sc_TooMany___init__ (fun _ _ _ _ _ _ _ _ => rfl) (by first | exact Or.inl rfl | exact Or.inr (Or.inl rfl)) (by first | exact Or.inl rfl | exact Or.inr (Or.inl rfl))
theorem ok__law_all (kx : K.In h) (G : h.Ns mainGlobals mg) (c : SaysM fa fm fn K) : FnK P w K mg base (DE K) 3 1 ((.g "_law_all" : Loc3).at_ K) [] c__law_all := by
  obtain ⟨fd, F⟩ := c.d 34 (d := d__law_all) rfl
  exact fnk_of (fin := endE) F sc__law_all rfl (F.bindsN fun _ _ _ _ _ _ us hl => match us, hl with | [_], _ => rfl) .nil (fun _ _ => .nil) finE fun cdv A outer s H E hr =>
    (ss_cons (ss_set (i := 1) sc__law_all.nd rfl (by first | exact Or.inl rfl | exact Or.inr rfl) (SO.e (so_lst (sl_cons (se_xv (xn_InvalidStops kx G c) (hr.mono (by decide)) rfl (He.glo_ok kx G (x := "InvalidStops") (c.a 14 rfl)) (sl_cons (vE 0) sl_nil)) (sl_cons (se_xv (xn_InvalidHaul kx G c) (hr.mono (by decide)) rfl (He.glo_ok kx G (x := "InvalidHaul") (c.a 15 rfl)) (sl_cons (vE 0) sl_nil)) (sl_cons (se_xv (xn_InvalidPrice kx G c) (hr.mono (by decide)) rfl (He.glo_ok kx G (x := "InvalidPrice") (c.a 16 rfl)) (sl_cons (vE 0) sl_nil)) (sl_cons (se_xv (xn_InvalidRules kx G c) (hr.mono (by decide)) rfl (He.glo_ok kx G (x := "InvalidRules") (c.a 17 rfl)) (sl_cons (vE 0) sl_nil)) (sl_cons (se_xv (xn_InvalidText kx G c) (hr.mono (by decide)) rfl (He.glo_ok kx G (x := "InvalidText") (c.a 18 rfl)) (sl_cons (vE 0) sl_nil)) sl_nil)))))))) (ss_cons (ss_set (i := 1) sc__law_all.nd rfl (by first | exact Or.inl rfl | exact Or.inr rfl) (s_bin DE.ok op2_add (vB 1) (SE.b (SO.e (so_lst (sl_cons (se_xv (xn_InvalidLength kx G c) (hr.mono (by decide)) rfl (He.glo_ok kx G (x := "InvalidLength") (c.a 19 rfl)) (sl_cons (vE 0) sl_nil)) (sl_cons (se_xv (xn_InvalidCoin kx G c) (hr.mono (by decide)) rfl (He.glo_ok kx G (x := "InvalidCoin") (c.a 33 rfl)) (sl_cons (vE 0) sl_nil)) (sl_cons (se_xv (xn_InvalidName kx G c) (hr.mono (by decide)) rfl (He.glo_ok kx G (x := "InvalidName") (c.a 34 rfl)) (sl_cons (vE 0) sl_nil)) (sl_cons (se_xv (xn_InvalidWish kx G c) (hr.mono (by decide)) rfl (He.glo_ok kx G (x := "InvalidWish") (c.a 35 rfl)) (sl_cons (vE 0) sl_nil)) sl_nil))))))))) (ss_cons (ss_set (i := 1) sc__law_all.nd rfl (by first | exact Or.inl rfl | exact Or.inr rfl) (s_bin DE.ok op2_add (vB 1) (SE.b (SO.e (so_lst (sl_cons (se_xv (xn_InvalidIndex kx G c) (hr.mono (by decide)) rfl (He.glo_ok kx G (x := "InvalidIndex") (c.a 36 rfl)) (sl_cons (vE 0) sl_nil)) (sl_cons (se_xv (xn_InvalidLine kx G c) (hr.mono (by decide)) rfl (He.glo_ok kx G (x := "InvalidLine") (c.a 37 rfl)) (sl_cons (vE 0) sl_nil)) (sl_cons (se_xv (xn_NotABook kx G c) (hr.mono (by decide)) rfl (He.glo_ok kx G (x := "NotABook") (c.a 20 rfl)) (sl_cons (vE 0) sl_nil)) (sl_cons (se_xv (xn_NotBounds kx G c) (hr.mono (by decide)) rfl (He.glo_ok kx G (x := "NotBounds") (c.a 21 rfl)) (sl_cons (vE 0) sl_nil)) (sl_cons (se_xv (xn_NotATariff kx G c) (hr.mono (by decide)) rfl (He.glo_ok kx G (x := "NotATariff") (c.a 22 rfl)) (sl_cons (vE 0) sl_nil)) sl_nil)))))))))) (ss_cons (ss_set (i := 1) sc__law_all.nd rfl (by first | exact Or.inl rfl | exact Or.inr rfl) (s_bin DE.ok op2_add (vB 1) (SE.b (SO.e (so_lst (sl_cons (se_xv (xn_InvalidPrices kx G c) (hr.mono (by decide)) rfl (He.glo_ok kx G (x := "InvalidPrices") (c.a 23 rfl)) (sl_cons (vE 0) sl_nil)) (sl_cons (se_xv (xn_InvalidRanges kx G c) (hr.mono (by decide)) rfl (He.glo_ok kx G (x := "InvalidRanges") (c.a 24 rfl)) (sl_cons (vE 0) sl_nil)) (sl_cons (se_xv (xn_InvalidTickets kx G c) (hr.mono (by decide)) rfl (He.glo_ok kx G (x := "InvalidTickets") (c.a 25 rfl)) (sl_cons (vE 0) sl_nil)) (sl_cons (se_xv (xn_InvalidTariff kx G c) (hr.mono (by decide)) rfl (He.glo_ok kx G (x := "InvalidTariff") (c.a 26 rfl)) (sl_cons (vE 0) sl_nil)) sl_nil))))))))) (ss_cons (ss_set (i := 1) sc__law_all.nd rfl (by first | exact Or.inl rfl | exact Or.inr rfl) (s_bin DE.ok op2_add (vB 1) (SE.b (SO.e (so_lst (sl_cons (se_xv (xn_InvalidCoins kx G c) (hr.mono (by decide)) rfl (He.glo_ok kx G (x := "InvalidCoins") (c.a 38 rfl)) (sl_cons (vE 0) sl_nil)) (sl_cons (se_xv (xn_WrongRow kx G c) (hr.mono (by decide)) rfl (He.glo_ok kx G (x := "WrongRow") (c.a 27 rfl)) (sl_cons (vE 0) sl_nil)) (sl_cons (se_xv (xn_UnknownName kx G c) (hr.mono (by decide)) rfl (He.glo_ok kx G (x := "UnknownName") (c.a 39 rfl)) (sl_cons (vE 0) sl_nil)) (sl_cons (se_xv (xn_InUse kx G c) (hr.mono (by decide)) rfl (He.glo_ok kx G (x := "InUse") (c.a 40 rfl)) (sl_cons (vE 0) sl_nil)) (sl_cons (se_xv (xn_BreaksRules kx G c) (hr.mono (by decide)) rfl (He.glo_ok kx G (x := "BreaksRules") (c.a 28 rfl)) (sl_cons (vE 0) sl_nil)) sl_nil)))))))))) (ss_one (ss_ret DE.ok (s_bin DE.ok op2_add (vB 1) (SE.b (SO.e (so_lst (sl_cons (se_xv (xn_NoBook kx G c) (hr.mono (by decide)) rfl (He.glo_ok kx G (x := "NoBook") (c.a 29 rfl)) (sl_cons (vE 0) sl_nil)) (sl_cons (se_xv (xn_Broken kx G c) (hr.mono (by decide)) rfl (He.glo_ok kx G (x := "Broken") (c.a 41 rfl)) (sl_cons (vE 0) sl_nil)) (sl_cons (se_xv0 (xnC_ok (c.b 1139 rfl)) rfl (He.glo_ok kx G (x := "DoNotFit") (c.a 30 rfl))) (sl_cons (se_xv0 (xnC_ok (c.b 1140 rfl)) rfl (He.glo_ok kx G (x := "NothingToUndo") (c.a 31 rfl))) (sl_cons (se_xv (xn_TooMany kx G c) (hr.mono (by decide)) rfl (He.glo_ok kx G (x := "TooMany") (c.a 32 rfl)) (sl_cons (vE 0) sl_nil)) sl_nil))))))))))))))))
theorem ok__law_named (kx : K.In h) (G : h.Ns mainGlobals mg) (c : SaysM fa fm fn K) : FnK P w K mg base (DE K) 3 1 ((.g "_law_named" : Loc3).at_ K) [] c__law_named := by
  obtain ⟨fd, F⟩ := c.d 35 (d := d__law_named) rfl
  exact fnk_of (fin := endE) F sc__law_named rfl (F.bindsN fun _ _ _ _ _ _ us hl => match us, hl with | [_], _ => rfl) .nil (fun _ _ => .nil) finE fun cdv A outer s H E hr =>
    (ss_cons (ss_set (i := 1) sc__law_named.nd rfl (by first | exact Or.inl rfl | exact Or.inr rfl) (SO.e (so_lst (sl_cons (se_xvq (xnq_InvalidStops kx G c) (hr.mono (by decide)) rfl (He.glo_ok kx G (x := "InvalidStops") (c.a 14 rfl)) (sk_cons (vE 0) sk_nil)) (sl_cons (se_xvq (xnq_InvalidHaul kx G c) (hr.mono (by decide)) rfl (He.glo_ok kx G (x := "InvalidHaul") (c.a 15 rfl)) (sk_cons (vE 0) sk_nil)) (sl_cons (se_xvq (xnq_InvalidPrice kx G c) (hr.mono (by decide)) rfl (He.glo_ok kx G (x := "InvalidPrice") (c.a 16 rfl)) (sk_cons (vE 0) sk_nil)) (sl_cons (se_xvq (xnq_InvalidRules kx G c) (hr.mono (by decide)) rfl (He.glo_ok kx G (x := "InvalidRules") (c.a 17 rfl)) (sk_cons (vE 0) sk_nil)) sl_nil))))))) (ss_cons (ss_set (i := 1) sc__law_named.nd rfl (by first | exact Or.inl rfl | exact Or.inr rfl) (s_bin DE.ok op2_add (vB 1) (SE.b (SO.e (so_lst (sl_cons (se_xvq (xnq_InvalidText kx G c) (hr.mono (by decide)) rfl (He.glo_ok kx G (x := "InvalidText") (c.a 18 rfl)) (sk_cons (vE 0) sk_nil)) (sl_cons (se_xvq (xnq_InvalidLength kx G c) (hr.mono (by decide)) rfl (He.glo_ok kx G (x := "InvalidLength") (c.a 19 rfl)) (sk_cons (vE 0) sk_nil)) (sl_cons (se_xvq (xnq_InvalidCoin kx G c) (hr.mono (by decide)) rfl (He.glo_ok kx G (x := "InvalidCoin") (c.a 33 rfl)) (sk_cons (vE 0) sk_nil)) sl_nil)))))))) (ss_cons (ss_set (i := 1) sc__law_named.nd rfl (by first | exact Or.inl rfl | exact Or.inr rfl) (s_bin DE.ok op2_add (vB 1) (SE.b (SO.e (so_lst (sl_cons (se_xvq (xnq_InvalidName kx G c) (hr.mono (by decide)) rfl (He.glo_ok kx G (x := "InvalidName") (c.a 34 rfl)) (sk_cons (vE 0) sk_nil)) (sl_cons (se_xvq (xnq_InvalidWish kx G c) (hr.mono (by decide)) rfl (He.glo_ok kx G (x := "InvalidWish") (c.a 35 rfl)) (sk_cons (vE 0) sk_nil)) (sl_cons (se_xvq (xnq_InvalidIndex kx G c) (hr.mono (by decide)) rfl (He.glo_ok kx G (x := "InvalidIndex") (c.a 36 rfl)) (sk_cons (vE 0) sk_nil)) sl_nil)))))))) (ss_cons (ss_set (i := 1) sc__law_named.nd rfl (by first | exact Or.inl rfl | exact Or.inr rfl) (s_bin DE.ok op2_add (vB 1) (SE.b (SO.e (so_lst (sl_cons (se_xvq (xnq_InvalidLine kx G c) (hr.mono (by decide)) rfl (He.glo_ok kx G (x := "InvalidLine") (c.a 37 rfl)) (sk_cons (vE 0) sk_nil)) (sl_cons (se_xvq (xnq_NotABook kx G c) (hr.mono (by decide)) rfl (He.glo_ok kx G (x := "NotABook") (c.a 20 rfl)) (sk_cons (vE 0) sk_nil)) (sl_cons (se_xvq (xnq_NotBounds kx G c) (hr.mono (by decide)) rfl (He.glo_ok kx G (x := "NotBounds") (c.a 21 rfl)) (sk_cons (vE 0) sk_nil)) sl_nil)))))))) (ss_cons (ss_set (i := 1) sc__law_named.nd rfl (by first | exact Or.inl rfl | exact Or.inr rfl) (s_bin DE.ok op2_add (vB 1) (SE.b (SO.e (so_lst (sl_cons (se_xvq (xnq_NotATariff kx G c) (hr.mono (by decide)) rfl (He.glo_ok kx G (x := "NotATariff") (c.a 22 rfl)) (sk_cons (vE 0) sk_nil)) (sl_cons (se_xvq (xnq_InvalidPrices kx G c) (hr.mono (by decide)) rfl (He.glo_ok kx G (x := "InvalidPrices") (c.a 23 rfl)) (sk_cons (vE 0) sk_nil)) (sl_cons (se_xvq (xnq_InvalidRanges kx G c) (hr.mono (by decide)) rfl (He.glo_ok kx G (x := "InvalidRanges") (c.a 24 rfl)) (sk_cons (vE 0) sk_nil)) sl_nil)))))))) (ss_cons (ss_set (i := 1) sc__law_named.nd rfl (by first | exact Or.inl rfl | exact Or.inr rfl) (s_bin DE.ok op2_add (vB 1) (SE.b (SO.e (so_lst (sl_cons (se_xvq (xnq_InvalidTickets kx G c) (hr.mono (by decide)) rfl (He.glo_ok kx G (x := "InvalidTickets") (c.a 25 rfl)) (sk_cons (vE 0) sk_nil)) (sl_cons (se_xvq (xnq_InvalidTariff kx G c) (hr.mono (by decide)) rfl (He.glo_ok kx G (x := "InvalidTariff") (c.a 26 rfl)) (sk_cons (vE 0) sk_nil)) (sl_cons (se_xvq (xnq_InvalidCoins kx G c) (hr.mono (by decide)) rfl (He.glo_ok kx G (x := "InvalidCoins") (c.a 38 rfl)) (sk_cons (vE 0) sk_nil)) sl_nil)))))))) (ss_cons (ss_set (i := 1) sc__law_named.nd rfl (by first | exact Or.inl rfl | exact Or.inr rfl) (s_bin DE.ok op2_add (vB 1) (SE.b (SO.e (so_lst (sl_cons (se_xvq (xnq_WrongRow kx G c) (hr.mono (by decide)) rfl (He.glo_ok kx G (x := "WrongRow") (c.a 27 rfl)) (sk_cons (vE 0) sk_nil)) (sl_cons (se_xvq (xnq_UnknownName kx G c) (hr.mono (by decide)) rfl (He.glo_ok kx G (x := "UnknownName") (c.a 39 rfl)) (sk_cons (vE 0) sk_nil)) (sl_cons (se_xvq (xnq_InUse kx G c) (hr.mono (by decide)) rfl (He.glo_ok kx G (x := "InUse") (c.a 40 rfl)) (sk_cons (vE 0) sk_nil)) (sl_cons (se_xvq (xnq_BreaksRules kx G c) (hr.mono (by decide)) rfl (He.glo_ok kx G (x := "BreaksRules") (c.a 28 rfl)) (sk_cons (vE 0) sk_nil)) sl_nil))))))))) (ss_one (ss_ret DE.ok (s_bin DE.ok op2_add (vB 1) (SE.b (SO.e (so_lst (sl_cons (se_xvq (xnq_NoBook kx G c) (hr.mono (by decide)) rfl (He.glo_ok kx G (x := "NoBook") (c.a 29 rfl)) (sk_cons (vE 0) sk_nil)) (sl_cons (se_xvq (xnq_Broken kx G c) (hr.mono (by decide)) rfl (He.glo_ok kx G (x := "Broken") (c.a 41 rfl)) (sk_cons (vE 0) sk_nil)) (sl_cons (se_xv0 (xnC_ok (c.b 1139 rfl)) rfl (He.glo_ok kx G (x := "DoNotFit") (c.a 30 rfl))) (sl_cons (se_xv0 (xnC_ok (c.b 1140 rfl)) rfl (He.glo_ok kx G (x := "NothingToUndo") (c.a 31 rfl))) (sl_cons (se_xvq (xnq_TooMany kx G c) (hr.mono (by decide)) rfl (He.glo_ok kx G (x := "TooMany") (c.a 32 rfl)) (sk_cons (vE 0) sk_nil)) sl_nil))))))))))))))))))
theorem ok_law {fd : FuncData} (kx : K.In h) (G : h.Ns mainGlobals mg) (c : SaysM fa fm fn K) (F : FunD K d_law.name d_law.qual d_law.params d_law.body d_law.scope (d_law.dvs K) (d_law.kws K) (d_law.loc.at_ K) fd) : MP.FnOk P w K mg base (L2.CX P w) 4 (He.ga K "law") fd ["_law_script"] (spD K (DE K) 1 c_law) :=
  fnok_of (fin := endE) F sc_law rfl finE fun cdv A outer s H E hr =>
    (ss_cons (ss_if (st_w (sw_or (st_cmp (op2_ne hr.units) (SE.b (s_callB DE.ok (call_reprK hr) rfl (He.free_ok kx G (x := "repr") (c.a 4 rfl)) (by decide +kernel) (slb_cons (SE.b (SO.e (so_lst (sl_cons (se_globI rfl (He.int_ok kx G (x := "MOST_STOPS") (i := 10) (c.a 0 rfl))) (sl_cons (se_globI rfl (He.int_ok kx G (x := "MOST_PRICE") (i := 1000000000000) (c.a 1 rfl))) (sl_cons (se_globI rfl (He.int_ok kx G (x := "MOST_KEPT") (i := 5) (c.a 2 rfl))) (sl_cons (se_globI rfl (He.int_ok kx G (x := "MOST_PIECE") (i := 12) (c.a 3 rfl))) sl_nil))))))) slb_nil))) (SE.b se_str) rfl) (sw_or1 (st_cmp (op2_ne hr.units) (SE.b (se_globI rfl (He.int_ok kx G (x := "MOST_LENGTH") (i := 1000000000000000000000000000000) (c.a 5 rfl)))) (SE.b (s_bin DE.ok op2_pow (SE.b se_int) (SE.b se_int))) rfl)))) (ss_one (ss_ret DE.ok se_bl)) ss_nil) (ss_cons (ss_if (st_cmp (op2_ne hr.units) (SE.b (SO.e (so_lst (sl_cons (s_call DE.ok (ok__law_bases kx G c) (hr.mono (by decide)) pasX rfl (He.glo_ok kx G (x := "_law_bases") (c.a 13 rfl)) (sl_cons (se_xv0 (xnC_ok (c.b 217 rfl)) rfl (He.glo_ok kx G (x := "WrongValue") (c.a 6 rfl))) sl_nil)) (sl_cons (s_call DE.ok (ok__law_bases kx G c) (hr.mono (by decide)) pasX rfl (He.glo_ok kx G (x := "_law_bases") (c.a 13 rfl)) (sl_cons (se_xv0 (xnC_ok (c.b 218 rfl)) rfl (He.glo_ok kx G (x := "WrongName") (c.a 8 rfl))) sl_nil)) sl_nil))))) (SE.b (SO.e (so_lst (sl_cons (s_bin DE.ok op2_mulL (SE.b (SO.e (so_lst (sl_cons se_bl (sl_cons se_bl (sl_cons se_bl sl_nil)))))) (SE.b se_int)) (sl_cons (s_bin DE.ok op2_mulL (SE.b (SO.e (so_lst (sl_cons se_bl (sl_cons se_bl (sl_cons se_bl sl_nil)))))) (SE.b se_int)) sl_nil))))) rfl) (ss_one (ss_ret DE.ok se_bl)) ss_nil) (ss_cons (ss_if (st_w (sw_or (st_cmp (op2_ne hr.units) (SE.b (s_call DE.ok (ok__law_bases kx G c) (hr.mono (by decide)) pasX rfl (He.glo_ok kx G (x := "_law_bases") (c.a 13 rfl)) (sl_cons (se_xv0 (xnC_ok (c.b 219 rfl)) rfl (He.glo_ok kx G (x := "NoAnswer") (c.a 9 rfl))) sl_nil))) (SE.b (s_bin DE.ok op2_mulL (SE.b (SO.e (so_lst (sl_cons se_bl (sl_cons se_bl (sl_cons se_bl sl_nil)))))) (SE.b se_int))) rfl) (sw_or1 (st_cmp (op2_ne hr.units) (SE.b (s_call DE.ok (ok__law_tags kx G c) (hr.mono (by decide)) pasX rfl (He.glo_ok kx G (x := "_law_tags") (c.a 42 rfl)) (sl_cons (se_xv0 (xnC_ok (c.b 218 rfl)) rfl (He.glo_ok kx G (x := "WrongName") (c.a 8 rfl))) sl_nil))) (SE.b (SO.e (so_lst sl_nil))) rfl)))) (ss_one (ss_ret DE.ok se_bl)) ss_nil) (ss_cons (ss_for ownX rfl (si_rng1 (s_callB DE.ok (call_maxS rfl) rfl (He.free_ok kx G (x := "max") (c.a 45 rfl)) (by decide +kernel) (slb_cons (SE.b se_int) (slb_cons (SE.b (s_callB DE.ok (call_minS rfl) rfl (He.free_ok kx G (x := "min") (c.a 44 rfl)) (by decide +kernel) (slb_cons (SE.b (s_callB DE.ok call_lenS rfl (He.free_ok kx G (x := "len") (c.a 43 rfl)) (by decide +kernel) (slb_cons (vB 0) slb_nil))) (slb_cons (SE.b se_int) slb_nil)))) slb_nil))) rfl (He.free_ok kx G (x := "range") (c.a 46 rfl))) (tg_n (j := 1)) (pgN 1 sc_law.nd) (ss_cons (ss_set (i := 2) sc_law.nd rfl (by first | exact Or.inl rfl | exact Or.inr rfl) (s_call DE.ok (ok__law_jar kx G c) (hr.mono (by decide)) pasX rfl (He.glo_ok kx G (x := "_law_jar") (c.a 49 rfl)) (sl_cons (vE 0) (sl_cons (vE 1) sl_nil)))) (ss_cons (ss_set (i := 3) sc_law.nd rfl (by first | exact Or.inl rfl | exact Or.inr rfl) (s_call DE.ok (ok__law_pick kx G c) (hr.mono (by decide)) pasX rfl (He.glo_ok kx G (x := "_law_pick") (c.a 51 rfl)) (sl_cons (vE 2) (sl_cons (SO.e (so_lst (sl_cons se_non (sl_cons se_int (sl_cons se_bl (sl_cons (s_un DE.ok op1_neg (SE.b se_int)) (sl_cons (s_bin DE.ok op2_pow (SE.b se_int) (SE.b se_int)) (sl_cons se_str (sl_cons se_str (sl_cons (se_tup sl_nil) (sl_cons (se_tup (sl_cons se_str (sl_cons se_int sl_nil))) (sl_cons (SO.e (so_lst (sl_cons se_int sl_nil))) (sl_cons (SO.e (so_disp1 se_str se_non)) (sl_cons (se_tup (sl_cons se_int (sl_cons (se_tup (sl_cons se_int (sl_cons (SO.e (so_lst (sl_cons se_int sl_nil))) sl_nil))) sl_nil))) sl_nil)))))))))))))) sl_nil)))) (ss_one (ss_if (st_w (sw_or (st_not (st_val (s_call DE.ok (ok__law_right kx G c) (hr.mono (by decide)) pasX rfl (He.glo_ok kx G (x := "_law_right") (c.a 55 rfl)) (sl_cons (s_call DE.ok (ok__law_all kx G c) (hr.mono (by decide)) pasX rfl (He.glo_ok kx G (x := "_law_all") (c.a 54 rfl)) (sl_cons (vE 3) sl_nil)) (sl_cons (vE 3) sl_nil))))) (sw_or1 (st_not (st_val (s_call DE.ok (ok__law_right kx G c) (hr.mono (by decide)) pasX rfl (He.glo_ok kx G (x := "_law_right") (c.a 55 rfl)) (sl_cons (s_call DE.ok (ok__law_named kx G c) (hr.mono (by decide)) pasX rfl (He.glo_ok kx G (x := "_law_named") (c.a 56 rfl)) (sl_cons (vE 3) sl_nil)) (sl_cons (vE 3) sl_nil)))))))) (ss_one (ss_ret DE.ok se_bl)) ss_nil))))) (ss_one (ss_ret DE.ok se_bl))))))
end
theorem law_F {w : World} {K : PySem.W.Frag} {h : Heap} {mg : Str → Option Value} (kx : K.In h) (G : h.Ns mainGlobals mg) (c : SaysM fa fm fn K) :
    ∃ (K' : PySem.W.Frag) (fd : FuncData) (sp : Sp), K'.In h ∧ (∀ (s : Shared) (u : Value), BindsTo s fd ⟨[u], []⟩ [("_law_script", u)]) ∧
      (∀ (H : Hp) (a : Addr) (ns : List Int), ns.length ≤ 63 → Only H → SqL K' H a (ns.map V.int) → sp [.ref a] H (fun v _ => v = .bl true) fun _ _ _ => False) ∧
      ∀ base : Heap, K'.In base → base.Ns mainGlobals mg → MP.FnOk (PySem.Challenge.rw_haulprices_k01_limits_and_errors).prog w K' mg base (CXa (PySem.Challenge.rw_haulprices_k01_limits_and_errors).prog) 4 (He.ga K "law") fd ["_law_script"] sp := by
  obtain ⟨fd, F⟩ := c.d 36 (d := d_law) rfl
  refine ⟨K, fd, spD K (DE K) 1 c_law, kx, fun s u => ?_, fun H a ns hl _ hS => law_sp hS (law_ok hl), fun base hb hm => ?_⟩
  · exact FunD.bindsA (ps := ["_law_script"]) F (fun _ _ _ _ _ _ us hl => match us, hl with | [_], _ => rfl) s [u] rfl
  · exact fn_any (ok_law kx G c F)
end HP
set_option maxRecDepth 100000
set_option maxHeartbeats 0
namespace HP
open PySem PySem.W PySem.Calls PyProof.Rows MP HandSHeadRun HQ
noncomputable section
abbrev PG : Program := PySem.Challenge.pw_haulprices_k01_limits_and_errors
theorem bootN_ok (w : World) : bootN w = some 11 := by kernel_rfl
def o1_0 (w : World) : Obj := (.mk (.type "dict") none (.dict (.mk (.cons (.mk (HQ.hS w "__name__") (.str "__name__" 1) (.str "builtins" 160)) (.cons (.mk (HQ.hS w "__doc__") (.str "__doc__" 2) (.builtin "builtins.__doc__:str#opaque")) (.cons (.mk (HQ.hS w "__package__") (.str "__package__" 3) (.builtin "builtins.__package__:str#opaque")) (.cons (.mk (HQ.hS w "__loader__") (.str "__loader__" 4) (.builtin "builtins.__loader__:shared#opaque")) (.cons (.mk (HQ.hS w "__spec__") (.str "__spec__" 5) (.builtin "builtins.__spec__#opaque")) (.cons (.mk (HQ.hS w "__build_class__") (.str "__build_class__" 6) (.builtin "__build_class__")) (.cons (.mk (HQ.hS w "__import__") (.str "__import__" 7) (.builtin "__import__")) (.cons (.mk (HQ.hS w "abs") (.str "abs" 8) (.builtin "abs")) (.cons (.mk (HQ.hS w "all") (.str "all" 9) (.builtin "all")) (.cons (.mk (HQ.hS w "any") (.str "any" 10) (.builtin "any")) (.cons (.mk (HQ.hS w "ascii") (.str "ascii" 11) (.builtin "ascii")) (.cons (.mk (HQ.hS w "bin") (.str "bin" 12) (.builtin "bin")) (.cons (.mk (HQ.hS w "breakpoint") (.str "breakpoint" 13) (.builtin "breakpoint")) (.cons (.mk (HQ.hS w "callable") (.str "callable" 14) (.builtin "callable")) (.cons (.mk (HQ.hS w "chr") (.str "chr" 15) (.builtin "chr")) (.cons (.mk (HQ.hS w "compile") (.str "compile" 16) (.builtin "compile")) (.cons (.mk (HQ.hS w "delattr") (.str "delattr" 17) (.builtin "delattr")) (.cons (.mk (HQ.hS w "dir") (.str "dir" 18) (.builtin "dir")) (.cons (.mk (HQ.hS w "divmod") (.str "divmod" 19) (.builtin "divmod")) (.cons (.mk (HQ.hS w "eval") (.str "eval" 20) (.builtin "eval")) (.cons (.mk (HQ.hS w "exec") (.str "exec" 21) (.builtin "exec")) (.cons (.mk (HQ.hS w "format") (.str "format" 22) (.builtin "format")) (.cons (.mk (HQ.hS w "getattr") (.str "getattr" 23) (.builtin "getattr")) (.cons (.mk (HQ.hS w "globals") (.str "globals" 24) (.builtin "globals")) (.cons (.mk (HQ.hS w "hasattr") (.str "hasattr" 25) (.builtin "hasattr")) (.cons (.mk (HQ.hS w "hash") (.str "hash" 26) (.builtin "hash")) (.cons (.mk (HQ.hS w "hex") (.str "hex" 27) (.builtin "hex")) (.cons (.mk (HQ.hS w "id") (.str "id" 28) (.builtin "id")) (.cons (.mk (HQ.hS w "input") (.str "input" 29) (.builtin "input")) (.cons (.mk (HQ.hS w "isinstance") (.str "isinstance" 30) (.builtin "isinstance")) (.cons (.mk (HQ.hS w "issubclass") (.str "issubclass" 31) (.builtin "issubclass")) (.cons (.mk (HQ.hS w "iter") (.str "iter" 32) (.builtin "iter")) (.cons (.mk (HQ.hS w "aiter") (.str "aiter" 33) (.builtin "aiter")) (.cons (.mk (HQ.hS w "len") (.str "len" 34) (.builtin "len")) (.cons (.mk (HQ.hS w "locals") (.str "locals" 35) (.builtin "locals")) (.cons (.mk (HQ.hS w "max") (.str "max" 36) (.builtin "max")) (.cons (.mk (HQ.hS w "min") (.str "min" 37) (.builtin "min")) (.cons (.mk (HQ.hS w "next") (.str "next" 38) (.builtin "next")) (.cons (.mk (HQ.hS w "anext") (.str "anext" 39) (.builtin "anext")) (.cons (.mk (HQ.hS w "oct") (.str "oct" 40) (.builtin "oct")) (.cons (.mk (HQ.hS w "ord") (.str "ord" 41) (.builtin "ord")) (.cons (.mk (HQ.hS w "pow") (.str "pow" 42) (.builtin "pow")) (.cons (.mk (HQ.hS w "print") (.str "print" 43) (.builtin "print")) (.cons (.mk (HQ.hS w "repr") (.str "repr" 44) (.builtin "repr")) (.cons (.mk (HQ.hS w "round") (.str "round" 45) (.builtin "round")) (.cons (.mk (HQ.hS w "setattr") (.str "setattr" 46) (.builtin "setattr")) (.cons (.mk (HQ.hS w "sorted") (.str "sorted" 47) (.builtin "sorted")) (.cons (.mk (HQ.hS w "sum") (.str "sum" 48) (.builtin "sum")) (.cons (.mk (HQ.hS w "vars") (.str "vars" 49) (.builtin "vars")) (.cons (.mk (HQ.hS w "None") (.str "None" 50) .none) (.cons (.mk (HQ.hS w "Ellipsis") (.str "Ellipsis" 51) .ellipsis) (.cons (.mk (HQ.hS w "NotImplemented") (.str "NotImplemented" 52) .notImplemented) (.cons (.mk (HQ.hS w "False") (.str "False" 53) (.bool false)) (.cons (.mk (HQ.hS w "True") (.str "True" 54) (.bool true)) (.cons (.mk (HQ.hS w "bool") (.str "bool" 55) (.type "bool")) (.cons (.mk (HQ.hS w "memoryview") (.str "memoryview" 56) (.type "memoryview")) (.cons (.mk (HQ.hS w "bytearray") (.str "bytearray" 57) (.type "bytearray")) (.cons (.mk (HQ.hS w "bytes") (.str "bytes" 58) (.type "bytes")) (.cons (.mk (HQ.hS w "classmethod") (.str "classmethod" 59) (.type "classmethod")) (.cons (.mk (HQ.hS w "complex") (.str "complex" 60) (.type "complex")) (.cons (.mk (HQ.hS w "dict") (.str "dict" 61) (.type "dict")) (.cons (.mk (HQ.hS w "enumerate") (.str "enumerate" 62) (.type "enumerate")) (.cons (.mk (HQ.hS w "filter") (.str "filter" 63) (.type "filter")) (.cons (.mk (HQ.hS w "float") (.str "float" 64) (.type "float")) (.cons (.mk (HQ.hS w "frozenset") (.str "frozenset" 65) (.type "frozenset")) (.cons (.mk (HQ.hS w "property") (.str "property" 66) (.type "property")) (.cons (.mk (HQ.hS w "int") (.str "int" 67) (.type "int")) (.cons (.mk (HQ.hS w "list") (.str "list" 68) (.type "list")) (.cons (.mk (HQ.hS w "map") (.str "map" 69) (.type "map")) (.cons (.mk (HQ.hS w "object") (.str "object" 70) (.type "object")) (.cons (.mk (HQ.hS w "range") (.str "range" 71) (.type "range")) (.cons (.mk (HQ.hS w "reversed") (.str "reversed" 72) (.type "reversed")) (.cons (.mk (HQ.hS w "set") (.str "set" 73) (.type "set")) (.cons (.mk (HQ.hS w "slice") (.str "slice" 74) (.type "slice")) (.cons (.mk (HQ.hS w "staticmethod") (.str "staticmethod" 75) (.type "staticmethod")) (.cons (.mk (HQ.hS w "str") (.str "str" 76) (.type "str")) (.cons (.mk (HQ.hS w "super") (.str "super" 77) (.type "super")) (.cons (.mk (HQ.hS w "tuple") (.str "tuple" 78) (.type "tuple")) (.cons (.mk (HQ.hS w "type") (.str "type" 79) (.type "type")) (.cons (.mk (HQ.hS w "zip") (.str "zip" 80) (.type "zip")) (.cons (.mk (HQ.hS w "__debug__") (.str "__debug__" 81) (.bool true)) (.cons (.mk (HQ.hS w "BaseException") (.str "BaseException" 82) (.type "BaseException")) (.cons (.mk (HQ.hS w "BaseExceptionGroup") (.str "BaseExceptionGroup" 83) (.type "BaseExceptionGroup")) (.cons (.mk (HQ.hS w "Exception") (.str "Exception" 84) (.type "Exception")) (.cons (.mk (HQ.hS w "GeneratorExit") (.str "GeneratorExit" 85) (.type "GeneratorExit")) (.cons (.mk (HQ.hS w "KeyboardInterrupt") (.str "KeyboardInterrupt" 86) (.type "KeyboardInterrupt")) (.cons (.mk (HQ.hS w "SystemExit") (.str "SystemExit" 87) (.type "SystemExit")) (.cons (.mk (HQ.hS w "ArithmeticError") (.str "ArithmeticError" 88) (.type "ArithmeticError")) (.cons (.mk (HQ.hS w "AssertionError") (.str "AssertionError" 89) (.type "AssertionError")) (.cons (.mk (HQ.hS w "AttributeError") (.str "AttributeError" 90) (.type "AttributeError")) (.cons (.mk (HQ.hS w "BufferError") (.str "BufferError" 91) (.type "BufferError")) (.cons (.mk (HQ.hS w "EOFError") (.str "EOFError" 92) (.type "EOFError")) (.cons (.mk (HQ.hS w "ImportError") (.str "ImportError" 93) (.type "ImportError")) (.cons (.mk (HQ.hS w "LookupError") (.str "LookupError" 94) (.type "LookupError")) (.cons (.mk (HQ.hS w "MemoryError") (.str "MemoryError" 95) (.type "MemoryError")) (.cons (.mk (HQ.hS w "NameError") (.str "NameError" 96) (.type "NameError")) (.cons (.mk (HQ.hS w "OSError") (.str "OSError" 97) (.type "OSError")) (.cons (.mk (HQ.hS w "ReferenceError") (.str "ReferenceError" 98) (.type "ReferenceError")) (.cons (.mk (HQ.hS w "RuntimeError") (.str "RuntimeError" 99) (.type "RuntimeError")) (.cons (.mk (HQ.hS w "StopAsyncIteration") (.str "StopAsyncIteration" 100) (.type "StopAsyncIteration")) (.cons (.mk (HQ.hS w "StopIteration") (.str "StopIteration" 101) (.type "StopIteration")) (.cons (.mk (HQ.hS w "SyntaxError") (.str "SyntaxError" 102) (.type "SyntaxError")) (.cons (.mk (HQ.hS w "SystemError") (.str "SystemError" 103) (.type "SystemError")) (.cons (.mk (HQ.hS w "TypeError") (.str "TypeError" 104) (.type "TypeError")) (.cons (.mk (HQ.hS w "ValueError") (.str "ValueError" 105) (.type "ValueError")) (.cons (.mk (HQ.hS w "Warning") (.str "Warning" 106) (.type "Warning")) (.cons (.mk (HQ.hS w "FloatingPointError") (.str "FloatingPointError" 107) (.type "FloatingPointError")) (.cons (.mk (HQ.hS w "OverflowError") (.str "OverflowError" 108) (.type "OverflowError")) (.cons (.mk (HQ.hS w "ZeroDivisionError") (.str "ZeroDivisionError" 109) (.type "ZeroDivisionError")) (.cons (.mk (HQ.hS w "BytesWarning") (.str "BytesWarning" 110) (.type "BytesWarning")) (.cons (.mk (HQ.hS w "DeprecationWarning") (.str "DeprecationWarning" 111) (.type "DeprecationWarning")) (.cons (.mk (HQ.hS w "EncodingWarning") (.str "EncodingWarning" 112) (.type "EncodingWarning")) (.cons (.mk (HQ.hS w "FutureWarning") (.str "FutureWarning" 113) (.type "FutureWarning")) (.cons (.mk (HQ.hS w "ImportWarning") (.str "ImportWarning" 114) (.type "ImportWarning")) (.cons (.mk (HQ.hS w "PendingDeprecationWarning") (.str "PendingDeprecationWarning" 115) (.type "PendingDeprecationWarning")) (.cons (.mk (HQ.hS w "ResourceWarning") (.str "ResourceWarning" 116) (.type "ResourceWarning")) (.cons (.mk (HQ.hS w "RuntimeWarning") (.str "RuntimeWarning" 117) (.type "RuntimeWarning")) (.cons (.mk (HQ.hS w "SyntaxWarning") (.str "SyntaxWarning" 118) (.type "SyntaxWarning")) (.cons (.mk (HQ.hS w "UnicodeWarning") (.str "UnicodeWarning" 119) (.type "UnicodeWarning")) (.cons (.mk (HQ.hS w "UserWarning") (.str "UserWarning" 120) (.type "UserWarning")) (.cons (.mk (HQ.hS w "BlockingIOError") (.str "BlockingIOError" 121) (.type "BlockingIOError")) (.cons (.mk (HQ.hS w "ChildProcessError") (.str "ChildProcessError" 122) (.type "ChildProcessError")) (.cons (.mk (HQ.hS w "ConnectionError") (.str "ConnectionError" 123) (.type "ConnectionError")) (.cons (.mk (HQ.hS w "FileExistsError") (.str "FileExistsError" 124) (.type "FileExistsError")) (.cons (.mk (HQ.hS w "FileNotFoundError") (.str "FileNotFoundError" 125) (.type "FileNotFoundError")) (.cons (.mk (HQ.hS w "InterruptedError") (.str "InterruptedError" 126) (.type "InterruptedError")) (.cons (.mk (HQ.hS w "IsADirectoryError") (.str "IsADirectoryError" 127) (.type "IsADirectoryError")) (.cons (.mk (HQ.hS w "NotADirectoryError") (.str "NotADirectoryError" 128) (.type "NotADirectoryError")) (.cons (.mk (HQ.hS w "PermissionError") (.str "PermissionError" 129) (.type "PermissionError")) (.cons (.mk (HQ.hS w "ProcessLookupError") (.str "ProcessLookupError" 130) (.type "ProcessLookupError")) (.cons (.mk (HQ.hS w "TimeoutError") (.str "TimeoutError" 131) (.type "TimeoutError")) (.cons (.mk (HQ.hS w "IndentationError") (.str "IndentationError" 132) (.type "IndentationError")) (.cons (.mk (HQ.hS w "_IncompleteInputError") (.str "_IncompleteInputError" 133) (.type "_IncompleteInputError")) (.cons (.mk (HQ.hS w "IndexError") (.str "IndexError" 134) (.type "IndexError")) (.cons (.mk (HQ.hS w "KeyError") (.str "KeyError" 135) (.type "KeyError")) (.cons (.mk (HQ.hS w "ModuleNotFoundError") (.str "ModuleNotFoundError" 136) (.type "ModuleNotFoundError")) (.cons (.mk (HQ.hS w "NotImplementedError") (.str "NotImplementedError" 137) (.type "NotImplementedError")) (.cons (.mk (HQ.hS w "PythonFinalizationError") (.str "PythonFinalizationError" 138) (.type "PythonFinalizationError")) (.cons (.mk (HQ.hS w "RecursionError") (.str "RecursionError" 139) (.type "RecursionError")) (.cons (.mk (HQ.hS w "UnboundLocalError") (.str "UnboundLocalError" 140) (.type "UnboundLocalError")) (.cons (.mk (HQ.hS w "UnicodeError") (.str "UnicodeError" 141) (.type "UnicodeError")) (.cons (.mk (HQ.hS w "BrokenPipeError") (.str "BrokenPipeError" 142) (.type "BrokenPipeError")) (.cons (.mk (HQ.hS w "ConnectionAbortedError") (.str "ConnectionAbortedError" 143) (.type "ConnectionAbortedError")) (.cons (.mk (HQ.hS w "ConnectionRefusedError") (.str "ConnectionRefusedError" 144) (.type "ConnectionRefusedError")) (.cons (.mk (HQ.hS w "ConnectionResetError") (.str "ConnectionResetError" 145) (.type "ConnectionResetError")) (.cons (.mk (HQ.hS w "TabError") (.str "TabError" 146) (.type "TabError")) (.cons (.mk (HQ.hS w "UnicodeDecodeError") (.str "UnicodeDecodeError" 147) (.type "UnicodeDecodeError")) (.cons (.mk (HQ.hS w "UnicodeEncodeError") (.str "UnicodeEncodeError" 148) (.type "UnicodeEncodeError")) (.cons (.mk (HQ.hS w "UnicodeTranslateError") (.str "UnicodeTranslateError" 149) (.type "UnicodeTranslateError")) (.cons (.mk (HQ.hS w "ExceptionGroup") (.str "ExceptionGroup" 150) (.type "ExceptionGroup")) (.cons (.mk (HQ.hS w "EnvironmentError") (.str "EnvironmentError" 151) (.type "OSError")) (.cons (.mk (HQ.hS w "IOError") (.str "IOError" 152) (.type "OSError")) (.cons (.mk (HQ.hS w "open") (.str "open" 153) (.builtin "open")) (.cons (.mk (HQ.hS w "quit") (.str "quit" 154) (.builtin "builtins.quit#opaque")) (.cons (.mk (HQ.hS w "exit") (.str "exit" 155) (.builtin "builtins.exit#opaque")) (.cons (.mk (HQ.hS w "copyright") (.str "copyright" 156) (.builtin "builtins.copyright#opaque")) (.cons (.mk (HQ.hS w "credits") (.str "credits" 157) (.builtin "builtins.credits#opaque")) (.cons (.mk (HQ.hS w "license") (.str "license" 158) (.builtin "builtins.license#opaque")) (.cons (.mk (HQ.hS w "help") (.str "help" 159) (.builtin "builtins.help#opaque")) [])))))))))))))))))))))))))))))))))))))))))))))))))))))))))))))))))))))))))))))))))))))))))))))))))))))))))))))))))))))))))))))))))))))))))))))))))))))))))))))))) 159) (.mk []))
def o1_1 (w : World) : Obj := (.mk (.type "dict") none (.dict (.mk [(.mk (HQ.hS w "builtins") (.str "builtins" 162) (.ref 4)), (.mk (HQ.hS w "__main__") (.str "__main__" 163) (.ref 5))]) 2) (.mk []))
def o1_2 (w : World) : Obj := (.mk .none none (.dict (.mk []) 0) (.mk []))
def o1_3 (w : World) : Obj := (.mk (.type "dict") none (.dict (.mk [(.mk (HQ.hS w "__name__") (.str "__name__" 165) (.str "haulprices.errors" 187)), (.mk (HQ.hS w "__doc__") (.str "__doc__" 166) .none), (.mk (HQ.hS w "__package__") (.str "__package__" 167) .none), (.mk (HQ.hS w "__loader__") (.str "__loader__" 168) (.builtin "__main__.__loader__#opaque")), (.mk (HQ.hS w "__spec__") (.str "__spec__" 169) .none), (.mk (HQ.hS w "__annotations__") (.str "__annotations__" 170) (.ref 6)), (.mk (HQ.hS w "__builtins__") (.str "__builtins__" 171) (.ref 4)), (.mk (HQ.hS w "__file__") (.str "__file__" 173) (.str "/claim/cut.py" 172)), (.mk (HQ.hS w "__cached__") (.str "__cached__" 174) .none), (.mk (HQ.hS w "WrongValue") (.str "WrongValue" 206) (.ref 24)), (.mk (HQ.hS w "InvalidStops") (.str "InvalidStops" 231) (.ref 44)), (.mk (HQ.hS w "InvalidHaul") (.str "InvalidHaul" 256) (.ref 63)), (.mk (HQ.hS w "InvalidPrice") (.str "InvalidPrice" 281) (.ref 82)), (.mk (HQ.hS w "InvalidRules") (.str "InvalidRules" 306) (.ref 101)), (.mk (HQ.hS w "InvalidText") (.str "InvalidText" 331) (.ref 120)), (.mk (HQ.hS w "InvalidLength") (.str "InvalidLength" 356) (.ref 139)), (.mk (HQ.hS w "InvalidCoin") (.str "InvalidCoin" 381) (.ref 158)), (.mk (HQ.hS w "InvalidName") (.str "InvalidName" 406) (.ref 177)), (.mk (HQ.hS w "InvalidWish") (.str "InvalidWish" 431) (.ref 196)), (.mk (HQ.hS w "InvalidIndex") (.str "InvalidIndex" 456) (.ref 215))]) 20) (.mk []))
def o1_4 (w : World) : Obj := (.mk (.type "module") (some 0) .plain (.mk []))
def o1_5 (w : World) : Obj := (.mk (.type "module") (some 3) .plain (.mk []))
def o1_6 (w : World) : Obj := (.mk (.type "dict") none (.dict (.mk []) 0) (.mk []))
def o1_7 (w : World) : Obj := (.mk (.type "tuple") none (.seq (.mk []) 0) (.mk []))
def o1_8 (w : World) : Obj := (.mk .none none (.fields (.mk [])) (.mk []))
def o1_9 (w : World) : Obj := (.mk (.type "code") none (.fields (.mk [(.str "<module>" 176), (.str "<module>" 177), (.str "/claim/cut.py" 178), (.int (Int.ofNat 1) 0), (.int (Int.ofNat 0) 0), (.int (Int.ofNat 0) 0), (.int (Int.ofNat 0) 0), (.int (Int.ofNat 0) 0), (.ref 7), (.bool false), (.int (Int.ofNat 175) 0), (.ref 8), .none, .none, .none, .none, (.int (Int.ofNat 179) 0), (.int (Int.ofNat 1) 0), (.str "/claim/cut.py" 180)])) (.mk []))
def o1_10 (w : World) : Obj := (.mk (.type "frame") none .plain (.mk [(some (.ref 9)), (some (.ref 3)), (some (.ref 3)), none, (some (.str "__main__" 164)), none, (some (.ref 0))]))
def o1_11 (w : World) : Obj := (.mk (.type "tuple") none (.seq (.mk []) 0) (.mk []))
def o1_12 (w : World) : Obj := (.mk .none none (.fields (.mk (.cons (.int (Int.ofNat 2) 0) (.cons (.int (Int.ofNat 0) 0) (.cons (.ref 20) (.cons (.int (Int.ofNat 4) 0) (.cons (.int (Int.ofNat 0) 0) (.cons (.ref 33) (.cons (.int (Int.ofNat 8) 0) (.cons (.int (Int.ofNat 0) 0) (.cons (.ref 52) (.cons (.int (Int.ofNat 12) 0) (.cons (.int (Int.ofNat 0) 0) (.cons (.ref 71) (.cons (.int (Int.ofNat 16) 0) (.cons (.int (Int.ofNat 0) 0) (.cons (.ref 90) (.cons (.int (Int.ofNat 20) 0) (.cons (.int (Int.ofNat 0) 0) (.cons (.ref 109) (.cons (.int (Int.ofNat 24) 0) (.cons (.int (Int.ofNat 0) 0) (.cons (.ref 128) (.cons (.int (Int.ofNat 28) 0) (.cons (.int (Int.ofNat 0) 0) (.cons (.ref 147) (.cons (.int (Int.ofNat 32) 0) (.cons (.int (Int.ofNat 0) 0) (.cons (.ref 166) (.cons (.int (Int.ofNat 36) 0) (.cons (.int (Int.ofNat 0) 0) (.cons (.ref 185) (.cons (.int (Int.ofNat 40) 0) (.cons (.int (Int.ofNat 0) 0) (.cons (.ref 204) []))))))))))))))))))))))))))))))))))) (.mk []))
def o1_13 (w : World) : Obj := (.mk (.type "code") none (.fields (.mk [(.str "<module>" 182), (.str "<module>" 183), (.str "/claim/cut.py" 184), (.int (Int.ofNat 1) 0), (.int (Int.ofNat 0) 0), (.int (Int.ofNat 0) 0), (.int (Int.ofNat 0) 0), (.int (Int.ofNat 0) 0), (.ref 11), (.bool false), (.int (Int.ofNat 181) 0), (.ref 12), .none, .none, .none, .none, (.int (Int.ofNat 185) 0), (.int (Int.ofNat 1) 0), (.str "/claim/cut.py" 186)])) (.mk []))
def o1_14 (w : World) : Obj := (.mk (.type "frame") none .plain (.mk [(some (.ref 13)), (some (.ref 3)), (some (.ref 3)), none, (some (.str "__main__" 164)), none, (some (.ref 0))]))
def o1_15 (w : World) : Obj := (.mk (.type "tuple") none (.seq (.mk [(.type "ValueError")]) 0) (.mk []))
def o1_16 (w : World) : Obj := (.mk (.type "builtin_function_or_method") none (.fields (.mk [(.builtin "type.__prepare__"), (.type "type")])) (.mk []))
def o1_17 (w : World) : Obj := (.mk (.type "dict") none (.dict (.mk [(.mk (HQ.hS w "__module__") (.str "__module__" 196) (.str "haulprices.errors" 187)), (.mk (HQ.hS w "__qualname__") (.str "__qualname__" 198) (.str "WrongValue" 197)), (.mk (HQ.hS w "__firstlineno__") (.str "__firstlineno__" 200) (.int (Int.ofNat 2) 199)), (.mk (HQ.hS w "__static_attributes__") (.str "__static_attributes__" 201) (.ref 22))]) 4) (.mk []))
def o1_18 (w : World) : Obj := (.mk (.type "tuple") none (.seq (.mk []) 0) (.mk []))
def o1_19 (w : World) : Obj := (.mk .none none (.fields (.mk [])) (.mk []))
def o1_20 (w : World) : Obj := (.mk (.type "code") none (.fields (.mk [(.str "WrongValue" 191), (.str "WrongValue" 192), (.str "/claim/cut.py" 193), (.int (Int.ofNat 2) 0), (.int (Int.ofNat 0) 0), (.int (Int.ofNat 0) 0), (.int (Int.ofNat 0) 0), (.int (Int.ofNat 0) 0), (.ref 18), (.bool false), (.int (Int.ofNat 181) 0), (.ref 19), .none, .none, .none, .none, (.int (Int.ofNat 194) 0), (.int (Int.ofNat 2) 0), (.str "/claim/cut.py" 195)])) (.mk []))
def o1_21 (w : World) : Obj := (.mk (.type "frame") none .plain (.mk [(some (.ref 20)), (some (.ref 3)), (some (.ref 17)), none, (some (.str "haulprices.errors" 187)), none, (some (.ref 0))]))
def o1_22 (w : World) : Obj := (.mk (.type "tuple") none (.seq (.mk []) 0) (.mk []))
def o1_23 (w : World) : Obj := (.mk (.type "dict") none (.dict (.mk [(.mk (HQ.hS w "__module__") (.str "__module__" 196) (.str "haulprices.errors" 187)), (.mk (HQ.hS w "__firstlineno__") (.str "__firstlineno__" 200) (.int (Int.ofNat 2) 199)), (.mk (HQ.hS w "__static_attributes__") (.str "__static_attributes__" 201) (.ref 22)), (.mk (HQ.hS w "__weakref__") (.str "__weakref__" 203) (.ref 25)), (.mk (HQ.hS w "__doc__") (.str "__doc__" 204) .none)]) 3) (.mk []))
def o1_24 (w : World) : Obj := (.mk (.type "type") none (.cls (PySem.ClassData.mk "WrongValue" [(.type "ValueError")] [(.ref 24), (.type "ValueError"), (.type "Exception"), (.type "BaseException"), (.type "object")] 23 "WrongValue" true [] [(.ref 44), (.ref 63), (.ref 82), (.ref 101), (.ref 120), (.ref 139), (.ref 158), (.ref 177), (.ref 196), (.ref 215)] false none false)) (.mk [(some (.ref 15)), none, (some (.str "WrongValue" 189)), (some (.str "WrongValue" 197)), (some (.builtin "ValueError.__new__")), (some (.bool true))]))
def o1_25 (w : World) : Obj := (.mk (.type "getset_descriptor") none (.fields (.mk [(.str "__weakref__" 202), (.ref 24), (.builtin "ExceptionGroup.__weakref__"), .none])) (.mk []))
def o1_26 (w : World) : Obj := (.mk (.type "super") none (.fields (.mk [(.ref 24), (.ref 24), (.ref 24)])) (.mk []))
def o1_27 (w : World) : Obj := (.mk (.type "builtin_function_or_method") none (.fields (.mk [(.builtin "object.__init_subclass__"), (.ref 24)])) (.mk []))
def o1_28 (w : World) : Obj := (.mk (.type "tuple") none (.seq (.mk [(.ref 24)]) 0) (.mk []))
def o1_29 (w : World) : Obj := (.mk (.type "builtin_function_or_method") none (.fields (.mk [(.builtin "type.__prepare__"), (.type "type")])) (.mk []))
def o1_30 (w : World) : Obj := (.mk (.type "dict") none (.dict (.mk [(.mk (HQ.hS w "__module__") (.str "__module__" 214) (.str "haulprices.errors" 187)), (.mk (HQ.hS w "__qualname__") (.str "__qualname__" 216) (.str "InvalidStops" 215)), (.mk (HQ.hS w "__firstlineno__") (.str "__firstlineno__" 218) (.int (Int.ofNat 4) 217)), (.mk (HQ.hS w "__init__") (.str "__init__" 226) (.ref 41)), (.mk (HQ.hS w "__static_attributes__") (.str "__static_attributes__" 228) (.ref 42))]) 5) (.mk []))
def o1_31 (w : World) : Obj := (.mk (.type "tuple") none (.seq (.mk []) 0) (.mk []))
def o1_32 (w : World) : Obj := (.mk .none none (.fields (.mk [(.int (Int.ofNat 6) 0), (.int (Int.ofNat 4) 0), (.ref 40)])) (.mk []))
def o1_33 (w : World) : Obj := (.mk (.type "code") none (.fields (.mk [(.str "InvalidStops" 209), (.str "InvalidStops" 210), (.str "/claim/cut.py" 211), (.int (Int.ofNat 4) 0), (.int (Int.ofNat 0) 0), (.int (Int.ofNat 0) 0), (.int (Int.ofNat 0) 0), (.int (Int.ofNat 0) 0), (.ref 31), (.bool false), (.int (Int.ofNat 181) 0), (.ref 32), .none, .none, .none, .none, (.int (Int.ofNat 212) 0), (.int (Int.ofNat 4) 0), (.str "/claim/cut.py" 213)])) (.mk []))
def o1_34 (w : World) : Obj := (.mk (.type "frame") none .plain (.mk [(some (.ref 33)), (some (.ref 3)), (some (.ref 30)), none, (some (.str "haulprices.errors" 187)), none, (some (.ref 0))]))
def o1_35 (w : World) : Obj := (.mk (.type "tuple") none (.seq (.mk []) 0) (.mk []))
def o1_36 (w : World) : Obj := (.mk .none none (.fields (.mk [])) (.mk []))
def o1_37 (w : World) : Obj := (.mk (.type "tuple") none (.seq (.mk [(.str "self" 222), (.str "given" 223)]) 0) (.mk []))
def o1_38 (w : World) : Obj := (.mk (.type "tuple") none (.seq (.mk []) 0) (.mk []))
def o1_39 (w : World) : Obj := (.mk .none none (.func (FuncData.mk "__init__" "InvalidStops.__init__" (L2.defArgs ((MP.clsB (HP.top 2)).getD 0 (.Pass ⟨0, 0, 0, 0⟩))) (FuncBody.stmts (L2.defBody ((MP.clsB (HP.top 2)).getD 0 (.Pass ⟨0, 0, 0, 0⟩)))) (L2.defScope ((MP.clsB (HP.top 2)).getD 0 (.Pass ⟨0, 0, 0, 0⟩))) 0 [] .none .none .none .none none .none .none 0)) (.mk []))
def o1_40 (w : World) : Obj := (.mk (.type "code") none (.fields (.mk [(.str "__init__" 219), (.str "InvalidStops.__init__" 220), (.str "/claim/cut.py" 221), (.int (Int.ofNat 6) 0), (.int (Int.ofNat 2) 0), (.int (Int.ofNat 0) 0), (.int (Int.ofNat 0) 0), (.int (Int.ofNat 3) 0), (.ref 35), (.bool true), (.int (Int.ofNat 181) 0), (.ref 36), .none, (.ref 37), (.ref 38), (.ref 39), (.int (Int.ofNat 224) 0), (.int (Int.ofNat 6) 0), (.str "/claim/cut.py" 225)])) (.mk []))
def o1_41 (w : World) : Obj := (.mk (.type "function") none (.func (FuncData.mk "__init__" "InvalidStops.__init__" (L2.defArgs ((MP.clsB (HP.top 2)).getD 0 (.Pass ⟨0, 0, 0, 0⟩))) (FuncBody.stmts (L2.defBody ((MP.clsB (HP.top 2)).getD 0 (.Pass ⟨0, 0, 0, 0⟩)))) (L2.defScope ((MP.clsB (HP.top 2)).getD 0 (.Pass ⟨0, 0, 0, 0⟩))) 3 [] .none .none .none (.str "haulprices.errors" 187) none (.ref 40) .none 0)) (.mk []))
def o1_42 (w : World) : Obj := (.mk (.type "tuple") none (.seq (.mk [(.str "given" 227)]) 0) (.mk []))
def o1_43 (w : World) : Obj := (.mk (.type "dict") none (.dict (.mk [(.mk (HQ.hS w "__module__") (.str "__module__" 214) (.str "haulprices.errors" 187)), (.mk (HQ.hS w "__firstlineno__") (.str "__firstlineno__" 218) (.int (Int.ofNat 4) 217)), (.mk (HQ.hS w "__init__") (.str "__init__" 226) (.ref 41)), (.mk (HQ.hS w "__static_attributes__") (.str "__static_attributes__" 228) (.ref 42)), (.mk (HQ.hS w "__doc__") (.str "__doc__" 229) .none)]) 2) (.mk []))
def o1_44 (w : World) : Obj := (.mk (.type "type") none (.cls (PySem.ClassData.mk "InvalidStops" [(.ref 24)] [(.ref 44), (.ref 24), (.type "ValueError"), (.type "Exception"), (.type "BaseException"), (.type "object")] 43 "InvalidStops" true [] [] false none false)) (.mk [(some (.ref 28)), none, (some (.str "InvalidStops" 207)), (some (.str "InvalidStops" 215)), (some (.builtin "ValueError.__new__")), (some (.bool true))]))
def o1_45 (w : World) : Obj := (.mk (.type "super") none (.fields (.mk [(.ref 44), (.ref 44), (.ref 44)])) (.mk []))
def o1_46 (w : World) : Obj := (.mk (.type "builtin_function_or_method") none (.fields (.mk [(.builtin "object.__init_subclass__"), (.ref 44)])) (.mk []))
def o1_47 (w : World) : Obj := (.mk (.type "tuple") none (.seq (.mk [(.ref 24)]) 0) (.mk []))
def o1_48 (w : World) : Obj := (.mk (.type "builtin_function_or_method") none (.fields (.mk [(.builtin "type.__prepare__"), (.type "type")])) (.mk []))
def o1_49 (w : World) : Obj := (.mk (.type "dict") none (.dict (.mk [(.mk (HQ.hS w "__module__") (.str "__module__" 239) (.str "haulprices.errors" 187)), (.mk (HQ.hS w "__qualname__") (.str "__qualname__" 241) (.str "InvalidHaul" 240)), (.mk (HQ.hS w "__firstlineno__") (.str "__firstlineno__" 243) (.int (Int.ofNat 8) 242)), (.mk (HQ.hS w "__init__") (.str "__init__" 251) (.ref 60)), (.mk (HQ.hS w "__static_attributes__") (.str "__static_attributes__" 253) (.ref 61))]) 5) (.mk []))
def o1_50 (w : World) : Obj := (.mk (.type "tuple") none (.seq (.mk []) 0) (.mk []))
def o1_51 (w : World) : Obj := (.mk .none none (.fields (.mk [(.int (Int.ofNat 10) 0), (.int (Int.ofNat 4) 0), (.ref 59)])) (.mk []))
def o1_52 (w : World) : Obj := (.mk (.type "code") none (.fields (.mk [(.str "InvalidHaul" 234), (.str "InvalidHaul" 235), (.str "/claim/cut.py" 236), (.int (Int.ofNat 8) 0), (.int (Int.ofNat 0) 0), (.int (Int.ofNat 0) 0), (.int (Int.ofNat 0) 0), (.int (Int.ofNat 0) 0), (.ref 50), (.bool false), (.int (Int.ofNat 181) 0), (.ref 51), .none, .none, .none, .none, (.int (Int.ofNat 237) 0), (.int (Int.ofNat 8) 0), (.str "/claim/cut.py" 238)])) (.mk []))
def o1_53 (w : World) : Obj := (.mk (.type "frame") none .plain (.mk [(some (.ref 52)), (some (.ref 3)), (some (.ref 49)), none, (some (.str "haulprices.errors" 187)), none, (some (.ref 0))]))
def o1_54 (w : World) : Obj := (.mk (.type "tuple") none (.seq (.mk []) 0) (.mk []))
def o1_55 (w : World) : Obj := (.mk .none none (.fields (.mk [])) (.mk []))
def o1_56 (w : World) : Obj := (.mk (.type "tuple") none (.seq (.mk [(.str "self" 247), (.str "given" 248)]) 0) (.mk []))
def o1_57 (w : World) : Obj := (.mk (.type "tuple") none (.seq (.mk []) 0) (.mk []))
def o1_58 (w : World) : Obj := (.mk .none none (.func (FuncData.mk "__init__" "InvalidHaul.__init__" (L2.defArgs ((MP.clsB (HP.top 3)).getD 0 (.Pass ⟨0, 0, 0, 0⟩))) (FuncBody.stmts (L2.defBody ((MP.clsB (HP.top 3)).getD 0 (.Pass ⟨0, 0, 0, 0⟩)))) (L2.defScope ((MP.clsB (HP.top 3)).getD 0 (.Pass ⟨0, 0, 0, 0⟩))) 0 [] .none .none .none .none none .none .none 0)) (.mk []))
def o1_59 (w : World) : Obj := (.mk (.type "code") none (.fields (.mk [(.str "__init__" 244), (.str "InvalidHaul.__init__" 245), (.str "/claim/cut.py" 246), (.int (Int.ofNat 10) 0), (.int (Int.ofNat 2) 0), (.int (Int.ofNat 0) 0), (.int (Int.ofNat 0) 0), (.int (Int.ofNat 3) 0), (.ref 54), (.bool true), (.int (Int.ofNat 181) 0), (.ref 55), .none, (.ref 56), (.ref 57), (.ref 58), (.int (Int.ofNat 249) 0), (.int (Int.ofNat 10) 0), (.str "/claim/cut.py" 250)])) (.mk []))
def o1_60 (w : World) : Obj := (.mk (.type "function") none (.func (FuncData.mk "__init__" "InvalidHaul.__init__" (L2.defArgs ((MP.clsB (HP.top 3)).getD 0 (.Pass ⟨0, 0, 0, 0⟩))) (FuncBody.stmts (L2.defBody ((MP.clsB (HP.top 3)).getD 0 (.Pass ⟨0, 0, 0, 0⟩)))) (L2.defScope ((MP.clsB (HP.top 3)).getD 0 (.Pass ⟨0, 0, 0, 0⟩))) 3 [] .none .none .none (.str "haulprices.errors" 187) none (.ref 59) .none 0)) (.mk []))
def o1_61 (w : World) : Obj := (.mk (.type "tuple") none (.seq (.mk [(.str "given" 252)]) 0) (.mk []))
def o1_62 (w : World) : Obj := (.mk (.type "dict") none (.dict (.mk [(.mk (HQ.hS w "__module__") (.str "__module__" 239) (.str "haulprices.errors" 187)), (.mk (HQ.hS w "__firstlineno__") (.str "__firstlineno__" 243) (.int (Int.ofNat 8) 242)), (.mk (HQ.hS w "__init__") (.str "__init__" 251) (.ref 60)), (.mk (HQ.hS w "__static_attributes__") (.str "__static_attributes__" 253) (.ref 61)), (.mk (HQ.hS w "__doc__") (.str "__doc__" 254) .none)]) 2) (.mk []))
def o1_63 (w : World) : Obj := (.mk (.type "type") none (.cls (PySem.ClassData.mk "InvalidHaul" [(.ref 24)] [(.ref 63), (.ref 24), (.type "ValueError"), (.type "Exception"), (.type "BaseException"), (.type "object")] 62 "InvalidHaul" true [] [] false none false)) (.mk [(some (.ref 47)), none, (some (.str "InvalidHaul" 232)), (some (.str "InvalidHaul" 240)), (some (.builtin "ValueError.__new__")), (some (.bool true))]))
def o1_64 (w : World) : Obj := (.mk (.type "super") none (.fields (.mk [(.ref 63), (.ref 63), (.ref 63)])) (.mk []))
def o1_65 (w : World) : Obj := (.mk (.type "builtin_function_or_method") none (.fields (.mk [(.builtin "object.__init_subclass__"), (.ref 63)])) (.mk []))
def o1_66 (w : World) : Obj := (.mk (.type "tuple") none (.seq (.mk [(.ref 24)]) 0) (.mk []))
def o1_67 (w : World) : Obj := (.mk (.type "builtin_function_or_method") none (.fields (.mk [(.builtin "type.__prepare__"), (.type "type")])) (.mk []))
def o1_68 (w : World) : Obj := (.mk (.type "dict") none (.dict (.mk [(.mk (HQ.hS w "__module__") (.str "__module__" 264) (.str "haulprices.errors" 187)), (.mk (HQ.hS w "__qualname__") (.str "__qualname__" 266) (.str "InvalidPrice" 265)), (.mk (HQ.hS w "__firstlineno__") (.str "__firstlineno__" 268) (.int (Int.ofNat 12) 267)), (.mk (HQ.hS w "__init__") (.str "__init__" 276) (.ref 79)), (.mk (HQ.hS w "__static_attributes__") (.str "__static_attributes__" 278) (.ref 80))]) 5) (.mk []))
def o1_69 (w : World) : Obj := (.mk (.type "tuple") none (.seq (.mk []) 0) (.mk []))
def o1_70 (w : World) : Obj := (.mk .none none (.fields (.mk [(.int (Int.ofNat 14) 0), (.int (Int.ofNat 4) 0), (.ref 78)])) (.mk []))
def o1_71 (w : World) : Obj := (.mk (.type "code") none (.fields (.mk [(.str "InvalidPrice" 259), (.str "InvalidPrice" 260), (.str "/claim/cut.py" 261), (.int (Int.ofNat 12) 0), (.int (Int.ofNat 0) 0), (.int (Int.ofNat 0) 0), (.int (Int.ofNat 0) 0), (.int (Int.ofNat 0) 0), (.ref 69), (.bool false), (.int (Int.ofNat 181) 0), (.ref 70), .none, .none, .none, .none, (.int (Int.ofNat 262) 0), (.int (Int.ofNat 12) 0), (.str "/claim/cut.py" 263)])) (.mk []))
def o1_72 (w : World) : Obj := (.mk (.type "frame") none .plain (.mk [(some (.ref 71)), (some (.ref 3)), (some (.ref 68)), none, (some (.str "haulprices.errors" 187)), none, (some (.ref 0))]))
def o1_73 (w : World) : Obj := (.mk (.type "tuple") none (.seq (.mk []) 0) (.mk []))
def o1_74 (w : World) : Obj := (.mk .none none (.fields (.mk [])) (.mk []))
def o1_75 (w : World) : Obj := (.mk (.type "tuple") none (.seq (.mk [(.str "self" 272), (.str "given" 273)]) 0) (.mk []))
def o1_76 (w : World) : Obj := (.mk (.type "tuple") none (.seq (.mk []) 0) (.mk []))
def o1_77 (w : World) : Obj := (.mk .none none (.func (FuncData.mk "__init__" "InvalidPrice.__init__" (L2.defArgs ((MP.clsB (HP.top 4)).getD 0 (.Pass ⟨0, 0, 0, 0⟩))) (FuncBody.stmts (L2.defBody ((MP.clsB (HP.top 4)).getD 0 (.Pass ⟨0, 0, 0, 0⟩)))) (L2.defScope ((MP.clsB (HP.top 4)).getD 0 (.Pass ⟨0, 0, 0, 0⟩))) 0 [] .none .none .none .none none .none .none 0)) (.mk []))
def o1_78 (w : World) : Obj := (.mk (.type "code") none (.fields (.mk [(.str "__init__" 269), (.str "InvalidPrice.__init__" 270), (.str "/claim/cut.py" 271), (.int (Int.ofNat 14) 0), (.int (Int.ofNat 2) 0), (.int (Int.ofNat 0) 0), (.int (Int.ofNat 0) 0), (.int (Int.ofNat 3) 0), (.ref 73), (.bool true), (.int (Int.ofNat 181) 0), (.ref 74), .none, (.ref 75), (.ref 76), (.ref 77), (.int (Int.ofNat 274) 0), (.int (Int.ofNat 14) 0), (.str "/claim/cut.py" 275)])) (.mk []))
def o1_79 (w : World) : Obj := (.mk (.type "function") none (.func (FuncData.mk "__init__" "InvalidPrice.__init__" (L2.defArgs ((MP.clsB (HP.top 4)).getD 0 (.Pass ⟨0, 0, 0, 0⟩))) (FuncBody.stmts (L2.defBody ((MP.clsB (HP.top 4)).getD 0 (.Pass ⟨0, 0, 0, 0⟩)))) (L2.defScope ((MP.clsB (HP.top 4)).getD 0 (.Pass ⟨0, 0, 0, 0⟩))) 3 [] .none .none .none (.str "haulprices.errors" 187) none (.ref 78) .none 0)) (.mk []))
def o1_80 (w : World) : Obj := (.mk (.type "tuple") none (.seq (.mk [(.str "given" 277)]) 0) (.mk []))
def o1_81 (w : World) : Obj := (.mk (.type "dict") none (.dict (.mk [(.mk (HQ.hS w "__module__") (.str "__module__" 264) (.str "haulprices.errors" 187)), (.mk (HQ.hS w "__firstlineno__") (.str "__firstlineno__" 268) (.int (Int.ofNat 12) 267)), (.mk (HQ.hS w "__init__") (.str "__init__" 276) (.ref 79)), (.mk (HQ.hS w "__static_attributes__") (.str "__static_attributes__" 278) (.ref 80)), (.mk (HQ.hS w "__doc__") (.str "__doc__" 279) .none)]) 2) (.mk []))
def o1_82 (w : World) : Obj := (.mk (.type "type") none (.cls (PySem.ClassData.mk "InvalidPrice" [(.ref 24)] [(.ref 82), (.ref 24), (.type "ValueError"), (.type "Exception"), (.type "BaseException"), (.type "object")] 81 "InvalidPrice" true [] [] false none false)) (.mk [(some (.ref 66)), none, (some (.str "InvalidPrice" 257)), (some (.str "InvalidPrice" 265)), (some (.builtin "ValueError.__new__")), (some (.bool true))]))
def o1_83 (w : World) : Obj := (.mk (.type "super") none (.fields (.mk [(.ref 82), (.ref 82), (.ref 82)])) (.mk []))
def o1_84 (w : World) : Obj := (.mk (.type "builtin_function_or_method") none (.fields (.mk [(.builtin "object.__init_subclass__"), (.ref 82)])) (.mk []))
def o1_85 (w : World) : Obj := (.mk (.type "tuple") none (.seq (.mk [(.ref 24)]) 0) (.mk []))
def o1_86 (w : World) : Obj := (.mk (.type "builtin_function_or_method") none (.fields (.mk [(.builtin "type.__prepare__"), (.type "type")])) (.mk []))
def o1_87 (w : World) : Obj := (.mk (.type "dict") none (.dict (.mk [(.mk (HQ.hS w "__module__") (.str "__module__" 289) (.str "haulprices.errors" 187)), (.mk (HQ.hS w "__qualname__") (.str "__qualname__" 291) (.str "InvalidRules" 290)), (.mk (HQ.hS w "__firstlineno__") (.str "__firstlineno__" 293) (.int (Int.ofNat 16) 292)), (.mk (HQ.hS w "__init__") (.str "__init__" 301) (.ref 98)), (.mk (HQ.hS w "__static_attributes__") (.str "__static_attributes__" 303) (.ref 99))]) 5) (.mk []))
def o1_88 (w : World) : Obj := (.mk (.type "tuple") none (.seq (.mk []) 0) (.mk []))
def o1_89 (w : World) : Obj := (.mk .none none (.fields (.mk [(.int (Int.ofNat 18) 0), (.int (Int.ofNat 4) 0), (.ref 97)])) (.mk []))
def o1_90 (w : World) : Obj := (.mk (.type "code") none (.fields (.mk [(.str "InvalidRules" 284), (.str "InvalidRules" 285), (.str "/claim/cut.py" 286), (.int (Int.ofNat 16) 0), (.int (Int.ofNat 0) 0), (.int (Int.ofNat 0) 0), (.int (Int.ofNat 0) 0), (.int (Int.ofNat 0) 0), (.ref 88), (.bool false), (.int (Int.ofNat 181) 0), (.ref 89), .none, .none, .none, .none, (.int (Int.ofNat 287) 0), (.int (Int.ofNat 16) 0), (.str "/claim/cut.py" 288)])) (.mk []))
def o1_91 (w : World) : Obj := (.mk (.type "frame") none .plain (.mk [(some (.ref 90)), (some (.ref 3)), (some (.ref 87)), none, (some (.str "haulprices.errors" 187)), none, (some (.ref 0))]))
def o1_92 (w : World) : Obj := (.mk (.type "tuple") none (.seq (.mk []) 0) (.mk []))
def o1_93 (w : World) : Obj := (.mk .none none (.fields (.mk [])) (.mk []))
def o1_94 (w : World) : Obj := (.mk (.type "tuple") none (.seq (.mk [(.str "self" 297), (.str "given" 298)]) 0) (.mk []))
def o1_95 (w : World) : Obj := (.mk (.type "tuple") none (.seq (.mk []) 0) (.mk []))
def o1_96 (w : World) : Obj := (.mk .none none (.func (FuncData.mk "__init__" "InvalidRules.__init__" (L2.defArgs ((MP.clsB (HP.top 5)).getD 0 (.Pass ⟨0, 0, 0, 0⟩))) (FuncBody.stmts (L2.defBody ((MP.clsB (HP.top 5)).getD 0 (.Pass ⟨0, 0, 0, 0⟩)))) (L2.defScope ((MP.clsB (HP.top 5)).getD 0 (.Pass ⟨0, 0, 0, 0⟩))) 0 [] .none .none .none .none none .none .none 0)) (.mk []))
def o1_97 (w : World) : Obj := (.mk (.type "code") none (.fields (.mk [(.str "__init__" 294), (.str "InvalidRules.__init__" 295), (.str "/claim/cut.py" 296), (.int (Int.ofNat 18) 0), (.int (Int.ofNat 2) 0), (.int (Int.ofNat 0) 0), (.int (Int.ofNat 0) 0), (.int (Int.ofNat 3) 0), (.ref 92), (.bool true), (.int (Int.ofNat 181) 0), (.ref 93), .none, (.ref 94), (.ref 95), (.ref 96), (.int (Int.ofNat 299) 0), (.int (Int.ofNat 18) 0), (.str "/claim/cut.py" 300)])) (.mk []))
def o1_98 (w : World) : Obj := (.mk (.type "function") none (.func (FuncData.mk "__init__" "InvalidRules.__init__" (L2.defArgs ((MP.clsB (HP.top 5)).getD 0 (.Pass ⟨0, 0, 0, 0⟩))) (FuncBody.stmts (L2.defBody ((MP.clsB (HP.top 5)).getD 0 (.Pass ⟨0, 0, 0, 0⟩)))) (L2.defScope ((MP.clsB (HP.top 5)).getD 0 (.Pass ⟨0, 0, 0, 0⟩))) 3 [] .none .none .none (.str "haulprices.errors" 187) none (.ref 97) .none 0)) (.mk []))
def o1_99 (w : World) : Obj := (.mk (.type "tuple") none (.seq (.mk [(.str "given" 302)]) 0) (.mk []))
def o1_100 (w : World) : Obj := (.mk (.type "dict") none (.dict (.mk [(.mk (HQ.hS w "__module__") (.str "__module__" 289) (.str "haulprices.errors" 187)), (.mk (HQ.hS w "__firstlineno__") (.str "__firstlineno__" 293) (.int (Int.ofNat 16) 292)), (.mk (HQ.hS w "__init__") (.str "__init__" 301) (.ref 98)), (.mk (HQ.hS w "__static_attributes__") (.str "__static_attributes__" 303) (.ref 99)), (.mk (HQ.hS w "__doc__") (.str "__doc__" 304) .none)]) 2) (.mk []))
def o1_101 (w : World) : Obj := (.mk (.type "type") none (.cls (PySem.ClassData.mk "InvalidRules" [(.ref 24)] [(.ref 101), (.ref 24), (.type "ValueError"), (.type "Exception"), (.type "BaseException"), (.type "object")] 100 "InvalidRules" true [] [] false none false)) (.mk [(some (.ref 85)), none, (some (.str "InvalidRules" 282)), (some (.str "InvalidRules" 290)), (some (.builtin "ValueError.__new__")), (some (.bool true))]))
def o1_102 (w : World) : Obj := (.mk (.type "super") none (.fields (.mk [(.ref 101), (.ref 101), (.ref 101)])) (.mk []))
def o1_103 (w : World) : Obj := (.mk (.type "builtin_function_or_method") none (.fields (.mk [(.builtin "object.__init_subclass__"), (.ref 101)])) (.mk []))
def o1_104 (w : World) : Obj := (.mk (.type "tuple") none (.seq (.mk [(.ref 24)]) 0) (.mk []))
def o1_105 (w : World) : Obj := (.mk (.type "builtin_function_or_method") none (.fields (.mk [(.builtin "type.__prepare__"), (.type "type")])) (.mk []))
def o1_106 (w : World) : Obj := (.mk (.type "dict") none (.dict (.mk [(.mk (HQ.hS w "__module__") (.str "__module__" 314) (.str "haulprices.errors" 187)), (.mk (HQ.hS w "__qualname__") (.str "__qualname__" 316) (.str "InvalidText" 315)), (.mk (HQ.hS w "__firstlineno__") (.str "__firstlineno__" 318) (.int (Int.ofNat 20) 317)), (.mk (HQ.hS w "__init__") (.str "__init__" 326) (.ref 117)), (.mk (HQ.hS w "__static_attributes__") (.str "__static_attributes__" 328) (.ref 118))]) 5) (.mk []))
def o1_107 (w : World) : Obj := (.mk (.type "tuple") none (.seq (.mk []) 0) (.mk []))
def o1_108 (w : World) : Obj := (.mk .none none (.fields (.mk [(.int (Int.ofNat 22) 0), (.int (Int.ofNat 4) 0), (.ref 116)])) (.mk []))
def o1_109 (w : World) : Obj := (.mk (.type "code") none (.fields (.mk [(.str "InvalidText" 309), (.str "InvalidText" 310), (.str "/claim/cut.py" 311), (.int (Int.ofNat 20) 0), (.int (Int.ofNat 0) 0), (.int (Int.ofNat 0) 0), (.int (Int.ofNat 0) 0), (.int (Int.ofNat 0) 0), (.ref 107), (.bool false), (.int (Int.ofNat 181) 0), (.ref 108), .none, .none, .none, .none, (.int (Int.ofNat 312) 0), (.int (Int.ofNat 20) 0), (.str "/claim/cut.py" 313)])) (.mk []))
def o1_110 (w : World) : Obj := (.mk (.type "frame") none .plain (.mk [(some (.ref 109)), (some (.ref 3)), (some (.ref 106)), none, (some (.str "haulprices.errors" 187)), none, (some (.ref 0))]))
def o1_111 (w : World) : Obj := (.mk (.type "tuple") none (.seq (.mk []) 0) (.mk []))
def o1_112 (w : World) : Obj := (.mk .none none (.fields (.mk [])) (.mk []))
def o1_113 (w : World) : Obj := (.mk (.type "tuple") none (.seq (.mk [(.str "self" 322), (.str "given" 323)]) 0) (.mk []))
def o1_114 (w : World) : Obj := (.mk (.type "tuple") none (.seq (.mk []) 0) (.mk []))
def o1_115 (w : World) : Obj := (.mk .none none (.func (FuncData.mk "__init__" "InvalidText.__init__" (L2.defArgs ((MP.clsB (HP.top 6)).getD 0 (.Pass ⟨0, 0, 0, 0⟩))) (FuncBody.stmts (L2.defBody ((MP.clsB (HP.top 6)).getD 0 (.Pass ⟨0, 0, 0, 0⟩)))) (L2.defScope ((MP.clsB (HP.top 6)).getD 0 (.Pass ⟨0, 0, 0, 0⟩))) 0 [] .none .none .none .none none .none .none 0)) (.mk []))
def o1_116 (w : World) : Obj := (.mk (.type "code") none (.fields (.mk [(.str "__init__" 319), (.str "InvalidText.__init__" 320), (.str "/claim/cut.py" 321), (.int (Int.ofNat 22) 0), (.int (Int.ofNat 2) 0), (.int (Int.ofNat 0) 0), (.int (Int.ofNat 0) 0), (.int (Int.ofNat 3) 0), (.ref 111), (.bool true), (.int (Int.ofNat 181) 0), (.ref 112), .none, (.ref 113), (.ref 114), (.ref 115), (.int (Int.ofNat 324) 0), (.int (Int.ofNat 22) 0), (.str "/claim/cut.py" 325)])) (.mk []))
def o1_117 (w : World) : Obj := (.mk (.type "function") none (.func (FuncData.mk "__init__" "InvalidText.__init__" (L2.defArgs ((MP.clsB (HP.top 6)).getD 0 (.Pass ⟨0, 0, 0, 0⟩))) (FuncBody.stmts (L2.defBody ((MP.clsB (HP.top 6)).getD 0 (.Pass ⟨0, 0, 0, 0⟩)))) (L2.defScope ((MP.clsB (HP.top 6)).getD 0 (.Pass ⟨0, 0, 0, 0⟩))) 3 [] .none .none .none (.str "haulprices.errors" 187) none (.ref 116) .none 0)) (.mk []))
def o1_118 (w : World) : Obj := (.mk (.type "tuple") none (.seq (.mk [(.str "given" 327)]) 0) (.mk []))
def o1_119 (w : World) : Obj := (.mk (.type "dict") none (.dict (.mk [(.mk (HQ.hS w "__module__") (.str "__module__" 314) (.str "haulprices.errors" 187)), (.mk (HQ.hS w "__firstlineno__") (.str "__firstlineno__" 318) (.int (Int.ofNat 20) 317)), (.mk (HQ.hS w "__init__") (.str "__init__" 326) (.ref 117)), (.mk (HQ.hS w "__static_attributes__") (.str "__static_attributes__" 328) (.ref 118)), (.mk (HQ.hS w "__doc__") (.str "__doc__" 329) .none)]) 2) (.mk []))
def o1_120 (w : World) : Obj := (.mk (.type "type") none (.cls (PySem.ClassData.mk "InvalidText" [(.ref 24)] [(.ref 120), (.ref 24), (.type "ValueError"), (.type "Exception"), (.type "BaseException"), (.type "object")] 119 "InvalidText" true [] [] false none false)) (.mk [(some (.ref 104)), none, (some (.str "InvalidText" 307)), (some (.str "InvalidText" 315)), (some (.builtin "ValueError.__new__")), (some (.bool true))]))
def o1_121 (w : World) : Obj := (.mk (.type "super") none (.fields (.mk [(.ref 120), (.ref 120), (.ref 120)])) (.mk []))
def o1_122 (w : World) : Obj := (.mk (.type "builtin_function_or_method") none (.fields (.mk [(.builtin "object.__init_subclass__"), (.ref 120)])) (.mk []))
def o1_123 (w : World) : Obj := (.mk (.type "tuple") none (.seq (.mk [(.ref 24)]) 0) (.mk []))
def o1_124 (w : World) : Obj := (.mk (.type "builtin_function_or_method") none (.fields (.mk [(.builtin "type.__prepare__"), (.type "type")])) (.mk []))
def o1_125 (w : World) : Obj := (.mk (.type "dict") none (.dict (.mk [(.mk (HQ.hS w "__module__") (.str "__module__" 339) (.str "haulprices.errors" 187)), (.mk (HQ.hS w "__qualname__") (.str "__qualname__" 341) (.str "InvalidLength" 340)), (.mk (HQ.hS w "__firstlineno__") (.str "__firstlineno__" 343) (.int (Int.ofNat 24) 342)), (.mk (HQ.hS w "__init__") (.str "__init__" 351) (.ref 136)), (.mk (HQ.hS w "__static_attributes__") (.str "__static_attributes__" 353) (.ref 137))]) 5) (.mk []))
def o1_126 (w : World) : Obj := (.mk (.type "tuple") none (.seq (.mk []) 0) (.mk []))
def o1_127 (w : World) : Obj := (.mk .none none (.fields (.mk [(.int (Int.ofNat 26) 0), (.int (Int.ofNat 4) 0), (.ref 135)])) (.mk []))
def o1_128 (w : World) : Obj := (.mk (.type "code") none (.fields (.mk [(.str "InvalidLength" 334), (.str "InvalidLength" 335), (.str "/claim/cut.py" 336), (.int (Int.ofNat 24) 0), (.int (Int.ofNat 0) 0), (.int (Int.ofNat 0) 0), (.int (Int.ofNat 0) 0), (.int (Int.ofNat 0) 0), (.ref 126), (.bool false), (.int (Int.ofNat 181) 0), (.ref 127), .none, .none, .none, .none, (.int (Int.ofNat 337) 0), (.int (Int.ofNat 24) 0), (.str "/claim/cut.py" 338)])) (.mk []))
def o1_129 (w : World) : Obj := (.mk (.type "frame") none .plain (.mk [(some (.ref 128)), (some (.ref 3)), (some (.ref 125)), none, (some (.str "haulprices.errors" 187)), none, (some (.ref 0))]))
def o1_130 (w : World) : Obj := (.mk (.type "tuple") none (.seq (.mk []) 0) (.mk []))
def o1_131 (w : World) : Obj := (.mk .none none (.fields (.mk [])) (.mk []))
def o1_132 (w : World) : Obj := (.mk (.type "tuple") none (.seq (.mk [(.str "self" 347), (.str "given" 348)]) 0) (.mk []))
def o1_133 (w : World) : Obj := (.mk (.type "tuple") none (.seq (.mk []) 0) (.mk []))
def o1_134 (w : World) : Obj := (.mk .none none (.func (FuncData.mk "__init__" "InvalidLength.__init__" (L2.defArgs ((MP.clsB (HP.top 7)).getD 0 (.Pass ⟨0, 0, 0, 0⟩))) (FuncBody.stmts (L2.defBody ((MP.clsB (HP.top 7)).getD 0 (.Pass ⟨0, 0, 0, 0⟩)))) (L2.defScope ((MP.clsB (HP.top 7)).getD 0 (.Pass ⟨0, 0, 0, 0⟩))) 0 [] .none .none .none .none none .none .none 0)) (.mk []))
def o1_135 (w : World) : Obj := (.mk (.type "code") none (.fields (.mk [(.str "__init__" 344), (.str "InvalidLength.__init__" 345), (.str "/claim/cut.py" 346), (.int (Int.ofNat 26) 0), (.int (Int.ofNat 2) 0), (.int (Int.ofNat 0) 0), (.int (Int.ofNat 0) 0), (.int (Int.ofNat 3) 0), (.ref 130), (.bool true), (.int (Int.ofNat 181) 0), (.ref 131), .none, (.ref 132), (.ref 133), (.ref 134), (.int (Int.ofNat 349) 0), (.int (Int.ofNat 26) 0), (.str "/claim/cut.py" 350)])) (.mk []))
def o1_136 (w : World) : Obj := (.mk (.type "function") none (.func (FuncData.mk "__init__" "InvalidLength.__init__" (L2.defArgs ((MP.clsB (HP.top 7)).getD 0 (.Pass ⟨0, 0, 0, 0⟩))) (FuncBody.stmts (L2.defBody ((MP.clsB (HP.top 7)).getD 0 (.Pass ⟨0, 0, 0, 0⟩)))) (L2.defScope ((MP.clsB (HP.top 7)).getD 0 (.Pass ⟨0, 0, 0, 0⟩))) 3 [] .none .none .none (.str "haulprices.errors" 187) none (.ref 135) .none 0)) (.mk []))
def o1_137 (w : World) : Obj := (.mk (.type "tuple") none (.seq (.mk [(.str "given" 352)]) 0) (.mk []))
def o1_138 (w : World) : Obj := (.mk (.type "dict") none (.dict (.mk [(.mk (HQ.hS w "__module__") (.str "__module__" 339) (.str "haulprices.errors" 187)), (.mk (HQ.hS w "__firstlineno__") (.str "__firstlineno__" 343) (.int (Int.ofNat 24) 342)), (.mk (HQ.hS w "__init__") (.str "__init__" 351) (.ref 136)), (.mk (HQ.hS w "__static_attributes__") (.str "__static_attributes__" 353) (.ref 137)), (.mk (HQ.hS w "__doc__") (.str "__doc__" 354) .none)]) 2) (.mk []))
def o1_139 (w : World) : Obj := (.mk (.type "type") none (.cls (PySem.ClassData.mk "InvalidLength" [(.ref 24)] [(.ref 139), (.ref 24), (.type "ValueError"), (.type "Exception"), (.type "BaseException"), (.type "object")] 138 "InvalidLength" true [] [] false none false)) (.mk [(some (.ref 123)), none, (some (.str "InvalidLength" 332)), (some (.str "InvalidLength" 340)), (some (.builtin "ValueError.__new__")), (some (.bool true))]))
def o1_140 (w : World) : Obj := (.mk (.type "super") none (.fields (.mk [(.ref 139), (.ref 139), (.ref 139)])) (.mk []))
def o1_141 (w : World) : Obj := (.mk (.type "builtin_function_or_method") none (.fields (.mk [(.builtin "object.__init_subclass__"), (.ref 139)])) (.mk []))
def o1_142 (w : World) : Obj := (.mk (.type "tuple") none (.seq (.mk [(.ref 24)]) 0) (.mk []))
def o1_143 (w : World) : Obj := (.mk (.type "builtin_function_or_method") none (.fields (.mk [(.builtin "type.__prepare__"), (.type "type")])) (.mk []))
def o1_144 (w : World) : Obj := (.mk (.type "dict") none (.dict (.mk [(.mk (HQ.hS w "__module__") (.str "__module__" 364) (.str "haulprices.errors" 187)), (.mk (HQ.hS w "__qualname__") (.str "__qualname__" 366) (.str "InvalidCoin" 365)), (.mk (HQ.hS w "__firstlineno__") (.str "__firstlineno__" 368) (.int (Int.ofNat 28) 367)), (.mk (HQ.hS w "__init__") (.str "__init__" 376) (.ref 155)), (.mk (HQ.hS w "__static_attributes__") (.str "__static_attributes__" 378) (.ref 156))]) 5) (.mk []))
def o1_145 (w : World) : Obj := (.mk (.type "tuple") none (.seq (.mk []) 0) (.mk []))
def o1_146 (w : World) : Obj := (.mk .none none (.fields (.mk [(.int (Int.ofNat 30) 0), (.int (Int.ofNat 4) 0), (.ref 154)])) (.mk []))
def o1_147 (w : World) : Obj := (.mk (.type "code") none (.fields (.mk [(.str "InvalidCoin" 359), (.str "InvalidCoin" 360), (.str "/claim/cut.py" 361), (.int (Int.ofNat 28) 0), (.int (Int.ofNat 0) 0), (.int (Int.ofNat 0) 0), (.int (Int.ofNat 0) 0), (.int (Int.ofNat 0) 0), (.ref 145), (.bool false), (.int (Int.ofNat 181) 0), (.ref 146), .none, .none, .none, .none, (.int (Int.ofNat 362) 0), (.int (Int.ofNat 28) 0), (.str "/claim/cut.py" 363)])) (.mk []))
def o1_148 (w : World) : Obj := (.mk (.type "frame") none .plain (.mk [(some (.ref 147)), (some (.ref 3)), (some (.ref 144)), none, (some (.str "haulprices.errors" 187)), none, (some (.ref 0))]))
def o1_149 (w : World) : Obj := (.mk (.type "tuple") none (.seq (.mk []) 0) (.mk []))
def o1_150 (w : World) : Obj := (.mk .none none (.fields (.mk [])) (.mk []))
def o1_151 (w : World) : Obj := (.mk (.type "tuple") none (.seq (.mk [(.str "self" 372), (.str "given" 373)]) 0) (.mk []))
def o1_152 (w : World) : Obj := (.mk (.type "tuple") none (.seq (.mk []) 0) (.mk []))
def o1_153 (w : World) : Obj := (.mk .none none (.func (FuncData.mk "__init__" "InvalidCoin.__init__" (L2.defArgs ((MP.clsB (HP.top 8)).getD 0 (.Pass ⟨0, 0, 0, 0⟩))) (FuncBody.stmts (L2.defBody ((MP.clsB (HP.top 8)).getD 0 (.Pass ⟨0, 0, 0, 0⟩)))) (L2.defScope ((MP.clsB (HP.top 8)).getD 0 (.Pass ⟨0, 0, 0, 0⟩))) 0 [] .none .none .none .none none .none .none 0)) (.mk []))
def o1_154 (w : World) : Obj := (.mk (.type "code") none (.fields (.mk [(.str "__init__" 369), (.str "InvalidCoin.__init__" 370), (.str "/claim/cut.py" 371), (.int (Int.ofNat 30) 0), (.int (Int.ofNat 2) 0), (.int (Int.ofNat 0) 0), (.int (Int.ofNat 0) 0), (.int (Int.ofNat 3) 0), (.ref 149), (.bool true), (.int (Int.ofNat 181) 0), (.ref 150), .none, (.ref 151), (.ref 152), (.ref 153), (.int (Int.ofNat 374) 0), (.int (Int.ofNat 30) 0), (.str "/claim/cut.py" 375)])) (.mk []))
def o1_155 (w : World) : Obj := (.mk (.type "function") none (.func (FuncData.mk "__init__" "InvalidCoin.__init__" (L2.defArgs ((MP.clsB (HP.top 8)).getD 0 (.Pass ⟨0, 0, 0, 0⟩))) (FuncBody.stmts (L2.defBody ((MP.clsB (HP.top 8)).getD 0 (.Pass ⟨0, 0, 0, 0⟩)))) (L2.defScope ((MP.clsB (HP.top 8)).getD 0 (.Pass ⟨0, 0, 0, 0⟩))) 3 [] .none .none .none (.str "haulprices.errors" 187) none (.ref 154) .none 0)) (.mk []))
def o1_156 (w : World) : Obj := (.mk (.type "tuple") none (.seq (.mk [(.str "given" 377)]) 0) (.mk []))
def o1_157 (w : World) : Obj := (.mk (.type "dict") none (.dict (.mk [(.mk (HQ.hS w "__module__") (.str "__module__" 364) (.str "haulprices.errors" 187)), (.mk (HQ.hS w "__firstlineno__") (.str "__firstlineno__" 368) (.int (Int.ofNat 28) 367)), (.mk (HQ.hS w "__init__") (.str "__init__" 376) (.ref 155)), (.mk (HQ.hS w "__static_attributes__") (.str "__static_attributes__" 378) (.ref 156)), (.mk (HQ.hS w "__doc__") (.str "__doc__" 379) .none)]) 2) (.mk []))
def o1_158 (w : World) : Obj := (.mk (.type "type") none (.cls (PySem.ClassData.mk "InvalidCoin" [(.ref 24)] [(.ref 158), (.ref 24), (.type "ValueError"), (.type "Exception"), (.type "BaseException"), (.type "object")] 157 "InvalidCoin" true [] [] false none false)) (.mk [(some (.ref 142)), none, (some (.str "InvalidCoin" 357)), (some (.str "InvalidCoin" 365)), (some (.builtin "ValueError.__new__")), (some (.bool true))]))
def o1_159 (w : World) : Obj := (.mk (.type "super") none (.fields (.mk [(.ref 158), (.ref 158), (.ref 158)])) (.mk []))
def o1_160 (w : World) : Obj := (.mk (.type "builtin_function_or_method") none (.fields (.mk [(.builtin "object.__init_subclass__"), (.ref 158)])) (.mk []))
def o1_161 (w : World) : Obj := (.mk (.type "tuple") none (.seq (.mk [(.ref 24)]) 0) (.mk []))
def o1_162 (w : World) : Obj := (.mk (.type "builtin_function_or_method") none (.fields (.mk [(.builtin "type.__prepare__"), (.type "type")])) (.mk []))
def o1_163 (w : World) : Obj := (.mk (.type "dict") none (.dict (.mk [(.mk (HQ.hS w "__module__") (.str "__module__" 389) (.str "haulprices.errors" 187)), (.mk (HQ.hS w "__qualname__") (.str "__qualname__" 391) (.str "InvalidName" 390)), (.mk (HQ.hS w "__firstlineno__") (.str "__firstlineno__" 393) (.int (Int.ofNat 32) 392)), (.mk (HQ.hS w "__init__") (.str "__init__" 401) (.ref 174)), (.mk (HQ.hS w "__static_attributes__") (.str "__static_attributes__" 403) (.ref 175))]) 5) (.mk []))
def o1_164 (w : World) : Obj := (.mk (.type "tuple") none (.seq (.mk []) 0) (.mk []))
def o1_165 (w : World) : Obj := (.mk .none none (.fields (.mk [(.int (Int.ofNat 34) 0), (.int (Int.ofNat 4) 0), (.ref 173)])) (.mk []))
def o1_166 (w : World) : Obj := (.mk (.type "code") none (.fields (.mk [(.str "InvalidName" 384), (.str "InvalidName" 385), (.str "/claim/cut.py" 386), (.int (Int.ofNat 32) 0), (.int (Int.ofNat 0) 0), (.int (Int.ofNat 0) 0), (.int (Int.ofNat 0) 0), (.int (Int.ofNat 0) 0), (.ref 164), (.bool false), (.int (Int.ofNat 181) 0), (.ref 165), .none, .none, .none, .none, (.int (Int.ofNat 387) 0), (.int (Int.ofNat 32) 0), (.str "/claim/cut.py" 388)])) (.mk []))
def o1_167 (w : World) : Obj := (.mk (.type "frame") none .plain (.mk [(some (.ref 166)), (some (.ref 3)), (some (.ref 163)), none, (some (.str "haulprices.errors" 187)), none, (some (.ref 0))]))
def o1_168 (w : World) : Obj := (.mk (.type "tuple") none (.seq (.mk []) 0) (.mk []))
def o1_169 (w : World) : Obj := (.mk .none none (.fields (.mk [])) (.mk []))
def o1_170 (w : World) : Obj := (.mk (.type "tuple") none (.seq (.mk [(.str "self" 397), (.str "given" 398)]) 0) (.mk []))
def o1_171 (w : World) : Obj := (.mk (.type "tuple") none (.seq (.mk []) 0) (.mk []))
def o1_172 (w : World) : Obj := (.mk .none none (.func (FuncData.mk "__init__" "InvalidName.__init__" (L2.defArgs ((MP.clsB (HP.top 9)).getD 0 (.Pass ⟨0, 0, 0, 0⟩))) (FuncBody.stmts (L2.defBody ((MP.clsB (HP.top 9)).getD 0 (.Pass ⟨0, 0, 0, 0⟩)))) (L2.defScope ((MP.clsB (HP.top 9)).getD 0 (.Pass ⟨0, 0, 0, 0⟩))) 0 [] .none .none .none .none none .none .none 0)) (.mk []))
def o1_173 (w : World) : Obj := (.mk (.type "code") none (.fields (.mk [(.str "__init__" 394), (.str "InvalidName.__init__" 395), (.str "/claim/cut.py" 396), (.int (Int.ofNat 34) 0), (.int (Int.ofNat 2) 0), (.int (Int.ofNat 0) 0), (.int (Int.ofNat 0) 0), (.int (Int.ofNat 3) 0), (.ref 168), (.bool true), (.int (Int.ofNat 181) 0), (.ref 169), .none, (.ref 170), (.ref 171), (.ref 172), (.int (Int.ofNat 399) 0), (.int (Int.ofNat 34) 0), (.str "/claim/cut.py" 400)])) (.mk []))
def o1_174 (w : World) : Obj := (.mk (.type "function") none (.func (FuncData.mk "__init__" "InvalidName.__init__" (L2.defArgs ((MP.clsB (HP.top 9)).getD 0 (.Pass ⟨0, 0, 0, 0⟩))) (FuncBody.stmts (L2.defBody ((MP.clsB (HP.top 9)).getD 0 (.Pass ⟨0, 0, 0, 0⟩)))) (L2.defScope ((MP.clsB (HP.top 9)).getD 0 (.Pass ⟨0, 0, 0, 0⟩))) 3 [] .none .none .none (.str "haulprices.errors" 187) none (.ref 173) .none 0)) (.mk []))
def o1_175 (w : World) : Obj := (.mk (.type "tuple") none (.seq (.mk [(.str "given" 402)]) 0) (.mk []))
def o1_176 (w : World) : Obj := (.mk (.type "dict") none (.dict (.mk [(.mk (HQ.hS w "__module__") (.str "__module__" 389) (.str "haulprices.errors" 187)), (.mk (HQ.hS w "__firstlineno__") (.str "__firstlineno__" 393) (.int (Int.ofNat 32) 392)), (.mk (HQ.hS w "__init__") (.str "__init__" 401) (.ref 174)), (.mk (HQ.hS w "__static_attributes__") (.str "__static_attributes__" 403) (.ref 175)), (.mk (HQ.hS w "__doc__") (.str "__doc__" 404) .none)]) 2) (.mk []))
def o1_177 (w : World) : Obj := (.mk (.type "type") none (.cls (PySem.ClassData.mk "InvalidName" [(.ref 24)] [(.ref 177), (.ref 24), (.type "ValueError"), (.type "Exception"), (.type "BaseException"), (.type "object")] 176 "InvalidName" true [] [] false none false)) (.mk [(some (.ref 161)), none, (some (.str "InvalidName" 382)), (some (.str "InvalidName" 390)), (some (.builtin "ValueError.__new__")), (some (.bool true))]))
def o1_178 (w : World) : Obj := (.mk (.type "super") none (.fields (.mk [(.ref 177), (.ref 177), (.ref 177)])) (.mk []))
def o1_179 (w : World) : Obj := (.mk (.type "builtin_function_or_method") none (.fields (.mk [(.builtin "object.__init_subclass__"), (.ref 177)])) (.mk []))
def o1_180 (w : World) : Obj := (.mk (.type "tuple") none (.seq (.mk [(.ref 24)]) 0) (.mk []))
def o1_181 (w : World) : Obj := (.mk (.type "builtin_function_or_method") none (.fields (.mk [(.builtin "type.__prepare__"), (.type "type")])) (.mk []))
def o1_182 (w : World) : Obj := (.mk (.type "dict") none (.dict (.mk [(.mk (HQ.hS w "__module__") (.str "__module__" 414) (.str "haulprices.errors" 187)), (.mk (HQ.hS w "__qualname__") (.str "__qualname__" 416) (.str "InvalidWish" 415)), (.mk (HQ.hS w "__firstlineno__") (.str "__firstlineno__" 418) (.int (Int.ofNat 36) 417)), (.mk (HQ.hS w "__init__") (.str "__init__" 426) (.ref 193)), (.mk (HQ.hS w "__static_attributes__") (.str "__static_attributes__" 428) (.ref 194))]) 5) (.mk []))
def o1_183 (w : World) : Obj := (.mk (.type "tuple") none (.seq (.mk []) 0) (.mk []))
def o1_184 (w : World) : Obj := (.mk .none none (.fields (.mk [(.int (Int.ofNat 38) 0), (.int (Int.ofNat 4) 0), (.ref 192)])) (.mk []))
def o1_185 (w : World) : Obj := (.mk (.type "code") none (.fields (.mk [(.str "InvalidWish" 409), (.str "InvalidWish" 410), (.str "/claim/cut.py" 411), (.int (Int.ofNat 36) 0), (.int (Int.ofNat 0) 0), (.int (Int.ofNat 0) 0), (.int (Int.ofNat 0) 0), (.int (Int.ofNat 0) 0), (.ref 183), (.bool false), (.int (Int.ofNat 181) 0), (.ref 184), .none, .none, .none, .none, (.int (Int.ofNat 412) 0), (.int (Int.ofNat 36) 0), (.str "/claim/cut.py" 413)])) (.mk []))
def o1_186 (w : World) : Obj := (.mk (.type "frame") none .plain (.mk [(some (.ref 185)), (some (.ref 3)), (some (.ref 182)), none, (some (.str "haulprices.errors" 187)), none, (some (.ref 0))]))
def o1_187 (w : World) : Obj := (.mk (.type "tuple") none (.seq (.mk []) 0) (.mk []))
def o1_188 (w : World) : Obj := (.mk .none none (.fields (.mk [])) (.mk []))
def o1_189 (w : World) : Obj := (.mk (.type "tuple") none (.seq (.mk [(.str "self" 422), (.str "given" 423)]) 0) (.mk []))
def o1_190 (w : World) : Obj := (.mk (.type "tuple") none (.seq (.mk []) 0) (.mk []))
def o1_191 (w : World) : Obj := (.mk .none none (.func (FuncData.mk "__init__" "InvalidWish.__init__" (L2.defArgs ((MP.clsB (HP.top 10)).getD 0 (.Pass ⟨0, 0, 0, 0⟩))) (FuncBody.stmts (L2.defBody ((MP.clsB (HP.top 10)).getD 0 (.Pass ⟨0, 0, 0, 0⟩)))) (L2.defScope ((MP.clsB (HP.top 10)).getD 0 (.Pass ⟨0, 0, 0, 0⟩))) 0 [] .none .none .none .none none .none .none 0)) (.mk []))
def o1_192 (w : World) : Obj := (.mk (.type "code") none (.fields (.mk [(.str "__init__" 419), (.str "InvalidWish.__init__" 420), (.str "/claim/cut.py" 421), (.int (Int.ofNat 38) 0), (.int (Int.ofNat 2) 0), (.int (Int.ofNat 0) 0), (.int (Int.ofNat 0) 0), (.int (Int.ofNat 3) 0), (.ref 187), (.bool true), (.int (Int.ofNat 181) 0), (.ref 188), .none, (.ref 189), (.ref 190), (.ref 191), (.int (Int.ofNat 424) 0), (.int (Int.ofNat 38) 0), (.str "/claim/cut.py" 425)])) (.mk []))
def o1_193 (w : World) : Obj := (.mk (.type "function") none (.func (FuncData.mk "__init__" "InvalidWish.__init__" (L2.defArgs ((MP.clsB (HP.top 10)).getD 0 (.Pass ⟨0, 0, 0, 0⟩))) (FuncBody.stmts (L2.defBody ((MP.clsB (HP.top 10)).getD 0 (.Pass ⟨0, 0, 0, 0⟩)))) (L2.defScope ((MP.clsB (HP.top 10)).getD 0 (.Pass ⟨0, 0, 0, 0⟩))) 3 [] .none .none .none (.str "haulprices.errors" 187) none (.ref 192) .none 0)) (.mk []))
def o1_194 (w : World) : Obj := (.mk (.type "tuple") none (.seq (.mk [(.str "given" 427)]) 0) (.mk []))
def o1_195 (w : World) : Obj := (.mk (.type "dict") none (.dict (.mk [(.mk (HQ.hS w "__module__") (.str "__module__" 414) (.str "haulprices.errors" 187)), (.mk (HQ.hS w "__firstlineno__") (.str "__firstlineno__" 418) (.int (Int.ofNat 36) 417)), (.mk (HQ.hS w "__init__") (.str "__init__" 426) (.ref 193)), (.mk (HQ.hS w "__static_attributes__") (.str "__static_attributes__" 428) (.ref 194)), (.mk (HQ.hS w "__doc__") (.str "__doc__" 429) .none)]) 2) (.mk []))
def o1_196 (w : World) : Obj := (.mk (.type "type") none (.cls (PySem.ClassData.mk "InvalidWish" [(.ref 24)] [(.ref 196), (.ref 24), (.type "ValueError"), (.type "Exception"), (.type "BaseException"), (.type "object")] 195 "InvalidWish" true [] [] false none false)) (.mk [(some (.ref 180)), none, (some (.str "InvalidWish" 407)), (some (.str "InvalidWish" 415)), (some (.builtin "ValueError.__new__")), (some (.bool true))]))
def o1_197 (w : World) : Obj := (.mk (.type "super") none (.fields (.mk [(.ref 196), (.ref 196), (.ref 196)])) (.mk []))
def o1_198 (w : World) : Obj := (.mk (.type "builtin_function_or_method") none (.fields (.mk [(.builtin "object.__init_subclass__"), (.ref 196)])) (.mk []))
def o1_199 (w : World) : Obj := (.mk (.type "tuple") none (.seq (.mk [(.ref 24)]) 0) (.mk []))
def o1_200 (w : World) : Obj := (.mk (.type "builtin_function_or_method") none (.fields (.mk [(.builtin "type.__prepare__"), (.type "type")])) (.mk []))
def o1_201 (w : World) : Obj := (.mk (.type "dict") none (.dict (.mk [(.mk (HQ.hS w "__module__") (.str "__module__" 439) (.str "haulprices.errors" 187)), (.mk (HQ.hS w "__qualname__") (.str "__qualname__" 441) (.str "InvalidIndex" 440)), (.mk (HQ.hS w "__firstlineno__") (.str "__firstlineno__" 443) (.int (Int.ofNat 40) 442)), (.mk (HQ.hS w "__init__") (.str "__init__" 451) (.ref 212)), (.mk (HQ.hS w "__static_attributes__") (.str "__static_attributes__" 453) (.ref 213))]) 5) (.mk []))
def o1_202 (w : World) : Obj := (.mk (.type "tuple") none (.seq (.mk []) 0) (.mk []))
def o1_203 (w : World) : Obj := (.mk .none none (.fields (.mk [(.int (Int.ofNat 42) 0), (.int (Int.ofNat 4) 0), (.ref 211)])) (.mk []))
def o1_204 (w : World) : Obj := (.mk (.type "code") none (.fields (.mk [(.str "InvalidIndex" 434), (.str "InvalidIndex" 435), (.str "/claim/cut.py" 436), (.int (Int.ofNat 40) 0), (.int (Int.ofNat 0) 0), (.int (Int.ofNat 0) 0), (.int (Int.ofNat 0) 0), (.int (Int.ofNat 0) 0), (.ref 202), (.bool false), (.int (Int.ofNat 181) 0), (.ref 203), .none, .none, .none, .none, (.int (Int.ofNat 437) 0), (.int (Int.ofNat 40) 0), (.str "/claim/cut.py" 438)])) (.mk []))
def o1_205 (w : World) : Obj := (.mk (.type "frame") none .plain (.mk [(some (.ref 204)), (some (.ref 3)), (some (.ref 201)), none, (some (.str "haulprices.errors" 187)), none, (some (.ref 0))]))
def o1_206 (w : World) : Obj := (.mk (.type "tuple") none (.seq (.mk []) 0) (.mk []))
def o1_207 (w : World) : Obj := (.mk .none none (.fields (.mk [])) (.mk []))
def o1_208 (w : World) : Obj := (.mk (.type "tuple") none (.seq (.mk [(.str "self" 447), (.str "given" 448)]) 0) (.mk []))
def o1_209 (w : World) : Obj := (.mk (.type "tuple") none (.seq (.mk []) 0) (.mk []))
def o1_210 (w : World) : Obj := (.mk .none none (.func (FuncData.mk "__init__" "InvalidIndex.__init__" (L2.defArgs ((MP.clsB (HP.top 11)).getD 0 (.Pass ⟨0, 0, 0, 0⟩))) (FuncBody.stmts (L2.defBody ((MP.clsB (HP.top 11)).getD 0 (.Pass ⟨0, 0, 0, 0⟩)))) (L2.defScope ((MP.clsB (HP.top 11)).getD 0 (.Pass ⟨0, 0, 0, 0⟩))) 0 [] .none .none .none .none none .none .none 0)) (.mk []))
def o1_211 (w : World) : Obj := (.mk (.type "code") none (.fields (.mk [(.str "__init__" 444), (.str "InvalidIndex.__init__" 445), (.str "/claim/cut.py" 446), (.int (Int.ofNat 42) 0), (.int (Int.ofNat 2) 0), (.int (Int.ofNat 0) 0), (.int (Int.ofNat 0) 0), (.int (Int.ofNat 3) 0), (.ref 206), (.bool true), (.int (Int.ofNat 181) 0), (.ref 207), .none, (.ref 208), (.ref 209), (.ref 210), (.int (Int.ofNat 449) 0), (.int (Int.ofNat 42) 0), (.str "/claim/cut.py" 450)])) (.mk []))
def o1_212 (w : World) : Obj := (.mk (.type "function") none (.func (FuncData.mk "__init__" "InvalidIndex.__init__" (L2.defArgs ((MP.clsB (HP.top 11)).getD 0 (.Pass ⟨0, 0, 0, 0⟩))) (FuncBody.stmts (L2.defBody ((MP.clsB (HP.top 11)).getD 0 (.Pass ⟨0, 0, 0, 0⟩)))) (L2.defScope ((MP.clsB (HP.top 11)).getD 0 (.Pass ⟨0, 0, 0, 0⟩))) 3 [] .none .none .none (.str "haulprices.errors" 187) none (.ref 211) .none 0)) (.mk []))
def o1_213 (w : World) : Obj := (.mk (.type "tuple") none (.seq (.mk [(.str "given" 452)]) 0) (.mk []))
def o1_214 (w : World) : Obj := (.mk (.type "dict") none (.dict (.mk [(.mk (HQ.hS w "__module__") (.str "__module__" 439) (.str "haulprices.errors" 187)), (.mk (HQ.hS w "__firstlineno__") (.str "__firstlineno__" 443) (.int (Int.ofNat 40) 442)), (.mk (HQ.hS w "__init__") (.str "__init__" 451) (.ref 212)), (.mk (HQ.hS w "__static_attributes__") (.str "__static_attributes__" 453) (.ref 213)), (.mk (HQ.hS w "__doc__") (.str "__doc__" 454) .none)]) 2) (.mk []))
def o1_215 (w : World) : Obj := (.mk (.type "type") none (.cls (PySem.ClassData.mk "InvalidIndex" [(.ref 24)] [(.ref 215), (.ref 24), (.type "ValueError"), (.type "Exception"), (.type "BaseException"), (.type "object")] 214 "InvalidIndex" true [] [] false none false)) (.mk [(some (.ref 199)), none, (some (.str "InvalidIndex" 432)), (some (.str "InvalidIndex" 440)), (some (.builtin "ValueError.__new__")), (some (.bool true))]))
def o1_216 (w : World) : Obj := (.mk (.type "super") none (.fields (.mk [(.ref 215), (.ref 215), (.ref 215)])) (.mk []))
def o1_217 (w : World) : Obj := (.mk (.type "builtin_function_or_method") none (.fields (.mk [(.builtin "object.__init_subclass__"), (.ref 215)])) (.mk []))
def l1_0 (w : World) : List Obj := [o1_0 w, o1_1 w, o1_2 w, o1_3 w, o1_4 w, o1_5 w, o1_6 w, o1_7 w, o1_8 w, o1_9 w, o1_10 w, o1_11 w, o1_12 w, o1_13 w, o1_14 w, o1_15 w, o1_16 w, o1_17 w, o1_18 w, o1_19 w, o1_20 w, o1_21 w, o1_22 w, o1_23 w, o1_24 w]
def l1_1 (w : World) : List Obj := [o1_25 w, o1_26 w, o1_27 w, o1_28 w, o1_29 w, o1_30 w, o1_31 w, o1_32 w, o1_33 w, o1_34 w, o1_35 w, o1_36 w, o1_37 w, o1_38 w, o1_39 w, o1_40 w, o1_41 w, o1_42 w, o1_43 w, o1_44 w, o1_45 w, o1_46 w, o1_47 w, o1_48 w, o1_49 w]
def l1_2 (w : World) : List Obj := [o1_50 w, o1_51 w, o1_52 w, o1_53 w, o1_54 w, o1_55 w, o1_56 w, o1_57 w, o1_58 w, o1_59 w, o1_60 w, o1_61 w, o1_62 w, o1_63 w, o1_64 w, o1_65 w, o1_66 w, o1_67 w, o1_68 w, o1_69 w, o1_70 w, o1_71 w, o1_72 w, o1_73 w, o1_74 w]
def l1_3 (w : World) : List Obj := [o1_75 w, o1_76 w, o1_77 w, o1_78 w, o1_79 w, o1_80 w, o1_81 w, o1_82 w, o1_83 w, o1_84 w, o1_85 w, o1_86 w, o1_87 w, o1_88 w, o1_89 w, o1_90 w, o1_91 w, o1_92 w, o1_93 w, o1_94 w, o1_95 w, o1_96 w, o1_97 w, o1_98 w, o1_99 w]
def l1_4 (w : World) : List Obj := [o1_100 w, o1_101 w, o1_102 w, o1_103 w, o1_104 w, o1_105 w, o1_106 w, o1_107 w, o1_108 w, o1_109 w, o1_110 w, o1_111 w, o1_112 w, o1_113 w, o1_114 w, o1_115 w, o1_116 w, o1_117 w, o1_118 w, o1_119 w, o1_120 w, o1_121 w, o1_122 w, o1_123 w, o1_124 w]
def l1_5 (w : World) : List Obj := [o1_125 w, o1_126 w, o1_127 w, o1_128 w, o1_129 w, o1_130 w, o1_131 w, o1_132 w, o1_133 w, o1_134 w, o1_135 w, o1_136 w, o1_137 w, o1_138 w, o1_139 w, o1_140 w, o1_141 w, o1_142 w, o1_143 w, o1_144 w, o1_145 w, o1_146 w, o1_147 w, o1_148 w, o1_149 w]
def l1_6 (w : World) : List Obj := [o1_150 w, o1_151 w, o1_152 w, o1_153 w, o1_154 w, o1_155 w, o1_156 w, o1_157 w, o1_158 w, o1_159 w, o1_160 w, o1_161 w, o1_162 w, o1_163 w, o1_164 w, o1_165 w, o1_166 w, o1_167 w, o1_168 w, o1_169 w, o1_170 w, o1_171 w, o1_172 w, o1_173 w, o1_174 w]
def l1_7 (w : World) : List Obj := [o1_175 w, o1_176 w, o1_177 w, o1_178 w, o1_179 w, o1_180 w, o1_181 w, o1_182 w, o1_183 w, o1_184 w, o1_185 w, o1_186 w, o1_187 w, o1_188 w, o1_189 w, o1_190 w, o1_191 w, o1_192 w, o1_193 w, o1_194 w, o1_195 w, o1_196 w, o1_197 w, o1_198 w, o1_199 w]
def l1_8 (w : World) : List Obj := [o1_200 w, o1_201 w, o1_202 w, o1_203 w, o1_204 w, o1_205 w, o1_206 w, o1_207 w, o1_208 w, o1_209 w, o1_210 w, o1_211 w, o1_212 w, o1_213 w, o1_214 w, o1_215 w, o1_216 w, o1_217 w]
def ll1 (w : World) : List Obj := l1_0 w ++ (l1_1 w ++ (l1_2 w ++ (l1_3 w ++ (l1_4 w ++ (l1_5 w ++ (l1_6 w ++ (l1_7 w ++ (l1_8 w))))))))
def S1 (w : World) (os : OsState) : SharedT := stOf w os (ll1 w) 218 457
def T1 (w : World) (os : OsState) : Thread := thOf PG w os 13 14 12 (PySem.Pos.mk 40 0 43 26)
theorem part1 (w : World) (os : OsState) : beg (stepQ (denQ tabQ) PG w) 2657 PG w os = some (S1 w os, T1 w os) := by kernel_rfl
def o2_3 (w : World) : Obj := (.mk (.type "dict") none (.dict (.mk (.cons (.mk (HQ.hS w "__name__") (.str "__name__" 165) (.str "haulprices.errors" 187)) (.cons (.mk (HQ.hS w "__doc__") (.str "__doc__" 166) .none) (.cons (.mk (HQ.hS w "__package__") (.str "__package__" 167) .none) (.cons (.mk (HQ.hS w "__loader__") (.str "__loader__" 168) (.builtin "__main__.__loader__#opaque")) (.cons (.mk (HQ.hS w "__spec__") (.str "__spec__" 169) .none) (.cons (.mk (HQ.hS w "__annotations__") (.str "__annotations__" 170) (.ref 6)) (.cons (.mk (HQ.hS w "__builtins__") (.str "__builtins__" 171) (.ref 4)) (.cons (.mk (HQ.hS w "__file__") (.str "__file__" 173) (.str "/claim/cut.py" 172)) (.cons (.mk (HQ.hS w "__cached__") (.str "__cached__" 174) .none) (.cons (.mk (HQ.hS w "WrongValue") (.str "WrongValue" 206) (.ref 24)) (.cons (.mk (HQ.hS w "InvalidStops") (.str "InvalidStops" 231) (.ref 44)) (.cons (.mk (HQ.hS w "InvalidHaul") (.str "InvalidHaul" 256) (.ref 63)) (.cons (.mk (HQ.hS w "InvalidPrice") (.str "InvalidPrice" 281) (.ref 82)) (.cons (.mk (HQ.hS w "InvalidRules") (.str "InvalidRules" 306) (.ref 101)) (.cons (.mk (HQ.hS w "InvalidText") (.str "InvalidText" 331) (.ref 120)) (.cons (.mk (HQ.hS w "InvalidLength") (.str "InvalidLength" 356) (.ref 139)) (.cons (.mk (HQ.hS w "InvalidCoin") (.str "InvalidCoin" 381) (.ref 158)) (.cons (.mk (HQ.hS w "InvalidName") (.str "InvalidName" 406) (.ref 177)) (.cons (.mk (HQ.hS w "InvalidWish") (.str "InvalidWish" 431) (.ref 196)) (.cons (.mk (HQ.hS w "InvalidIndex") (.str "InvalidIndex" 456) (.ref 215)) (.cons (.mk (HQ.hS w "InvalidLine") (.str "InvalidLine" 481) (.ref 234)) (.cons (.mk (HQ.hS w "NotABook") (.str "NotABook" 506) (.ref 253)) (.cons (.mk (HQ.hS w "NotBounds") (.str "NotBounds" 531) (.ref 272)) (.cons (.mk (HQ.hS w "NotATariff") (.str "NotATariff" 556) (.ref 291)) (.cons (.mk (HQ.hS w "InvalidPrices") (.str "InvalidPrices" 581) (.ref 310)) (.cons (.mk (HQ.hS w "InvalidRanges") (.str "InvalidRanges" 606) (.ref 329)) (.cons (.mk (HQ.hS w "InvalidTickets") (.str "InvalidTickets" 631) (.ref 348)) (.cons (.mk (HQ.hS w "InvalidTariff") (.str "InvalidTariff" 656) (.ref 367)) (.cons (.mk (HQ.hS w "InvalidCoins") (.str "InvalidCoins" 681) (.ref 386)) (.cons (.mk (HQ.hS w "WrongRow") (.str "WrongRow" 706) (.ref 405)) []))))))))))))))))))))))))))))))) 30) (.mk []))
def o2_12 (w : World) : Obj := (.mk .none none (.fields (.mk (.cons (.int (Int.ofNat 2) 0) (.cons (.int (Int.ofNat 0) 0) (.cons (.ref 20) (.cons (.int (Int.ofNat 4) 0) (.cons (.int (Int.ofNat 0) 0) (.cons (.ref 33) (.cons (.int (Int.ofNat 8) 0) (.cons (.int (Int.ofNat 0) 0) (.cons (.ref 52) (.cons (.int (Int.ofNat 12) 0) (.cons (.int (Int.ofNat 0) 0) (.cons (.ref 71) (.cons (.int (Int.ofNat 16) 0) (.cons (.int (Int.ofNat 0) 0) (.cons (.ref 90) (.cons (.int (Int.ofNat 20) 0) (.cons (.int (Int.ofNat 0) 0) (.cons (.ref 109) (.cons (.int (Int.ofNat 24) 0) (.cons (.int (Int.ofNat 0) 0) (.cons (.ref 128) (.cons (.int (Int.ofNat 28) 0) (.cons (.int (Int.ofNat 0) 0) (.cons (.ref 147) (.cons (.int (Int.ofNat 32) 0) (.cons (.int (Int.ofNat 0) 0) (.cons (.ref 166) (.cons (.int (Int.ofNat 36) 0) (.cons (.int (Int.ofNat 0) 0) (.cons (.ref 185) (.cons (.int (Int.ofNat 40) 0) (.cons (.int (Int.ofNat 0) 0) (.cons (.ref 204) (.cons (.int (Int.ofNat 44) 0) (.cons (.int (Int.ofNat 0) 0) (.cons (.ref 223) (.cons (.int (Int.ofNat 48) 0) (.cons (.int (Int.ofNat 0) 0) (.cons (.ref 242) (.cons (.int (Int.ofNat 52) 0) (.cons (.int (Int.ofNat 0) 0) (.cons (.ref 261) (.cons (.int (Int.ofNat 56) 0) (.cons (.int (Int.ofNat 0) 0) (.cons (.ref 280) (.cons (.int (Int.ofNat 60) 0) (.cons (.int (Int.ofNat 0) 0) (.cons (.ref 299) (.cons (.int (Int.ofNat 64) 0) (.cons (.int (Int.ofNat 0) 0) (.cons (.ref 318) (.cons (.int (Int.ofNat 68) 0) (.cons (.int (Int.ofNat 0) 0) (.cons (.ref 337) (.cons (.int (Int.ofNat 72) 0) (.cons (.int (Int.ofNat 0) 0) (.cons (.ref 356) (.cons (.int (Int.ofNat 76) 0) (.cons (.int (Int.ofNat 0) 0) (.cons (.ref 375) (.cons (.int (Int.ofNat 80) 0) (.cons (.int (Int.ofNat 0) 0) (.cons (.ref 394) []))))))))))))))))))))))))))))))))))))))))))))))))))))))))))))))))) (.mk []))
def o2_24 (w : World) : Obj := (.mk (.type "type") none (.cls (PySem.ClassData.mk "WrongValue" [(.type "ValueError")] [(.ref 24), (.type "ValueError"), (.type "Exception"), (.type "BaseException"), (.type "object")] 23 "WrongValue" true [] [(.ref 44), (.ref 63), (.ref 82), (.ref 101), (.ref 120), (.ref 139), (.ref 158), (.ref 177), (.ref 196), (.ref 215), (.ref 234), (.ref 253), (.ref 272), (.ref 291), (.ref 310), (.ref 329), (.ref 348), (.ref 367), (.ref 386), (.ref 405)] false none false)) (.mk [(some (.ref 15)), none, (some (.str "WrongValue" 189)), (some (.str "WrongValue" 197)), (some (.builtin "ValueError.__new__")), (some (.bool true))]))
def o2_218 (w : World) : Obj := (.mk (.type "tuple") none (.seq (.mk [(.ref 24)]) 0) (.mk []))
def o2_219 (w : World) : Obj := (.mk (.type "builtin_function_or_method") none (.fields (.mk [(.builtin "type.__prepare__"), (.type "type")])) (.mk []))
def o2_220 (w : World) : Obj := (.mk (.type "dict") none (.dict (.mk [(.mk (HQ.hS w "__module__") (.str "__module__" 464) (.str "haulprices.errors" 187)), (.mk (HQ.hS w "__qualname__") (.str "__qualname__" 466) (.str "InvalidLine" 465)), (.mk (HQ.hS w "__firstlineno__") (.str "__firstlineno__" 468) (.int (Int.ofNat 44) 467)), (.mk (HQ.hS w "__init__") (.str "__init__" 476) (.ref 231)), (.mk (HQ.hS w "__static_attributes__") (.str "__static_attributes__" 478) (.ref 232))]) 5) (.mk []))
def o2_221 (w : World) : Obj := (.mk (.type "tuple") none (.seq (.mk []) 0) (.mk []))
def o2_222 (w : World) : Obj := (.mk .none none (.fields (.mk [(.int (Int.ofNat 46) 0), (.int (Int.ofNat 4) 0), (.ref 230)])) (.mk []))
def o2_223 (w : World) : Obj := (.mk (.type "code") none (.fields (.mk [(.str "InvalidLine" 459), (.str "InvalidLine" 460), (.str "/claim/cut.py" 461), (.int (Int.ofNat 44) 0), (.int (Int.ofNat 0) 0), (.int (Int.ofNat 0) 0), (.int (Int.ofNat 0) 0), (.int (Int.ofNat 0) 0), (.ref 221), (.bool false), (.int (Int.ofNat 181) 0), (.ref 222), .none, .none, .none, .none, (.int (Int.ofNat 462) 0), (.int (Int.ofNat 44) 0), (.str "/claim/cut.py" 463)])) (.mk []))
def o2_224 (w : World) : Obj := (.mk (.type "frame") none .plain (.mk [(some (.ref 223)), (some (.ref 3)), (some (.ref 220)), none, (some (.str "haulprices.errors" 187)), none, (some (.ref 0))]))
def o2_225 (w : World) : Obj := (.mk (.type "tuple") none (.seq (.mk []) 0) (.mk []))
def o2_226 (w : World) : Obj := (.mk .none none (.fields (.mk [])) (.mk []))
def o2_227 (w : World) : Obj := (.mk (.type "tuple") none (.seq (.mk [(.str "self" 472), (.str "given" 473)]) 0) (.mk []))
def o2_228 (w : World) : Obj := (.mk (.type "tuple") none (.seq (.mk []) 0) (.mk []))
def o2_229 (w : World) : Obj := (.mk .none none (.func (FuncData.mk "__init__" "InvalidLine.__init__" (L2.defArgs ((MP.clsB (HP.top 12)).getD 0 (.Pass ⟨0, 0, 0, 0⟩))) (FuncBody.stmts (L2.defBody ((MP.clsB (HP.top 12)).getD 0 (.Pass ⟨0, 0, 0, 0⟩)))) (L2.defScope ((MP.clsB (HP.top 12)).getD 0 (.Pass ⟨0, 0, 0, 0⟩))) 0 [] .none .none .none .none none .none .none 0)) (.mk []))
def o2_230 (w : World) : Obj := (.mk (.type "code") none (.fields (.mk [(.str "__init__" 469), (.str "InvalidLine.__init__" 470), (.str "/claim/cut.py" 471), (.int (Int.ofNat 46) 0), (.int (Int.ofNat 2) 0), (.int (Int.ofNat 0) 0), (.int (Int.ofNat 0) 0), (.int (Int.ofNat 3) 0), (.ref 225), (.bool true), (.int (Int.ofNat 181) 0), (.ref 226), .none, (.ref 227), (.ref 228), (.ref 229), (.int (Int.ofNat 474) 0), (.int (Int.ofNat 46) 0), (.str "/claim/cut.py" 475)])) (.mk []))
def o2_231 (w : World) : Obj := (.mk (.type "function") none (.func (FuncData.mk "__init__" "InvalidLine.__init__" (L2.defArgs ((MP.clsB (HP.top 12)).getD 0 (.Pass ⟨0, 0, 0, 0⟩))) (FuncBody.stmts (L2.defBody ((MP.clsB (HP.top 12)).getD 0 (.Pass ⟨0, 0, 0, 0⟩)))) (L2.defScope ((MP.clsB (HP.top 12)).getD 0 (.Pass ⟨0, 0, 0, 0⟩))) 3 [] .none .none .none (.str "haulprices.errors" 187) none (.ref 230) .none 0)) (.mk []))
def o2_232 (w : World) : Obj := (.mk (.type "tuple") none (.seq (.mk [(.str "given" 477)]) 0) (.mk []))
def o2_233 (w : World) : Obj := (.mk (.type "dict") none (.dict (.mk [(.mk (HQ.hS w "__module__") (.str "__module__" 464) (.str "haulprices.errors" 187)), (.mk (HQ.hS w "__firstlineno__") (.str "__firstlineno__" 468) (.int (Int.ofNat 44) 467)), (.mk (HQ.hS w "__init__") (.str "__init__" 476) (.ref 231)), (.mk (HQ.hS w "__static_attributes__") (.str "__static_attributes__" 478) (.ref 232)), (.mk (HQ.hS w "__doc__") (.str "__doc__" 479) .none)]) 2) (.mk []))
def o2_234 (w : World) : Obj := (.mk (.type "type") none (.cls (PySem.ClassData.mk "InvalidLine" [(.ref 24)] [(.ref 234), (.ref 24), (.type "ValueError"), (.type "Exception"), (.type "BaseException"), (.type "object")] 233 "InvalidLine" true [] [] false none false)) (.mk [(some (.ref 218)), none, (some (.str "InvalidLine" 457)), (some (.str "InvalidLine" 465)), (some (.builtin "ValueError.__new__")), (some (.bool true))]))
def o2_235 (w : World) : Obj := (.mk (.type "super") none (.fields (.mk [(.ref 234), (.ref 234), (.ref 234)])) (.mk []))
def o2_236 (w : World) : Obj := (.mk (.type "builtin_function_or_method") none (.fields (.mk [(.builtin "object.__init_subclass__"), (.ref 234)])) (.mk []))
def o2_237 (w : World) : Obj := (.mk (.type "tuple") none (.seq (.mk [(.ref 24)]) 0) (.mk []))
def o2_238 (w : World) : Obj := (.mk (.type "builtin_function_or_method") none (.fields (.mk [(.builtin "type.__prepare__"), (.type "type")])) (.mk []))
def o2_239 (w : World) : Obj := (.mk (.type "dict") none (.dict (.mk [(.mk (HQ.hS w "__module__") (.str "__module__" 489) (.str "haulprices.errors" 187)), (.mk (HQ.hS w "__qualname__") (.str "__qualname__" 491) (.str "NotABook" 490)), (.mk (HQ.hS w "__firstlineno__") (.str "__firstlineno__" 493) (.int (Int.ofNat 48) 492)), (.mk (HQ.hS w "__init__") (.str "__init__" 501) (.ref 250)), (.mk (HQ.hS w "__static_attributes__") (.str "__static_attributes__" 503) (.ref 251))]) 5) (.mk []))
def o2_240 (w : World) : Obj := (.mk (.type "tuple") none (.seq (.mk []) 0) (.mk []))
def o2_241 (w : World) : Obj := (.mk .none none (.fields (.mk [(.int (Int.ofNat 50) 0), (.int (Int.ofNat 4) 0), (.ref 249)])) (.mk []))
def o2_242 (w : World) : Obj := (.mk (.type "code") none (.fields (.mk [(.str "NotABook" 484), (.str "NotABook" 485), (.str "/claim/cut.py" 486), (.int (Int.ofNat 48) 0), (.int (Int.ofNat 0) 0), (.int (Int.ofNat 0) 0), (.int (Int.ofNat 0) 0), (.int (Int.ofNat 0) 0), (.ref 240), (.bool false), (.int (Int.ofNat 181) 0), (.ref 241), .none, .none, .none, .none, (.int (Int.ofNat 487) 0), (.int (Int.ofNat 48) 0), (.str "/claim/cut.py" 488)])) (.mk []))
def o2_243 (w : World) : Obj := (.mk (.type "frame") none .plain (.mk [(some (.ref 242)), (some (.ref 3)), (some (.ref 239)), none, (some (.str "haulprices.errors" 187)), none, (some (.ref 0))]))
def o2_244 (w : World) : Obj := (.mk (.type "tuple") none (.seq (.mk []) 0) (.mk []))
def o2_245 (w : World) : Obj := (.mk .none none (.fields (.mk [])) (.mk []))
def o2_246 (w : World) : Obj := (.mk (.type "tuple") none (.seq (.mk [(.str "self" 497), (.str "given" 498)]) 0) (.mk []))
def o2_247 (w : World) : Obj := (.mk (.type "tuple") none (.seq (.mk []) 0) (.mk []))
def o2_248 (w : World) : Obj := (.mk .none none (.func (FuncData.mk "__init__" "NotABook.__init__" (L2.defArgs ((MP.clsB (HP.top 13)).getD 0 (.Pass ⟨0, 0, 0, 0⟩))) (FuncBody.stmts (L2.defBody ((MP.clsB (HP.top 13)).getD 0 (.Pass ⟨0, 0, 0, 0⟩)))) (L2.defScope ((MP.clsB (HP.top 13)).getD 0 (.Pass ⟨0, 0, 0, 0⟩))) 0 [] .none .none .none .none none .none .none 0)) (.mk []))
def o2_249 (w : World) : Obj := (.mk (.type "code") none (.fields (.mk [(.str "__init__" 494), (.str "NotABook.__init__" 495), (.str "/claim/cut.py" 496), (.int (Int.ofNat 50) 0), (.int (Int.ofNat 2) 0), (.int (Int.ofNat 0) 0), (.int (Int.ofNat 0) 0), (.int (Int.ofNat 3) 0), (.ref 244), (.bool true), (.int (Int.ofNat 181) 0), (.ref 245), .none, (.ref 246), (.ref 247), (.ref 248), (.int (Int.ofNat 499) 0), (.int (Int.ofNat 50) 0), (.str "/claim/cut.py" 500)])) (.mk []))
def o2_250 (w : World) : Obj := (.mk (.type "function") none (.func (FuncData.mk "__init__" "NotABook.__init__" (L2.defArgs ((MP.clsB (HP.top 13)).getD 0 (.Pass ⟨0, 0, 0, 0⟩))) (FuncBody.stmts (L2.defBody ((MP.clsB (HP.top 13)).getD 0 (.Pass ⟨0, 0, 0, 0⟩)))) (L2.defScope ((MP.clsB (HP.top 13)).getD 0 (.Pass ⟨0, 0, 0, 0⟩))) 3 [] .none .none .none (.str "haulprices.errors" 187) none (.ref 249) .none 0)) (.mk []))
def o2_251 (w : World) : Obj := (.mk (.type "tuple") none (.seq (.mk [(.str "given" 502)]) 0) (.mk []))
def o2_252 (w : World) : Obj := (.mk (.type "dict") none (.dict (.mk [(.mk (HQ.hS w "__module__") (.str "__module__" 489) (.str "haulprices.errors" 187)), (.mk (HQ.hS w "__firstlineno__") (.str "__firstlineno__" 493) (.int (Int.ofNat 48) 492)), (.mk (HQ.hS w "__init__") (.str "__init__" 501) (.ref 250)), (.mk (HQ.hS w "__static_attributes__") (.str "__static_attributes__" 503) (.ref 251)), (.mk (HQ.hS w "__doc__") (.str "__doc__" 504) .none)]) 2) (.mk []))
def o2_253 (w : World) : Obj := (.mk (.type "type") none (.cls (PySem.ClassData.mk "NotABook" [(.ref 24)] [(.ref 253), (.ref 24), (.type "ValueError"), (.type "Exception"), (.type "BaseException"), (.type "object")] 252 "NotABook" true [] [] false none false)) (.mk [(some (.ref 237)), none, (some (.str "NotABook" 482)), (some (.str "NotABook" 490)), (some (.builtin "ValueError.__new__")), (some (.bool true))]))
def o2_254 (w : World) : Obj := (.mk (.type "super") none (.fields (.mk [(.ref 253), (.ref 253), (.ref 253)])) (.mk []))
def o2_255 (w : World) : Obj := (.mk (.type "builtin_function_or_method") none (.fields (.mk [(.builtin "object.__init_subclass__"), (.ref 253)])) (.mk []))
def o2_256 (w : World) : Obj := (.mk (.type "tuple") none (.seq (.mk [(.ref 24)]) 0) (.mk []))
def o2_257 (w : World) : Obj := (.mk (.type "builtin_function_or_method") none (.fields (.mk [(.builtin "type.__prepare__"), (.type "type")])) (.mk []))
def o2_258 (w : World) : Obj := (.mk (.type "dict") none (.dict (.mk [(.mk (HQ.hS w "__module__") (.str "__module__" 514) (.str "haulprices.errors" 187)), (.mk (HQ.hS w "__qualname__") (.str "__qualname__" 516) (.str "NotBounds" 515)), (.mk (HQ.hS w "__firstlineno__") (.str "__firstlineno__" 518) (.int (Int.ofNat 52) 517)), (.mk (HQ.hS w "__init__") (.str "__init__" 526) (.ref 269)), (.mk (HQ.hS w "__static_attributes__") (.str "__static_attributes__" 528) (.ref 270))]) 5) (.mk []))
def o2_259 (w : World) : Obj := (.mk (.type "tuple") none (.seq (.mk []) 0) (.mk []))
def o2_260 (w : World) : Obj := (.mk .none none (.fields (.mk [(.int (Int.ofNat 54) 0), (.int (Int.ofNat 4) 0), (.ref 268)])) (.mk []))
def o2_261 (w : World) : Obj := (.mk (.type "code") none (.fields (.mk [(.str "NotBounds" 509), (.str "NotBounds" 510), (.str "/claim/cut.py" 511), (.int (Int.ofNat 52) 0), (.int (Int.ofNat 0) 0), (.int (Int.ofNat 0) 0), (.int (Int.ofNat 0) 0), (.int (Int.ofNat 0) 0), (.ref 259), (.bool false), (.int (Int.ofNat 181) 0), (.ref 260), .none, .none, .none, .none, (.int (Int.ofNat 512) 0), (.int (Int.ofNat 52) 0), (.str "/claim/cut.py" 513)])) (.mk []))
def o2_262 (w : World) : Obj := (.mk (.type "frame") none .plain (.mk [(some (.ref 261)), (some (.ref 3)), (some (.ref 258)), none, (some (.str "haulprices.errors" 187)), none, (some (.ref 0))]))
def o2_263 (w : World) : Obj := (.mk (.type "tuple") none (.seq (.mk []) 0) (.mk []))
def o2_264 (w : World) : Obj := (.mk .none none (.fields (.mk [])) (.mk []))
def o2_265 (w : World) : Obj := (.mk (.type "tuple") none (.seq (.mk [(.str "self" 522), (.str "given" 523)]) 0) (.mk []))
def o2_266 (w : World) : Obj := (.mk (.type "tuple") none (.seq (.mk []) 0) (.mk []))
def o2_267 (w : World) : Obj := (.mk .none none (.func (FuncData.mk "__init__" "NotBounds.__init__" (L2.defArgs ((MP.clsB (HP.top 14)).getD 0 (.Pass ⟨0, 0, 0, 0⟩))) (FuncBody.stmts (L2.defBody ((MP.clsB (HP.top 14)).getD 0 (.Pass ⟨0, 0, 0, 0⟩)))) (L2.defScope ((MP.clsB (HP.top 14)).getD 0 (.Pass ⟨0, 0, 0, 0⟩))) 0 [] .none .none .none .none none .none .none 0)) (.mk []))
def o2_268 (w : World) : Obj := (.mk (.type "code") none (.fields (.mk [(.str "__init__" 519), (.str "NotBounds.__init__" 520), (.str "/claim/cut.py" 521), (.int (Int.ofNat 54) 0), (.int (Int.ofNat 2) 0), (.int (Int.ofNat 0) 0), (.int (Int.ofNat 0) 0), (.int (Int.ofNat 3) 0), (.ref 263), (.bool true), (.int (Int.ofNat 181) 0), (.ref 264), .none, (.ref 265), (.ref 266), (.ref 267), (.int (Int.ofNat 524) 0), (.int (Int.ofNat 54) 0), (.str "/claim/cut.py" 525)])) (.mk []))
def o2_269 (w : World) : Obj := (.mk (.type "function") none (.func (FuncData.mk "__init__" "NotBounds.__init__" (L2.defArgs ((MP.clsB (HP.top 14)).getD 0 (.Pass ⟨0, 0, 0, 0⟩))) (FuncBody.stmts (L2.defBody ((MP.clsB (HP.top 14)).getD 0 (.Pass ⟨0, 0, 0, 0⟩)))) (L2.defScope ((MP.clsB (HP.top 14)).getD 0 (.Pass ⟨0, 0, 0, 0⟩))) 3 [] .none .none .none (.str "haulprices.errors" 187) none (.ref 268) .none 0)) (.mk []))
def o2_270 (w : World) : Obj := (.mk (.type "tuple") none (.seq (.mk [(.str "given" 527)]) 0) (.mk []))
def o2_271 (w : World) : Obj := (.mk (.type "dict") none (.dict (.mk [(.mk (HQ.hS w "__module__") (.str "__module__" 514) (.str "haulprices.errors" 187)), (.mk (HQ.hS w "__firstlineno__") (.str "__firstlineno__" 518) (.int (Int.ofNat 52) 517)), (.mk (HQ.hS w "__init__") (.str "__init__" 526) (.ref 269)), (.mk (HQ.hS w "__static_attributes__") (.str "__static_attributes__" 528) (.ref 270)), (.mk (HQ.hS w "__doc__") (.str "__doc__" 529) .none)]) 2) (.mk []))
def o2_272 (w : World) : Obj := (.mk (.type "type") none (.cls (PySem.ClassData.mk "NotBounds" [(.ref 24)] [(.ref 272), (.ref 24), (.type "ValueError"), (.type "Exception"), (.type "BaseException"), (.type "object")] 271 "NotBounds" true [] [] false none false)) (.mk [(some (.ref 256)), none, (some (.str "NotBounds" 507)), (some (.str "NotBounds" 515)), (some (.builtin "ValueError.__new__")), (some (.bool true))]))
def o2_273 (w : World) : Obj := (.mk (.type "super") none (.fields (.mk [(.ref 272), (.ref 272), (.ref 272)])) (.mk []))
def o2_274 (w : World) : Obj := (.mk (.type "builtin_function_or_method") none (.fields (.mk [(.builtin "object.__init_subclass__"), (.ref 272)])) (.mk []))
def o2_275 (w : World) : Obj := (.mk (.type "tuple") none (.seq (.mk [(.ref 24)]) 0) (.mk []))
def o2_276 (w : World) : Obj := (.mk (.type "builtin_function_or_method") none (.fields (.mk [(.builtin "type.__prepare__"), (.type "type")])) (.mk []))
def o2_277 (w : World) : Obj := (.mk (.type "dict") none (.dict (.mk [(.mk (HQ.hS w "__module__") (.str "__module__" 539) (.str "haulprices.errors" 187)), (.mk (HQ.hS w "__qualname__") (.str "__qualname__" 541) (.str "NotATariff" 540)), (.mk (HQ.hS w "__firstlineno__") (.str "__firstlineno__" 543) (.int (Int.ofNat 56) 542)), (.mk (HQ.hS w "__init__") (.str "__init__" 551) (.ref 288)), (.mk (HQ.hS w "__static_attributes__") (.str "__static_attributes__" 553) (.ref 289))]) 5) (.mk []))
def o2_278 (w : World) : Obj := (.mk (.type "tuple") none (.seq (.mk []) 0) (.mk []))
def o2_279 (w : World) : Obj := (.mk .none none (.fields (.mk [(.int (Int.ofNat 58) 0), (.int (Int.ofNat 4) 0), (.ref 287)])) (.mk []))
def o2_280 (w : World) : Obj := (.mk (.type "code") none (.fields (.mk [(.str "NotATariff" 534), (.str "NotATariff" 535), (.str "/claim/cut.py" 536), (.int (Int.ofNat 56) 0), (.int (Int.ofNat 0) 0), (.int (Int.ofNat 0) 0), (.int (Int.ofNat 0) 0), (.int (Int.ofNat 0) 0), (.ref 278), (.bool false), (.int (Int.ofNat 181) 0), (.ref 279), .none, .none, .none, .none, (.int (Int.ofNat 537) 0), (.int (Int.ofNat 56) 0), (.str "/claim/cut.py" 538)])) (.mk []))
def o2_281 (w : World) : Obj := (.mk (.type "frame") none .plain (.mk [(some (.ref 280)), (some (.ref 3)), (some (.ref 277)), none, (some (.str "haulprices.errors" 187)), none, (some (.ref 0))]))
def o2_282 (w : World) : Obj := (.mk (.type "tuple") none (.seq (.mk []) 0) (.mk []))
def o2_283 (w : World) : Obj := (.mk .none none (.fields (.mk [])) (.mk []))
def o2_284 (w : World) : Obj := (.mk (.type "tuple") none (.seq (.mk [(.str "self" 547), (.str "given" 548)]) 0) (.mk []))
def o2_285 (w : World) : Obj := (.mk (.type "tuple") none (.seq (.mk []) 0) (.mk []))
def o2_286 (w : World) : Obj := (.mk .none none (.func (FuncData.mk "__init__" "NotATariff.__init__" (L2.defArgs ((MP.clsB (HP.top 15)).getD 0 (.Pass ⟨0, 0, 0, 0⟩))) (FuncBody.stmts (L2.defBody ((MP.clsB (HP.top 15)).getD 0 (.Pass ⟨0, 0, 0, 0⟩)))) (L2.defScope ((MP.clsB (HP.top 15)).getD 0 (.Pass ⟨0, 0, 0, 0⟩))) 0 [] .none .none .none .none none .none .none 0)) (.mk []))
def o2_287 (w : World) : Obj := (.mk (.type "code") none (.fields (.mk [(.str "__init__" 544), (.str "NotATariff.__init__" 545), (.str "/claim/cut.py" 546), (.int (Int.ofNat 58) 0), (.int (Int.ofNat 2) 0), (.int (Int.ofNat 0) 0), (.int (Int.ofNat 0) 0), (.int (Int.ofNat 3) 0), (.ref 282), (.bool true), (.int (Int.ofNat 181) 0), (.ref 283), .none, (.ref 284), (.ref 285), (.ref 286), (.int (Int.ofNat 549) 0), (.int (Int.ofNat 58) 0), (.str "/claim/cut.py" 550)])) (.mk []))
def o2_288 (w : World) : Obj := (.mk (.type "function") none (.func (FuncData.mk "__init__" "NotATariff.__init__" (L2.defArgs ((MP.clsB (HP.top 15)).getD 0 (.Pass ⟨0, 0, 0, 0⟩))) (FuncBody.stmts (L2.defBody ((MP.clsB (HP.top 15)).getD 0 (.Pass ⟨0, 0, 0, 0⟩)))) (L2.defScope ((MP.clsB (HP.top 15)).getD 0 (.Pass ⟨0, 0, 0, 0⟩))) 3 [] .none .none .none (.str "haulprices.errors" 187) none (.ref 287) .none 0)) (.mk []))
def o2_289 (w : World) : Obj := (.mk (.type "tuple") none (.seq (.mk [(.str "given" 552)]) 0) (.mk []))
def o2_290 (w : World) : Obj := (.mk (.type "dict") none (.dict (.mk [(.mk (HQ.hS w "__module__") (.str "__module__" 539) (.str "haulprices.errors" 187)), (.mk (HQ.hS w "__firstlineno__") (.str "__firstlineno__" 543) (.int (Int.ofNat 56) 542)), (.mk (HQ.hS w "__init__") (.str "__init__" 551) (.ref 288)), (.mk (HQ.hS w "__static_attributes__") (.str "__static_attributes__" 553) (.ref 289)), (.mk (HQ.hS w "__doc__") (.str "__doc__" 554) .none)]) 2) (.mk []))
def o2_291 (w : World) : Obj := (.mk (.type "type") none (.cls (PySem.ClassData.mk "NotATariff" [(.ref 24)] [(.ref 291), (.ref 24), (.type "ValueError"), (.type "Exception"), (.type "BaseException"), (.type "object")] 290 "NotATariff" true [] [] false none false)) (.mk [(some (.ref 275)), none, (some (.str "NotATariff" 532)), (some (.str "NotATariff" 540)), (some (.builtin "ValueError.__new__")), (some (.bool true))]))
def o2_292 (w : World) : Obj := (.mk (.type "super") none (.fields (.mk [(.ref 291), (.ref 291), (.ref 291)])) (.mk []))
def o2_293 (w : World) : Obj := (.mk (.type "builtin_function_or_method") none (.fields (.mk [(.builtin "object.__init_subclass__"), (.ref 291)])) (.mk []))
def o2_294 (w : World) : Obj := (.mk (.type "tuple") none (.seq (.mk [(.ref 24)]) 0) (.mk []))
def o2_295 (w : World) : Obj := (.mk (.type "builtin_function_or_method") none (.fields (.mk [(.builtin "type.__prepare__"), (.type "type")])) (.mk []))
def o2_296 (w : World) : Obj := (.mk (.type "dict") none (.dict (.mk [(.mk (HQ.hS w "__module__") (.str "__module__" 564) (.str "haulprices.errors" 187)), (.mk (HQ.hS w "__qualname__") (.str "__qualname__" 566) (.str "InvalidPrices" 565)), (.mk (HQ.hS w "__firstlineno__") (.str "__firstlineno__" 568) (.int (Int.ofNat 60) 567)), (.mk (HQ.hS w "__init__") (.str "__init__" 576) (.ref 307)), (.mk (HQ.hS w "__static_attributes__") (.str "__static_attributes__" 578) (.ref 308))]) 5) (.mk []))
def o2_297 (w : World) : Obj := (.mk (.type "tuple") none (.seq (.mk []) 0) (.mk []))
def o2_298 (w : World) : Obj := (.mk .none none (.fields (.mk [(.int (Int.ofNat 62) 0), (.int (Int.ofNat 4) 0), (.ref 306)])) (.mk []))
def o2_299 (w : World) : Obj := (.mk (.type "code") none (.fields (.mk [(.str "InvalidPrices" 559), (.str "InvalidPrices" 560), (.str "/claim/cut.py" 561), (.int (Int.ofNat 60) 0), (.int (Int.ofNat 0) 0), (.int (Int.ofNat 0) 0), (.int (Int.ofNat 0) 0), (.int (Int.ofNat 0) 0), (.ref 297), (.bool false), (.int (Int.ofNat 181) 0), (.ref 298), .none, .none, .none, .none, (.int (Int.ofNat 562) 0), (.int (Int.ofNat 60) 0), (.str "/claim/cut.py" 563)])) (.mk []))
def o2_300 (w : World) : Obj := (.mk (.type "frame") none .plain (.mk [(some (.ref 299)), (some (.ref 3)), (some (.ref 296)), none, (some (.str "haulprices.errors" 187)), none, (some (.ref 0))]))
def o2_301 (w : World) : Obj := (.mk (.type "tuple") none (.seq (.mk []) 0) (.mk []))
def o2_302 (w : World) : Obj := (.mk .none none (.fields (.mk [])) (.mk []))
def o2_303 (w : World) : Obj := (.mk (.type "tuple") none (.seq (.mk [(.str "self" 572), (.str "index" 573)]) 0) (.mk []))
def o2_304 (w : World) : Obj := (.mk (.type "tuple") none (.seq (.mk []) 0) (.mk []))
def o2_305 (w : World) : Obj := (.mk .none none (.func (FuncData.mk "__init__" "InvalidPrices.__init__" (L2.defArgs ((MP.clsB (HP.top 16)).getD 0 (.Pass ⟨0, 0, 0, 0⟩))) (FuncBody.stmts (L2.defBody ((MP.clsB (HP.top 16)).getD 0 (.Pass ⟨0, 0, 0, 0⟩)))) (L2.defScope ((MP.clsB (HP.top 16)).getD 0 (.Pass ⟨0, 0, 0, 0⟩))) 0 [] .none .none .none .none none .none .none 0)) (.mk []))
def o2_306 (w : World) : Obj := (.mk (.type "code") none (.fields (.mk [(.str "__init__" 569), (.str "InvalidPrices.__init__" 570), (.str "/claim/cut.py" 571), (.int (Int.ofNat 62) 0), (.int (Int.ofNat 2) 0), (.int (Int.ofNat 0) 0), (.int (Int.ofNat 0) 0), (.int (Int.ofNat 3) 0), (.ref 301), (.bool true), (.int (Int.ofNat 181) 0), (.ref 302), .none, (.ref 303), (.ref 304), (.ref 305), (.int (Int.ofNat 574) 0), (.int (Int.ofNat 62) 0), (.str "/claim/cut.py" 575)])) (.mk []))
def o2_307 (w : World) : Obj := (.mk (.type "function") none (.func (FuncData.mk "__init__" "InvalidPrices.__init__" (L2.defArgs ((MP.clsB (HP.top 16)).getD 0 (.Pass ⟨0, 0, 0, 0⟩))) (FuncBody.stmts (L2.defBody ((MP.clsB (HP.top 16)).getD 0 (.Pass ⟨0, 0, 0, 0⟩)))) (L2.defScope ((MP.clsB (HP.top 16)).getD 0 (.Pass ⟨0, 0, 0, 0⟩))) 3 [] .none .none .none (.str "haulprices.errors" 187) none (.ref 306) .none 0)) (.mk []))
def o2_308 (w : World) : Obj := (.mk (.type "tuple") none (.seq (.mk [(.str "index" 577)]) 0) (.mk []))
def o2_309 (w : World) : Obj := (.mk (.type "dict") none (.dict (.mk [(.mk (HQ.hS w "__module__") (.str "__module__" 564) (.str "haulprices.errors" 187)), (.mk (HQ.hS w "__firstlineno__") (.str "__firstlineno__" 568) (.int (Int.ofNat 60) 567)), (.mk (HQ.hS w "__init__") (.str "__init__" 576) (.ref 307)), (.mk (HQ.hS w "__static_attributes__") (.str "__static_attributes__" 578) (.ref 308)), (.mk (HQ.hS w "__doc__") (.str "__doc__" 579) .none)]) 2) (.mk []))
def o2_310 (w : World) : Obj := (.mk (.type "type") none (.cls (PySem.ClassData.mk "InvalidPrices" [(.ref 24)] [(.ref 310), (.ref 24), (.type "ValueError"), (.type "Exception"), (.type "BaseException"), (.type "object")] 309 "InvalidPrices" true [] [] false none false)) (.mk [(some (.ref 294)), none, (some (.str "InvalidPrices" 557)), (some (.str "InvalidPrices" 565)), (some (.builtin "ValueError.__new__")), (some (.bool true))]))
def o2_311 (w : World) : Obj := (.mk (.type "super") none (.fields (.mk [(.ref 310), (.ref 310), (.ref 310)])) (.mk []))
def o2_312 (w : World) : Obj := (.mk (.type "builtin_function_or_method") none (.fields (.mk [(.builtin "object.__init_subclass__"), (.ref 310)])) (.mk []))
def o2_313 (w : World) : Obj := (.mk (.type "tuple") none (.seq (.mk [(.ref 24)]) 0) (.mk []))
def o2_314 (w : World) : Obj := (.mk (.type "builtin_function_or_method") none (.fields (.mk [(.builtin "type.__prepare__"), (.type "type")])) (.mk []))
def o2_315 (w : World) : Obj := (.mk (.type "dict") none (.dict (.mk [(.mk (HQ.hS w "__module__") (.str "__module__" 589) (.str "haulprices.errors" 187)), (.mk (HQ.hS w "__qualname__") (.str "__qualname__" 591) (.str "InvalidRanges" 590)), (.mk (HQ.hS w "__firstlineno__") (.str "__firstlineno__" 593) (.int (Int.ofNat 64) 592)), (.mk (HQ.hS w "__init__") (.str "__init__" 601) (.ref 326)), (.mk (HQ.hS w "__static_attributes__") (.str "__static_attributes__" 603) (.ref 327))]) 5) (.mk []))
def o2_316 (w : World) : Obj := (.mk (.type "tuple") none (.seq (.mk []) 0) (.mk []))
def o2_317 (w : World) : Obj := (.mk .none none (.fields (.mk [(.int (Int.ofNat 66) 0), (.int (Int.ofNat 4) 0), (.ref 325)])) (.mk []))
def o2_318 (w : World) : Obj := (.mk (.type "code") none (.fields (.mk [(.str "InvalidRanges" 584), (.str "InvalidRanges" 585), (.str "/claim/cut.py" 586), (.int (Int.ofNat 64) 0), (.int (Int.ofNat 0) 0), (.int (Int.ofNat 0) 0), (.int (Int.ofNat 0) 0), (.int (Int.ofNat 0) 0), (.ref 316), (.bool false), (.int (Int.ofNat 181) 0), (.ref 317), .none, .none, .none, .none, (.int (Int.ofNat 587) 0), (.int (Int.ofNat 64) 0), (.str "/claim/cut.py" 588)])) (.mk []))
def o2_319 (w : World) : Obj := (.mk (.type "frame") none .plain (.mk [(some (.ref 318)), (some (.ref 3)), (some (.ref 315)), none, (some (.str "haulprices.errors" 187)), none, (some (.ref 0))]))
def o2_320 (w : World) : Obj := (.mk (.type "tuple") none (.seq (.mk []) 0) (.mk []))
def o2_321 (w : World) : Obj := (.mk .none none (.fields (.mk [])) (.mk []))
def o2_322 (w : World) : Obj := (.mk (.type "tuple") none (.seq (.mk [(.str "self" 597), (.str "index" 598)]) 0) (.mk []))
def o2_323 (w : World) : Obj := (.mk (.type "tuple") none (.seq (.mk []) 0) (.mk []))
def o2_324 (w : World) : Obj := (.mk .none none (.func (FuncData.mk "__init__" "InvalidRanges.__init__" (L2.defArgs ((MP.clsB (HP.top 17)).getD 0 (.Pass ⟨0, 0, 0, 0⟩))) (FuncBody.stmts (L2.defBody ((MP.clsB (HP.top 17)).getD 0 (.Pass ⟨0, 0, 0, 0⟩)))) (L2.defScope ((MP.clsB (HP.top 17)).getD 0 (.Pass ⟨0, 0, 0, 0⟩))) 0 [] .none .none .none .none none .none .none 0)) (.mk []))
def o2_325 (w : World) : Obj := (.mk (.type "code") none (.fields (.mk [(.str "__init__" 594), (.str "InvalidRanges.__init__" 595), (.str "/claim/cut.py" 596), (.int (Int.ofNat 66) 0), (.int (Int.ofNat 2) 0), (.int (Int.ofNat 0) 0), (.int (Int.ofNat 0) 0), (.int (Int.ofNat 3) 0), (.ref 320), (.bool true), (.int (Int.ofNat 181) 0), (.ref 321), .none, (.ref 322), (.ref 323), (.ref 324), (.int (Int.ofNat 599) 0), (.int (Int.ofNat 66) 0), (.str "/claim/cut.py" 600)])) (.mk []))
def o2_326 (w : World) : Obj := (.mk (.type "function") none (.func (FuncData.mk "__init__" "InvalidRanges.__init__" (L2.defArgs ((MP.clsB (HP.top 17)).getD 0 (.Pass ⟨0, 0, 0, 0⟩))) (FuncBody.stmts (L2.defBody ((MP.clsB (HP.top 17)).getD 0 (.Pass ⟨0, 0, 0, 0⟩)))) (L2.defScope ((MP.clsB (HP.top 17)).getD 0 (.Pass ⟨0, 0, 0, 0⟩))) 3 [] .none .none .none (.str "haulprices.errors" 187) none (.ref 325) .none 0)) (.mk []))
def o2_327 (w : World) : Obj := (.mk (.type "tuple") none (.seq (.mk [(.str "index" 602)]) 0) (.mk []))
def o2_328 (w : World) : Obj := (.mk (.type "dict") none (.dict (.mk [(.mk (HQ.hS w "__module__") (.str "__module__" 589) (.str "haulprices.errors" 187)), (.mk (HQ.hS w "__firstlineno__") (.str "__firstlineno__" 593) (.int (Int.ofNat 64) 592)), (.mk (HQ.hS w "__init__") (.str "__init__" 601) (.ref 326)), (.mk (HQ.hS w "__static_attributes__") (.str "__static_attributes__" 603) (.ref 327)), (.mk (HQ.hS w "__doc__") (.str "__doc__" 604) .none)]) 2) (.mk []))
def o2_329 (w : World) : Obj := (.mk (.type "type") none (.cls (PySem.ClassData.mk "InvalidRanges" [(.ref 24)] [(.ref 329), (.ref 24), (.type "ValueError"), (.type "Exception"), (.type "BaseException"), (.type "object")] 328 "InvalidRanges" true [] [] false none false)) (.mk [(some (.ref 313)), none, (some (.str "InvalidRanges" 582)), (some (.str "InvalidRanges" 590)), (some (.builtin "ValueError.__new__")), (some (.bool true))]))
def o2_330 (w : World) : Obj := (.mk (.type "super") none (.fields (.mk [(.ref 329), (.ref 329), (.ref 329)])) (.mk []))
def o2_331 (w : World) : Obj := (.mk (.type "builtin_function_or_method") none (.fields (.mk [(.builtin "object.__init_subclass__"), (.ref 329)])) (.mk []))
def o2_332 (w : World) : Obj := (.mk (.type "tuple") none (.seq (.mk [(.ref 24)]) 0) (.mk []))
def o2_333 (w : World) : Obj := (.mk (.type "builtin_function_or_method") none (.fields (.mk [(.builtin "type.__prepare__"), (.type "type")])) (.mk []))
def o2_334 (w : World) : Obj := (.mk (.type "dict") none (.dict (.mk [(.mk (HQ.hS w "__module__") (.str "__module__" 614) (.str "haulprices.errors" 187)), (.mk (HQ.hS w "__qualname__") (.str "__qualname__" 616) (.str "InvalidTickets" 615)), (.mk (HQ.hS w "__firstlineno__") (.str "__firstlineno__" 618) (.int (Int.ofNat 68) 617)), (.mk (HQ.hS w "__init__") (.str "__init__" 626) (.ref 345)), (.mk (HQ.hS w "__static_attributes__") (.str "__static_attributes__" 628) (.ref 346))]) 5) (.mk []))
def o2_335 (w : World) : Obj := (.mk (.type "tuple") none (.seq (.mk []) 0) (.mk []))
def o2_336 (w : World) : Obj := (.mk .none none (.fields (.mk [(.int (Int.ofNat 70) 0), (.int (Int.ofNat 4) 0), (.ref 344)])) (.mk []))
def o2_337 (w : World) : Obj := (.mk (.type "code") none (.fields (.mk [(.str "InvalidTickets" 609), (.str "InvalidTickets" 610), (.str "/claim/cut.py" 611), (.int (Int.ofNat 68) 0), (.int (Int.ofNat 0) 0), (.int (Int.ofNat 0) 0), (.int (Int.ofNat 0) 0), (.int (Int.ofNat 0) 0), (.ref 335), (.bool false), (.int (Int.ofNat 181) 0), (.ref 336), .none, .none, .none, .none, (.int (Int.ofNat 612) 0), (.int (Int.ofNat 68) 0), (.str "/claim/cut.py" 613)])) (.mk []))
def o2_338 (w : World) : Obj := (.mk (.type "frame") none .plain (.mk [(some (.ref 337)), (some (.ref 3)), (some (.ref 334)), none, (some (.str "haulprices.errors" 187)), none, (some (.ref 0))]))
def o2_339 (w : World) : Obj := (.mk (.type "tuple") none (.seq (.mk []) 0) (.mk []))
def o2_340 (w : World) : Obj := (.mk .none none (.fields (.mk [])) (.mk []))
def o2_341 (w : World) : Obj := (.mk (.type "tuple") none (.seq (.mk [(.str "self" 622), (.str "index" 623)]) 0) (.mk []))
def o2_342 (w : World) : Obj := (.mk (.type "tuple") none (.seq (.mk []) 0) (.mk []))
def o2_343 (w : World) : Obj := (.mk .none none (.func (FuncData.mk "__init__" "InvalidTickets.__init__" (L2.defArgs ((MP.clsB (HP.top 18)).getD 0 (.Pass ⟨0, 0, 0, 0⟩))) (FuncBody.stmts (L2.defBody ((MP.clsB (HP.top 18)).getD 0 (.Pass ⟨0, 0, 0, 0⟩)))) (L2.defScope ((MP.clsB (HP.top 18)).getD 0 (.Pass ⟨0, 0, 0, 0⟩))) 0 [] .none .none .none .none none .none .none 0)) (.mk []))
def o2_344 (w : World) : Obj := (.mk (.type "code") none (.fields (.mk [(.str "__init__" 619), (.str "InvalidTickets.__init__" 620), (.str "/claim/cut.py" 621), (.int (Int.ofNat 70) 0), (.int (Int.ofNat 2) 0), (.int (Int.ofNat 0) 0), (.int (Int.ofNat 0) 0), (.int (Int.ofNat 3) 0), (.ref 339), (.bool true), (.int (Int.ofNat 181) 0), (.ref 340), .none, (.ref 341), (.ref 342), (.ref 343), (.int (Int.ofNat 624) 0), (.int (Int.ofNat 70) 0), (.str "/claim/cut.py" 625)])) (.mk []))
def o2_345 (w : World) : Obj := (.mk (.type "function") none (.func (FuncData.mk "__init__" "InvalidTickets.__init__" (L2.defArgs ((MP.clsB (HP.top 18)).getD 0 (.Pass ⟨0, 0, 0, 0⟩))) (FuncBody.stmts (L2.defBody ((MP.clsB (HP.top 18)).getD 0 (.Pass ⟨0, 0, 0, 0⟩)))) (L2.defScope ((MP.clsB (HP.top 18)).getD 0 (.Pass ⟨0, 0, 0, 0⟩))) 3 [] .none .none .none (.str "haulprices.errors" 187) none (.ref 344) .none 0)) (.mk []))
def o2_346 (w : World) : Obj := (.mk (.type "tuple") none (.seq (.mk [(.str "index" 627)]) 0) (.mk []))
def o2_347 (w : World) : Obj := (.mk (.type "dict") none (.dict (.mk [(.mk (HQ.hS w "__module__") (.str "__module__" 614) (.str "haulprices.errors" 187)), (.mk (HQ.hS w "__firstlineno__") (.str "__firstlineno__" 618) (.int (Int.ofNat 68) 617)), (.mk (HQ.hS w "__init__") (.str "__init__" 626) (.ref 345)), (.mk (HQ.hS w "__static_attributes__") (.str "__static_attributes__" 628) (.ref 346)), (.mk (HQ.hS w "__doc__") (.str "__doc__" 629) .none)]) 2) (.mk []))
def o2_348 (w : World) : Obj := (.mk (.type "type") none (.cls (PySem.ClassData.mk "InvalidTickets" [(.ref 24)] [(.ref 348), (.ref 24), (.type "ValueError"), (.type "Exception"), (.type "BaseException"), (.type "object")] 347 "InvalidTickets" true [] [] false none false)) (.mk [(some (.ref 332)), none, (some (.str "InvalidTickets" 607)), (some (.str "InvalidTickets" 615)), (some (.builtin "ValueError.__new__")), (some (.bool true))]))
def o2_349 (w : World) : Obj := (.mk (.type "super") none (.fields (.mk [(.ref 348), (.ref 348), (.ref 348)])) (.mk []))
def o2_350 (w : World) : Obj := (.mk (.type "builtin_function_or_method") none (.fields (.mk [(.builtin "object.__init_subclass__"), (.ref 348)])) (.mk []))
def o2_351 (w : World) : Obj := (.mk (.type "tuple") none (.seq (.mk [(.ref 24)]) 0) (.mk []))
def o2_352 (w : World) : Obj := (.mk (.type "builtin_function_or_method") none (.fields (.mk [(.builtin "type.__prepare__"), (.type "type")])) (.mk []))
def o2_353 (w : World) : Obj := (.mk (.type "dict") none (.dict (.mk [(.mk (HQ.hS w "__module__") (.str "__module__" 639) (.str "haulprices.errors" 187)), (.mk (HQ.hS w "__qualname__") (.str "__qualname__" 641) (.str "InvalidTariff" 640)), (.mk (HQ.hS w "__firstlineno__") (.str "__firstlineno__" 643) (.int (Int.ofNat 72) 642)), (.mk (HQ.hS w "__init__") (.str "__init__" 651) (.ref 364)), (.mk (HQ.hS w "__static_attributes__") (.str "__static_attributes__" 653) (.ref 365))]) 5) (.mk []))
def o2_354 (w : World) : Obj := (.mk (.type "tuple") none (.seq (.mk []) 0) (.mk []))
def o2_355 (w : World) : Obj := (.mk .none none (.fields (.mk [(.int (Int.ofNat 74) 0), (.int (Int.ofNat 4) 0), (.ref 363)])) (.mk []))
def o2_356 (w : World) : Obj := (.mk (.type "code") none (.fields (.mk [(.str "InvalidTariff" 634), (.str "InvalidTariff" 635), (.str "/claim/cut.py" 636), (.int (Int.ofNat 72) 0), (.int (Int.ofNat 0) 0), (.int (Int.ofNat 0) 0), (.int (Int.ofNat 0) 0), (.int (Int.ofNat 0) 0), (.ref 354), (.bool false), (.int (Int.ofNat 181) 0), (.ref 355), .none, .none, .none, .none, (.int (Int.ofNat 637) 0), (.int (Int.ofNat 72) 0), (.str "/claim/cut.py" 638)])) (.mk []))
def o2_357 (w : World) : Obj := (.mk (.type "frame") none .plain (.mk [(some (.ref 356)), (some (.ref 3)), (some (.ref 353)), none, (some (.str "haulprices.errors" 187)), none, (some (.ref 0))]))
def o2_358 (w : World) : Obj := (.mk (.type "tuple") none (.seq (.mk []) 0) (.mk []))
def o2_359 (w : World) : Obj := (.mk .none none (.fields (.mk [])) (.mk []))
def o2_360 (w : World) : Obj := (.mk (.type "tuple") none (.seq (.mk [(.str "self" 647), (.str "index" 648)]) 0) (.mk []))
def o2_361 (w : World) : Obj := (.mk (.type "tuple") none (.seq (.mk []) 0) (.mk []))
def o2_362 (w : World) : Obj := (.mk .none none (.func (FuncData.mk "__init__" "InvalidTariff.__init__" (L2.defArgs ((MP.clsB (HP.top 19)).getD 0 (.Pass ⟨0, 0, 0, 0⟩))) (FuncBody.stmts (L2.defBody ((MP.clsB (HP.top 19)).getD 0 (.Pass ⟨0, 0, 0, 0⟩)))) (L2.defScope ((MP.clsB (HP.top 19)).getD 0 (.Pass ⟨0, 0, 0, 0⟩))) 0 [] .none .none .none .none none .none .none 0)) (.mk []))
def o2_363 (w : World) : Obj := (.mk (.type "code") none (.fields (.mk [(.str "__init__" 644), (.str "InvalidTariff.__init__" 645), (.str "/claim/cut.py" 646), (.int (Int.ofNat 74) 0), (.int (Int.ofNat 2) 0), (.int (Int.ofNat 0) 0), (.int (Int.ofNat 0) 0), (.int (Int.ofNat 3) 0), (.ref 358), (.bool true), (.int (Int.ofNat 181) 0), (.ref 359), .none, (.ref 360), (.ref 361), (.ref 362), (.int (Int.ofNat 649) 0), (.int (Int.ofNat 74) 0), (.str "/claim/cut.py" 650)])) (.mk []))
def o2_364 (w : World) : Obj := (.mk (.type "function") none (.func (FuncData.mk "__init__" "InvalidTariff.__init__" (L2.defArgs ((MP.clsB (HP.top 19)).getD 0 (.Pass ⟨0, 0, 0, 0⟩))) (FuncBody.stmts (L2.defBody ((MP.clsB (HP.top 19)).getD 0 (.Pass ⟨0, 0, 0, 0⟩)))) (L2.defScope ((MP.clsB (HP.top 19)).getD 0 (.Pass ⟨0, 0, 0, 0⟩))) 3 [] .none .none .none (.str "haulprices.errors" 187) none (.ref 363) .none 0)) (.mk []))
def o2_365 (w : World) : Obj := (.mk (.type "tuple") none (.seq (.mk [(.str "index" 652)]) 0) (.mk []))
def o2_366 (w : World) : Obj := (.mk (.type "dict") none (.dict (.mk [(.mk (HQ.hS w "__module__") (.str "__module__" 639) (.str "haulprices.errors" 187)), (.mk (HQ.hS w "__firstlineno__") (.str "__firstlineno__" 643) (.int (Int.ofNat 72) 642)), (.mk (HQ.hS w "__init__") (.str "__init__" 651) (.ref 364)), (.mk (HQ.hS w "__static_attributes__") (.str "__static_attributes__" 653) (.ref 365)), (.mk (HQ.hS w "__doc__") (.str "__doc__" 654) .none)]) 2) (.mk []))
def o2_367 (w : World) : Obj := (.mk (.type "type") none (.cls (PySem.ClassData.mk "InvalidTariff" [(.ref 24)] [(.ref 367), (.ref 24), (.type "ValueError"), (.type "Exception"), (.type "BaseException"), (.type "object")] 366 "InvalidTariff" true [] [] false none false)) (.mk [(some (.ref 351)), none, (some (.str "InvalidTariff" 632)), (some (.str "InvalidTariff" 640)), (some (.builtin "ValueError.__new__")), (some (.bool true))]))
def o2_368 (w : World) : Obj := (.mk (.type "super") none (.fields (.mk [(.ref 367), (.ref 367), (.ref 367)])) (.mk []))
def o2_369 (w : World) : Obj := (.mk (.type "builtin_function_or_method") none (.fields (.mk [(.builtin "object.__init_subclass__"), (.ref 367)])) (.mk []))
def o2_370 (w : World) : Obj := (.mk (.type "tuple") none (.seq (.mk [(.ref 24)]) 0) (.mk []))
def o2_371 (w : World) : Obj := (.mk (.type "builtin_function_or_method") none (.fields (.mk [(.builtin "type.__prepare__"), (.type "type")])) (.mk []))
def o2_372 (w : World) : Obj := (.mk (.type "dict") none (.dict (.mk [(.mk (HQ.hS w "__module__") (.str "__module__" 664) (.str "haulprices.errors" 187)), (.mk (HQ.hS w "__qualname__") (.str "__qualname__" 666) (.str "InvalidCoins" 665)), (.mk (HQ.hS w "__firstlineno__") (.str "__firstlineno__" 668) (.int (Int.ofNat 76) 667)), (.mk (HQ.hS w "__init__") (.str "__init__" 676) (.ref 383)), (.mk (HQ.hS w "__static_attributes__") (.str "__static_attributes__" 678) (.ref 384))]) 5) (.mk []))
def o2_373 (w : World) : Obj := (.mk (.type "tuple") none (.seq (.mk []) 0) (.mk []))
def o2_374 (w : World) : Obj := (.mk .none none (.fields (.mk [(.int (Int.ofNat 78) 0), (.int (Int.ofNat 4) 0), (.ref 382)])) (.mk []))
def o2_375 (w : World) : Obj := (.mk (.type "code") none (.fields (.mk [(.str "InvalidCoins" 659), (.str "InvalidCoins" 660), (.str "/claim/cut.py" 661), (.int (Int.ofNat 76) 0), (.int (Int.ofNat 0) 0), (.int (Int.ofNat 0) 0), (.int (Int.ofNat 0) 0), (.int (Int.ofNat 0) 0), (.ref 373), (.bool false), (.int (Int.ofNat 181) 0), (.ref 374), .none, .none, .none, .none, (.int (Int.ofNat 662) 0), (.int (Int.ofNat 76) 0), (.str "/claim/cut.py" 663)])) (.mk []))
def o2_376 (w : World) : Obj := (.mk (.type "frame") none .plain (.mk [(some (.ref 375)), (some (.ref 3)), (some (.ref 372)), none, (some (.str "haulprices.errors" 187)), none, (some (.ref 0))]))
def o2_377 (w : World) : Obj := (.mk (.type "tuple") none (.seq (.mk []) 0) (.mk []))
def o2_378 (w : World) : Obj := (.mk .none none (.fields (.mk [])) (.mk []))
def o2_379 (w : World) : Obj := (.mk (.type "tuple") none (.seq (.mk [(.str "self" 672), (.str "index" 673)]) 0) (.mk []))
def o2_380 (w : World) : Obj := (.mk (.type "tuple") none (.seq (.mk []) 0) (.mk []))
def o2_381 (w : World) : Obj := (.mk .none none (.func (FuncData.mk "__init__" "InvalidCoins.__init__" (L2.defArgs ((MP.clsB (HP.top 20)).getD 0 (.Pass ⟨0, 0, 0, 0⟩))) (FuncBody.stmts (L2.defBody ((MP.clsB (HP.top 20)).getD 0 (.Pass ⟨0, 0, 0, 0⟩)))) (L2.defScope ((MP.clsB (HP.top 20)).getD 0 (.Pass ⟨0, 0, 0, 0⟩))) 0 [] .none .none .none .none none .none .none 0)) (.mk []))
def o2_382 (w : World) : Obj := (.mk (.type "code") none (.fields (.mk [(.str "__init__" 669), (.str "InvalidCoins.__init__" 670), (.str "/claim/cut.py" 671), (.int (Int.ofNat 78) 0), (.int (Int.ofNat 2) 0), (.int (Int.ofNat 0) 0), (.int (Int.ofNat 0) 0), (.int (Int.ofNat 3) 0), (.ref 377), (.bool true), (.int (Int.ofNat 181) 0), (.ref 378), .none, (.ref 379), (.ref 380), (.ref 381), (.int (Int.ofNat 674) 0), (.int (Int.ofNat 78) 0), (.str "/claim/cut.py" 675)])) (.mk []))
def o2_383 (w : World) : Obj := (.mk (.type "function") none (.func (FuncData.mk "__init__" "InvalidCoins.__init__" (L2.defArgs ((MP.clsB (HP.top 20)).getD 0 (.Pass ⟨0, 0, 0, 0⟩))) (FuncBody.stmts (L2.defBody ((MP.clsB (HP.top 20)).getD 0 (.Pass ⟨0, 0, 0, 0⟩)))) (L2.defScope ((MP.clsB (HP.top 20)).getD 0 (.Pass ⟨0, 0, 0, 0⟩))) 3 [] .none .none .none (.str "haulprices.errors" 187) none (.ref 382) .none 0)) (.mk []))
def o2_384 (w : World) : Obj := (.mk (.type "tuple") none (.seq (.mk [(.str "index" 677)]) 0) (.mk []))
def o2_385 (w : World) : Obj := (.mk (.type "dict") none (.dict (.mk [(.mk (HQ.hS w "__module__") (.str "__module__" 664) (.str "haulprices.errors" 187)), (.mk (HQ.hS w "__firstlineno__") (.str "__firstlineno__" 668) (.int (Int.ofNat 76) 667)), (.mk (HQ.hS w "__init__") (.str "__init__" 676) (.ref 383)), (.mk (HQ.hS w "__static_attributes__") (.str "__static_attributes__" 678) (.ref 384)), (.mk (HQ.hS w "__doc__") (.str "__doc__" 679) .none)]) 2) (.mk []))
def o2_386 (w : World) : Obj := (.mk (.type "type") none (.cls (PySem.ClassData.mk "InvalidCoins" [(.ref 24)] [(.ref 386), (.ref 24), (.type "ValueError"), (.type "Exception"), (.type "BaseException"), (.type "object")] 385 "InvalidCoins" true [] [] false none false)) (.mk [(some (.ref 370)), none, (some (.str "InvalidCoins" 657)), (some (.str "InvalidCoins" 665)), (some (.builtin "ValueError.__new__")), (some (.bool true))]))
def o2_387 (w : World) : Obj := (.mk (.type "super") none (.fields (.mk [(.ref 386), (.ref 386), (.ref 386)])) (.mk []))
def o2_388 (w : World) : Obj := (.mk (.type "builtin_function_or_method") none (.fields (.mk [(.builtin "object.__init_subclass__"), (.ref 386)])) (.mk []))
def o2_389 (w : World) : Obj := (.mk (.type "tuple") none (.seq (.mk [(.ref 24)]) 0) (.mk []))
def o2_390 (w : World) : Obj := (.mk (.type "builtin_function_or_method") none (.fields (.mk [(.builtin "type.__prepare__"), (.type "type")])) (.mk []))
def o2_391 (w : World) : Obj := (.mk (.type "dict") none (.dict (.mk [(.mk (HQ.hS w "__module__") (.str "__module__" 689) (.str "haulprices.errors" 187)), (.mk (HQ.hS w "__qualname__") (.str "__qualname__" 691) (.str "WrongRow" 690)), (.mk (HQ.hS w "__firstlineno__") (.str "__firstlineno__" 693) (.int (Int.ofNat 80) 692)), (.mk (HQ.hS w "__init__") (.str "__init__" 701) (.ref 402)), (.mk (HQ.hS w "__static_attributes__") (.str "__static_attributes__" 703) (.ref 403))]) 5) (.mk []))
def o2_392 (w : World) : Obj := (.mk (.type "tuple") none (.seq (.mk []) 0) (.mk []))
def o2_393 (w : World) : Obj := (.mk .none none (.fields (.mk [(.int (Int.ofNat 82) 0), (.int (Int.ofNat 4) 0), (.ref 401)])) (.mk []))
def o2_394 (w : World) : Obj := (.mk (.type "code") none (.fields (.mk [(.str "WrongRow" 684), (.str "WrongRow" 685), (.str "/claim/cut.py" 686), (.int (Int.ofNat 80) 0), (.int (Int.ofNat 0) 0), (.int (Int.ofNat 0) 0), (.int (Int.ofNat 0) 0), (.int (Int.ofNat 0) 0), (.ref 392), (.bool false), (.int (Int.ofNat 181) 0), (.ref 393), .none, .none, .none, .none, (.int (Int.ofNat 687) 0), (.int (Int.ofNat 80) 0), (.str "/claim/cut.py" 688)])) (.mk []))
def o2_395 (w : World) : Obj := (.mk (.type "frame") none .plain (.mk [(some (.ref 394)), (some (.ref 3)), (some (.ref 391)), none, (some (.str "haulprices.errors" 187)), none, (some (.ref 0))]))
def o2_396 (w : World) : Obj := (.mk (.type "tuple") none (.seq (.mk []) 0) (.mk []))
def o2_397 (w : World) : Obj := (.mk .none none (.fields (.mk [])) (.mk []))
def o2_398 (w : World) : Obj := (.mk (.type "tuple") none (.seq (.mk [(.str "self" 697), (.str "index" 698)]) 0) (.mk []))
def o2_399 (w : World) : Obj := (.mk (.type "tuple") none (.seq (.mk []) 0) (.mk []))
def o2_400 (w : World) : Obj := (.mk .none none (.func (FuncData.mk "__init__" "WrongRow.__init__" (L2.defArgs ((MP.clsB (HP.top 21)).getD 0 (.Pass ⟨0, 0, 0, 0⟩))) (FuncBody.stmts (L2.defBody ((MP.clsB (HP.top 21)).getD 0 (.Pass ⟨0, 0, 0, 0⟩)))) (L2.defScope ((MP.clsB (HP.top 21)).getD 0 (.Pass ⟨0, 0, 0, 0⟩))) 0 [] .none .none .none .none none .none .none 0)) (.mk []))
def o2_401 (w : World) : Obj := (.mk (.type "code") none (.fields (.mk [(.str "__init__" 694), (.str "WrongRow.__init__" 695), (.str "/claim/cut.py" 696), (.int (Int.ofNat 82) 0), (.int (Int.ofNat 2) 0), (.int (Int.ofNat 0) 0), (.int (Int.ofNat 0) 0), (.int (Int.ofNat 3) 0), (.ref 396), (.bool true), (.int (Int.ofNat 181) 0), (.ref 397), .none, (.ref 398), (.ref 399), (.ref 400), (.int (Int.ofNat 699) 0), (.int (Int.ofNat 82) 0), (.str "/claim/cut.py" 700)])) (.mk []))
def o2_402 (w : World) : Obj := (.mk (.type "function") none (.func (FuncData.mk "__init__" "WrongRow.__init__" (L2.defArgs ((MP.clsB (HP.top 21)).getD 0 (.Pass ⟨0, 0, 0, 0⟩))) (FuncBody.stmts (L2.defBody ((MP.clsB (HP.top 21)).getD 0 (.Pass ⟨0, 0, 0, 0⟩)))) (L2.defScope ((MP.clsB (HP.top 21)).getD 0 (.Pass ⟨0, 0, 0, 0⟩))) 3 [] .none .none .none (.str "haulprices.errors" 187) none (.ref 401) .none 0)) (.mk []))
def o2_403 (w : World) : Obj := (.mk (.type "tuple") none (.seq (.mk [(.str "index" 702)]) 0) (.mk []))
def o2_404 (w : World) : Obj := (.mk (.type "dict") none (.dict (.mk [(.mk (HQ.hS w "__module__") (.str "__module__" 689) (.str "haulprices.errors" 187)), (.mk (HQ.hS w "__firstlineno__") (.str "__firstlineno__" 693) (.int (Int.ofNat 80) 692)), (.mk (HQ.hS w "__init__") (.str "__init__" 701) (.ref 402)), (.mk (HQ.hS w "__static_attributes__") (.str "__static_attributes__" 703) (.ref 403)), (.mk (HQ.hS w "__doc__") (.str "__doc__" 704) .none)]) 2) (.mk []))
def o2_405 (w : World) : Obj := (.mk (.type "type") none (.cls (PySem.ClassData.mk "WrongRow" [(.ref 24)] [(.ref 405), (.ref 24), (.type "ValueError"), (.type "Exception"), (.type "BaseException"), (.type "object")] 404 "WrongRow" true [] [] false none false)) (.mk [(some (.ref 389)), none, (some (.str "WrongRow" 682)), (some (.str "WrongRow" 690)), (some (.builtin "ValueError.__new__")), (some (.bool true))]))
def o2_406 (w : World) : Obj := (.mk (.type "super") none (.fields (.mk [(.ref 405), (.ref 405), (.ref 405)])) (.mk []))
def o2_407 (w : World) : Obj := (.mk (.type "builtin_function_or_method") none (.fields (.mk [(.builtin "object.__init_subclass__"), (.ref 405)])) (.mk []))
def l2_0 (w : World) : List Obj := [o1_0 w, o1_1 w, o1_2 w, o2_3 w, o1_4 w, o1_5 w, o1_6 w, o1_7 w, o1_8 w, o1_9 w, o1_10 w, o1_11 w, o2_12 w, o1_13 w, o1_14 w, o1_15 w, o1_16 w, o1_17 w, o1_18 w, o1_19 w, o1_20 w, o1_21 w, o1_22 w, o1_23 w, o2_24 w]
def l2_1 (w : World) : List Obj := [o1_25 w, o1_26 w, o1_27 w, o1_28 w, o1_29 w, o1_30 w, o1_31 w, o1_32 w, o1_33 w, o1_34 w, o1_35 w, o1_36 w, o1_37 w, o1_38 w, o1_39 w, o1_40 w, o1_41 w, o1_42 w, o1_43 w, o1_44 w, o1_45 w, o1_46 w, o1_47 w, o1_48 w, o1_49 w]
def l2_2 (w : World) : List Obj := [o1_50 w, o1_51 w, o1_52 w, o1_53 w, o1_54 w, o1_55 w, o1_56 w, o1_57 w, o1_58 w, o1_59 w, o1_60 w, o1_61 w, o1_62 w, o1_63 w, o1_64 w, o1_65 w, o1_66 w, o1_67 w, o1_68 w, o1_69 w, o1_70 w, o1_71 w, o1_72 w, o1_73 w, o1_74 w]
def l2_3 (w : World) : List Obj := [o1_75 w, o1_76 w, o1_77 w, o1_78 w, o1_79 w, o1_80 w, o1_81 w, o1_82 w, o1_83 w, o1_84 w, o1_85 w, o1_86 w, o1_87 w, o1_88 w, o1_89 w, o1_90 w, o1_91 w, o1_92 w, o1_93 w, o1_94 w, o1_95 w, o1_96 w, o1_97 w, o1_98 w, o1_99 w]
def l2_4 (w : World) : List Obj := [o1_100 w, o1_101 w, o1_102 w, o1_103 w, o1_104 w, o1_105 w, o1_106 w, o1_107 w, o1_108 w, o1_109 w, o1_110 w, o1_111 w, o1_112 w, o1_113 w, o1_114 w, o1_115 w, o1_116 w, o1_117 w, o1_118 w, o1_119 w, o1_120 w, o1_121 w, o1_122 w, o1_123 w, o1_124 w]
def l2_5 (w : World) : List Obj := [o1_125 w, o1_126 w, o1_127 w, o1_128 w, o1_129 w, o1_130 w, o1_131 w, o1_132 w, o1_133 w, o1_134 w, o1_135 w, o1_136 w, o1_137 w, o1_138 w, o1_139 w, o1_140 w, o1_141 w, o1_142 w, o1_143 w, o1_144 w, o1_145 w, o1_146 w, o1_147 w, o1_148 w, o1_149 w]
def l2_6 (w : World) : List Obj := [o1_150 w, o1_151 w, o1_152 w, o1_153 w, o1_154 w, o1_155 w, o1_156 w, o1_157 w, o1_158 w, o1_159 w, o1_160 w, o1_161 w, o1_162 w, o1_163 w, o1_164 w, o1_165 w, o1_166 w, o1_167 w, o1_168 w, o1_169 w, o1_170 w, o1_171 w, o1_172 w, o1_173 w, o1_174 w]
def l2_7 (w : World) : List Obj := [o1_175 w, o1_176 w, o1_177 w, o1_178 w, o1_179 w, o1_180 w, o1_181 w, o1_182 w, o1_183 w, o1_184 w, o1_185 w, o1_186 w, o1_187 w, o1_188 w, o1_189 w, o1_190 w, o1_191 w, o1_192 w, o1_193 w, o1_194 w, o1_195 w, o1_196 w, o1_197 w, o1_198 w, o1_199 w]
def l2_8 (w : World) : List Obj := [o1_200 w, o1_201 w, o1_202 w, o1_203 w, o1_204 w, o1_205 w, o1_206 w, o1_207 w, o1_208 w, o1_209 w, o1_210 w, o1_211 w, o1_212 w, o1_213 w, o1_214 w, o1_215 w, o1_216 w, o1_217 w, o2_218 w, o2_219 w, o2_220 w, o2_221 w, o2_222 w, o2_223 w, o2_224 w]
def l2_9 (w : World) : List Obj := [o2_225 w, o2_226 w, o2_227 w, o2_228 w, o2_229 w, o2_230 w, o2_231 w, o2_232 w, o2_233 w, o2_234 w, o2_235 w, o2_236 w, o2_237 w, o2_238 w, o2_239 w, o2_240 w, o2_241 w, o2_242 w, o2_243 w, o2_244 w, o2_245 w, o2_246 w, o2_247 w, o2_248 w, o2_249 w]
def l2_10 (w : World) : List Obj := [o2_250 w, o2_251 w, o2_252 w, o2_253 w, o2_254 w, o2_255 w, o2_256 w, o2_257 w, o2_258 w, o2_259 w, o2_260 w, o2_261 w, o2_262 w, o2_263 w, o2_264 w, o2_265 w, o2_266 w, o2_267 w, o2_268 w, o2_269 w, o2_270 w, o2_271 w, o2_272 w, o2_273 w, o2_274 w]
def l2_11 (w : World) : List Obj := [o2_275 w, o2_276 w, o2_277 w, o2_278 w, o2_279 w, o2_280 w, o2_281 w, o2_282 w, o2_283 w, o2_284 w, o2_285 w, o2_286 w, o2_287 w, o2_288 w, o2_289 w, o2_290 w, o2_291 w, o2_292 w, o2_293 w, o2_294 w, o2_295 w, o2_296 w, o2_297 w, o2_298 w, o2_299 w]
def l2_12 (w : World) : List Obj := [o2_300 w, o2_301 w, o2_302 w, o2_303 w, o2_304 w, o2_305 w, o2_306 w, o2_307 w, o2_308 w, o2_309 w, o2_310 w, o2_311 w, o2_312 w, o2_313 w, o2_314 w, o2_315 w, o2_316 w, o2_317 w, o2_318 w, o2_319 w, o2_320 w, o2_321 w, o2_322 w, o2_323 w, o2_324 w]
def l2_13 (w : World) : List Obj := [o2_325 w, o2_326 w, o2_327 w, o2_328 w, o2_329 w, o2_330 w, o2_331 w, o2_332 w, o2_333 w, o2_334 w, o2_335 w, o2_336 w, o2_337 w, o2_338 w, o2_339 w, o2_340 w, o2_341 w, o2_342 w, o2_343 w, o2_344 w, o2_345 w, o2_346 w, o2_347 w, o2_348 w, o2_349 w]
def l2_14 (w : World) : List Obj := [o2_350 w, o2_351 w, o2_352 w, o2_353 w, o2_354 w, o2_355 w, o2_356 w, o2_357 w, o2_358 w, o2_359 w, o2_360 w, o2_361 w, o2_362 w, o2_363 w, o2_364 w, o2_365 w, o2_366 w, o2_367 w, o2_368 w, o2_369 w, o2_370 w, o2_371 w, o2_372 w, o2_373 w, o2_374 w]
def l2_15 (w : World) : List Obj := [o2_375 w, o2_376 w, o2_377 w, o2_378 w, o2_379 w, o2_380 w, o2_381 w, o2_382 w, o2_383 w, o2_384 w, o2_385 w, o2_386 w, o2_387 w, o2_388 w, o2_389 w, o2_390 w, o2_391 w, o2_392 w, o2_393 w, o2_394 w, o2_395 w, o2_396 w, o2_397 w, o2_398 w, o2_399 w]
def l2_16 (w : World) : List Obj := [o2_400 w, o2_401 w, o2_402 w, o2_403 w, o2_404 w, o2_405 w, o2_406 w, o2_407 w]
def ll2 (w : World) : List Obj := l2_0 w ++ (l2_1 w ++ (l2_2 w ++ (l2_3 w ++ (l2_4 w ++ (l2_5 w ++ (l2_6 w ++ (l2_7 w ++ (l2_8 w ++ (l2_9 w ++ (l2_10 w ++ (l2_11 w ++ (l2_12 w ++ (l2_13 w ++ (l2_14 w ++ (l2_15 w ++ (l2_16 w))))))))))))))))
def S2 (w : World) (os : OsState) : SharedT := stOf w os (ll2 w) 408 707
def T2 (w : World) (os : OsState) : Thread := thOf PG w os 13 14 22 (PySem.Pos.mk 80 0 83 26)
theorem part2 (w : World) (os : OsState) : goP (stepQ (denQ tabQ) PG w) 11 (bootAnn w) 2450 (S1 w os) (T1 w os) = some (S2 w os, T2 w os) := by kernel_rfl
def o3_2 (w : World) : Obj := (.mk .none none (.dict (.mk [(.mk (HQ.hS w "type.__subclasses__.ArithmeticError.0") (.str "type.__subclasses__.ArithmeticError.0" 791) (.int (Int.ofNat 468) 0)), (.mk (HQ.hS w "type.__subclasses__.ArithmeticError.n") (.str "type.__subclasses__.ArithmeticError.n" 792) (.int (Int.ofNat 1) 0))]) 2) (.mk []))
def o3_3 (w : World) : Obj := (.mk (.type "dict") none (.dict (.mk (.cons (.mk (HQ.hS w "__name__") (.str "__name__" 165) (.str "law_haulprices_k01_limits_and_errors" 941)) (.cons (.mk (HQ.hS w "__doc__") (.str "__doc__" 166) .none) (.cons (.mk (HQ.hS w "__package__") (.str "__package__" 167) .none) (.cons (.mk (HQ.hS w "__loader__") (.str "__loader__" 168) (.builtin "__main__.__loader__#opaque")) (.cons (.mk (HQ.hS w "__spec__") (.str "__spec__" 169) .none) (.cons (.mk (HQ.hS w "__annotations__") (.str "__annotations__" 170) (.ref 6)) (.cons (.mk (HQ.hS w "__builtins__") (.str "__builtins__" 171) (.ref 4)) (.cons (.mk (HQ.hS w "__file__") (.str "__file__" 173) (.str "/claim/cut.py" 172)) (.cons (.mk (HQ.hS w "__cached__") (.str "__cached__" 174) .none) (.cons (.mk (HQ.hS w "WrongValue") (.str "WrongValue" 206) (.ref 24)) (.cons (.mk (HQ.hS w "InvalidStops") (.str "InvalidStops" 231) (.ref 44)) (.cons (.mk (HQ.hS w "InvalidHaul") (.str "InvalidHaul" 256) (.ref 63)) (.cons (.mk (HQ.hS w "InvalidPrice") (.str "InvalidPrice" 281) (.ref 82)) (.cons (.mk (HQ.hS w "InvalidRules") (.str "InvalidRules" 306) (.ref 101)) (.cons (.mk (HQ.hS w "InvalidText") (.str "InvalidText" 331) (.ref 120)) (.cons (.mk (HQ.hS w "InvalidLength") (.str "InvalidLength" 356) (.ref 139)) (.cons (.mk (HQ.hS w "InvalidCoin") (.str "InvalidCoin" 381) (.ref 158)) (.cons (.mk (HQ.hS w "InvalidName") (.str "InvalidName" 406) (.ref 177)) (.cons (.mk (HQ.hS w "InvalidWish") (.str "InvalidWish" 431) (.ref 196)) (.cons (.mk (HQ.hS w "InvalidIndex") (.str "InvalidIndex" 456) (.ref 215)) (.cons (.mk (HQ.hS w "InvalidLine") (.str "InvalidLine" 481) (.ref 234)) (.cons (.mk (HQ.hS w "NotABook") (.str "NotABook" 506) (.ref 253)) (.cons (.mk (HQ.hS w "NotBounds") (.str "NotBounds" 531) (.ref 272)) (.cons (.mk (HQ.hS w "NotATariff") (.str "NotATariff" 556) (.ref 291)) (.cons (.mk (HQ.hS w "InvalidPrices") (.str "InvalidPrices" 581) (.ref 310)) (.cons (.mk (HQ.hS w "InvalidRanges") (.str "InvalidRanges" 606) (.ref 329)) (.cons (.mk (HQ.hS w "InvalidTickets") (.str "InvalidTickets" 631) (.ref 348)) (.cons (.mk (HQ.hS w "InvalidTariff") (.str "InvalidTariff" 656) (.ref 367)) (.cons (.mk (HQ.hS w "InvalidCoins") (.str "InvalidCoins" 681) (.ref 386)) (.cons (.mk (HQ.hS w "WrongRow") (.str "WrongRow" 706) (.ref 405)) (.cons (.mk (HQ.hS w "WrongName") (.str "WrongName" 724) (.ref 417)) (.cons (.mk (HQ.hS w "UnknownName") (.str "UnknownName" 749) (.ref 437)) (.cons (.mk (HQ.hS w "InUse") (.str "InUse" 774) (.ref 456)) (.cons (.mk (HQ.hS w "NoAnswer") (.str "NoAnswer" 794) (.ref 468)) (.cons (.mk (HQ.hS w "BreaksRules") (.str "BreaksRules" 819) (.ref 488)) (.cons (.mk (HQ.hS w "NoBook") (.str "NoBook" 844) (.ref 507)) (.cons (.mk (HQ.hS w "Broken") (.str "Broken" 869) (.ref 526)) (.cons (.mk (HQ.hS w "DoNotFit") (.str "DoNotFit" 885) (.ref 538)) (.cons (.mk (HQ.hS w "NothingToUndo") (.str "NothingToUndo" 901) (.ref 550)) (.cons (.mk (HQ.hS w "TooMany") (.str "TooMany" 926) (.ref 569)) (.cons (.mk (HQ.hS w "MOST_STOPS") (.str "MOST_STOPS" 928) (.int (Int.ofNat 10) 927)) (.cons (.mk (HQ.hS w "MOST_PRICE") (.str "MOST_PRICE" 932) (.int (Int.ofNat 1000000000000) 931)) (.cons (.mk (HQ.hS w "MOST_KEPT") (.str "MOST_KEPT" 934) (.int (Int.ofNat 5) 933)) (.cons (.mk (HQ.hS w "MOST_PIECE") (.str "MOST_PIECE" 936) (.int (Int.ofNat 12) 935)) (.cons (.mk (HQ.hS w "MOST_LENGTH") (.str "MOST_LENGTH" 940) (.int (Int.ofNat 1000000000000000000000000000000) 939)) (.cons (.mk (HQ.hS w "_law_jar") (.str "_law_jar" 954) (.ref 578)) (.cons (.mk (HQ.hS w "_law_dip") (.str "_law_dip" 964) (.ref 585)) (.cons (.mk (HQ.hS w "_law_pick") (.str "_law_pick" 973) (.ref 592)) (.cons (.mk (HQ.hS w "_law_tags") (.str "_law_tags" 981) (.ref 599)) (.cons (.mk (HQ.hS w "_law_all") (.str "_law_all" 989) (.ref 606)) (.cons (.mk (HQ.hS w "_law_named") (.str "_law_named" 997) (.ref 613)) (.cons (.mk (HQ.hS w "_law_words") (.str "_law_words" 1004) (.ref 620)) (.cons (.mk (HQ.hS w "_law_kept") (.str "_law_kept" 1012) (.ref 627)) (.cons (.mk (HQ.hS w "_law_bases") (.str "_law_bases" 1020) (.ref 634)) (.cons (.mk (HQ.hS w "_law_right") (.str "_law_right" 1026) (.ref 639)) [])))))))))))))))))))))))))))))))))))))))))))))))))))))))) 55) (.mk []))
def o3_12 (w : World) : Obj := (.mk .none none (.fields (.mk (.cons (.int (Int.ofNat 2) 0) (.cons (.int (Int.ofNat 0) 0) (.cons (.ref 20) (.cons (.int (Int.ofNat 4) 0) (.cons (.int (Int.ofNat 0) 0) (.cons (.ref 33) (.cons (.int (Int.ofNat 8) 0) (.cons (.int (Int.ofNat 0) 0) (.cons (.ref 52) (.cons (.int (Int.ofNat 12) 0) (.cons (.int (Int.ofNat 0) 0) (.cons (.ref 71) (.cons (.int (Int.ofNat 16) 0) (.cons (.int (Int.ofNat 0) 0) (.cons (.ref 90) (.cons (.int (Int.ofNat 20) 0) (.cons (.int (Int.ofNat 0) 0) (.cons (.ref 109) (.cons (.int (Int.ofNat 24) 0) (.cons (.int (Int.ofNat 0) 0) (.cons (.ref 128) (.cons (.int (Int.ofNat 28) 0) (.cons (.int (Int.ofNat 0) 0) (.cons (.ref 147) (.cons (.int (Int.ofNat 32) 0) (.cons (.int (Int.ofNat 0) 0) (.cons (.ref 166) (.cons (.int (Int.ofNat 36) 0) (.cons (.int (Int.ofNat 0) 0) (.cons (.ref 185) (.cons (.int (Int.ofNat 40) 0) (.cons (.int (Int.ofNat 0) 0) (.cons (.ref 204) (.cons (.int (Int.ofNat 44) 0) (.cons (.int (Int.ofNat 0) 0) (.cons (.ref 223) (.cons (.int (Int.ofNat 48) 0) (.cons (.int (Int.ofNat 0) 0) (.cons (.ref 242) (.cons (.int (Int.ofNat 52) 0) (.cons (.int (Int.ofNat 0) 0) (.cons (.ref 261) (.cons (.int (Int.ofNat 56) 0) (.cons (.int (Int.ofNat 0) 0) (.cons (.ref 280) (.cons (.int (Int.ofNat 60) 0) (.cons (.int (Int.ofNat 0) 0) (.cons (.ref 299) (.cons (.int (Int.ofNat 64) 0) (.cons (.int (Int.ofNat 0) 0) (.cons (.ref 318) (.cons (.int (Int.ofNat 68) 0) (.cons (.int (Int.ofNat 0) 0) (.cons (.ref 337) (.cons (.int (Int.ofNat 72) 0) (.cons (.int (Int.ofNat 0) 0) (.cons (.ref 356) (.cons (.int (Int.ofNat 76) 0) (.cons (.int (Int.ofNat 0) 0) (.cons (.ref 375) (.cons (.int (Int.ofNat 80) 0) (.cons (.int (Int.ofNat 0) 0) (.cons (.ref 394) (.cons (.int (Int.ofNat 84) 0) (.cons (.int (Int.ofNat 0) 0) (.cons (.ref 413) (.cons (.int (Int.ofNat 86) 0) (.cons (.int (Int.ofNat 0) 0) (.cons (.ref 426) (.cons (.int (Int.ofNat 90) 0) (.cons (.int (Int.ofNat 0) 0) (.cons (.ref 445) (.cons (.int (Int.ofNat 94) 0) (.cons (.int (Int.ofNat 0) 0) (.cons (.ref 464) (.cons (.int (Int.ofNat 96) 0) (.cons (.int (Int.ofNat 0) 0) (.cons (.ref 477) (.cons (.int (Int.ofNat 100) 0) (.cons (.int (Int.ofNat 0) 0) (.cons (.ref 496) (.cons (.int (Int.ofNat 104) 0) (.cons (.int (Int.ofNat 0) 0) (.cons (.ref 515) (.cons (.int (Int.ofNat 108) 0) (.cons (.int (Int.ofNat 0) 0) (.cons (.ref 534) (.cons (.int (Int.ofNat 110) 0) (.cons (.int (Int.ofNat 0) 0) (.cons (.ref 546) (.cons (.int (Int.ofNat 112) 0) (.cons (.int (Int.ofNat 0) 0) (.cons (.ref 558) (.cons (.int (Int.ofNat 122) 0) (.cons (.int (Int.ofNat 0) 0) (.cons (.ref 577) (.cons (.int (Int.ofNat 129) 0) (.cons (.int (Int.ofNat 0) 0) (.cons (.ref 584) (.cons (.int (Int.ofNat 138) 0) (.cons (.int (Int.ofNat 0) 0) (.cons (.ref 591) (.cons (.int (Int.ofNat 141) 0) (.cons (.int (Int.ofNat 0) 0) (.cons (.ref 598) (.cons (.int (Int.ofNat 172) 0) (.cons (.int (Int.ofNat 0) 0) (.cons (.ref 605) (.cons (.int (Int.ofNat 179) 0) (.cons (.int (Int.ofNat 0) 0) (.cons (.ref 612) (.cons (.int (Int.ofNat 188) 0) (.cons (.int (Int.ofNat 0) 0) (.cons (.ref 619) (.cons (.int (Int.ofNat 192) 0) (.cons (.int (Int.ofNat 0) 0) (.cons (.ref 626) (.cons (.int (Int.ofNat 200) 0) (.cons (.int (Int.ofNat 0) 0) (.cons (.ref 633) (.cons (.int (Int.ofNat 203) 0) (.cons (.int (Int.ofNat 0) 0) (.cons (.ref 638) []))))))))))))))))))))))))))))))))))))))))))))))))))))))))))))))))))))))))))))))))))))))))))))))))))))))))))))))))))))))))))))) (.mk []))
def o3_408 (w : World) : Obj := (.mk (.type "tuple") none (.seq (.mk [(.type "LookupError")]) 0) (.mk []))
def o3_409 (w : World) : Obj := (.mk (.type "builtin_function_or_method") none (.fields (.mk [(.builtin "type.__prepare__"), (.type "type")])) (.mk []))
def o3_410 (w : World) : Obj := (.mk (.type "dict") none (.dict (.mk [(.mk (HQ.hS w "__module__") (.str "__module__" 714) (.str "haulprices.errors" 187)), (.mk (HQ.hS w "__qualname__") (.str "__qualname__" 716) (.str "WrongName" 715)), (.mk (HQ.hS w "__firstlineno__") (.str "__firstlineno__" 718) (.int (Int.ofNat 84) 717)), (.mk (HQ.hS w "__static_attributes__") (.str "__static_attributes__" 719) (.ref 415))]) 4) (.mk []))
def o3_411 (w : World) : Obj := (.mk (.type "tuple") none (.seq (.mk []) 0) (.mk []))
def o3_412 (w : World) : Obj := (.mk .none none (.fields (.mk [])) (.mk []))
def o3_413 (w : World) : Obj := (.mk (.type "code") none (.fields (.mk [(.str "WrongName" 709), (.str "WrongName" 710), (.str "/claim/cut.py" 711), (.int (Int.ofNat 84) 0), (.int (Int.ofNat 0) 0), (.int (Int.ofNat 0) 0), (.int (Int.ofNat 0) 0), (.int (Int.ofNat 0) 0), (.ref 411), (.bool false), (.int (Int.ofNat 181) 0), (.ref 412), .none, .none, .none, .none, (.int (Int.ofNat 712) 0), (.int (Int.ofNat 84) 0), (.str "/claim/cut.py" 713)])) (.mk []))
def o3_414 (w : World) : Obj := (.mk (.type "frame") none .plain (.mk [(some (.ref 413)), (some (.ref 3)), (some (.ref 410)), none, (some (.str "haulprices.errors" 187)), none, (some (.ref 0))]))
def o3_415 (w : World) : Obj := (.mk (.type "tuple") none (.seq (.mk []) 0) (.mk []))
def o3_416 (w : World) : Obj := (.mk (.type "dict") none (.dict (.mk [(.mk (HQ.hS w "__module__") (.str "__module__" 714) (.str "haulprices.errors" 187)), (.mk (HQ.hS w "__firstlineno__") (.str "__firstlineno__" 718) (.int (Int.ofNat 84) 717)), (.mk (HQ.hS w "__static_attributes__") (.str "__static_attributes__" 719) (.ref 415)), (.mk (HQ.hS w "__weakref__") (.str "__weakref__" 721) (.ref 418)), (.mk (HQ.hS w "__doc__") (.str "__doc__" 722) .none)]) 3) (.mk []))
def o3_417 (w : World) : Obj := (.mk (.type "type") none (.cls (PySem.ClassData.mk "WrongName" [(.type "LookupError")] [(.ref 417), (.type "LookupError"), (.type "Exception"), (.type "BaseException"), (.type "object")] 416 "WrongName" true [] [(.ref 437), (.ref 456)] false none false)) (.mk [(some (.ref 408)), none, (some (.str "WrongName" 707)), (some (.str "WrongName" 715)), (some (.builtin "LookupError.__new__")), (some (.bool true))]))
def o3_418 (w : World) : Obj := (.mk (.type "getset_descriptor") none (.fields (.mk [(.str "__weakref__" 720), (.ref 417), (.builtin "ExceptionGroup.__weakref__"), .none])) (.mk []))
def o3_419 (w : World) : Obj := (.mk (.type "super") none (.fields (.mk [(.ref 417), (.ref 417), (.ref 417)])) (.mk []))
def o3_420 (w : World) : Obj := (.mk (.type "builtin_function_or_method") none (.fields (.mk [(.builtin "object.__init_subclass__"), (.ref 417)])) (.mk []))
def o3_421 (w : World) : Obj := (.mk (.type "tuple") none (.seq (.mk [(.ref 417)]) 0) (.mk []))
def o3_422 (w : World) : Obj := (.mk (.type "builtin_function_or_method") none (.fields (.mk [(.builtin "type.__prepare__"), (.type "type")])) (.mk []))
def o3_423 (w : World) : Obj := (.mk (.type "dict") none (.dict (.mk [(.mk (HQ.hS w "__module__") (.str "__module__" 732) (.str "haulprices.errors" 187)), (.mk (HQ.hS w "__qualname__") (.str "__qualname__" 734) (.str "UnknownName" 733)), (.mk (HQ.hS w "__firstlineno__") (.str "__firstlineno__" 736) (.int (Int.ofNat 86) 735)), (.mk (HQ.hS w "__init__") (.str "__init__" 744) (.ref 434)), (.mk (HQ.hS w "__static_attributes__") (.str "__static_attributes__" 746) (.ref 435))]) 5) (.mk []))
def o3_424 (w : World) : Obj := (.mk (.type "tuple") none (.seq (.mk []) 0) (.mk []))
def o3_425 (w : World) : Obj := (.mk .none none (.fields (.mk [(.int (Int.ofNat 88) 0), (.int (Int.ofNat 4) 0), (.ref 433)])) (.mk []))
def o3_426 (w : World) : Obj := (.mk (.type "code") none (.fields (.mk [(.str "UnknownName" 727), (.str "UnknownName" 728), (.str "/claim/cut.py" 729), (.int (Int.ofNat 86) 0), (.int (Int.ofNat 0) 0), (.int (Int.ofNat 0) 0), (.int (Int.ofNat 0) 0), (.int (Int.ofNat 0) 0), (.ref 424), (.bool false), (.int (Int.ofNat 181) 0), (.ref 425), .none, .none, .none, .none, (.int (Int.ofNat 730) 0), (.int (Int.ofNat 86) 0), (.str "/claim/cut.py" 731)])) (.mk []))
def o3_427 (w : World) : Obj := (.mk (.type "frame") none .plain (.mk [(some (.ref 426)), (some (.ref 3)), (some (.ref 423)), none, (some (.str "haulprices.errors" 187)), none, (some (.ref 0))]))
def o3_428 (w : World) : Obj := (.mk (.type "tuple") none (.seq (.mk []) 0) (.mk []))
def o3_429 (w : World) : Obj := (.mk .none none (.fields (.mk [])) (.mk []))
def o3_430 (w : World) : Obj := (.mk (.type "tuple") none (.seq (.mk [(.str "self" 740), (.str "given" 741)]) 0) (.mk []))
def o3_431 (w : World) : Obj := (.mk (.type "tuple") none (.seq (.mk []) 0) (.mk []))
def o3_432 (w : World) : Obj := (.mk .none none (.func (FuncData.mk "__init__" "UnknownName.__init__" (L2.defArgs ((MP.clsB (HP.top 23)).getD 0 (.Pass ⟨0, 0, 0, 0⟩))) (FuncBody.stmts (L2.defBody ((MP.clsB (HP.top 23)).getD 0 (.Pass ⟨0, 0, 0, 0⟩)))) (L2.defScope ((MP.clsB (HP.top 23)).getD 0 (.Pass ⟨0, 0, 0, 0⟩))) 0 [] .none .none .none .none none .none .none 0)) (.mk []))
def o3_433 (w : World) : Obj := (.mk (.type "code") none (.fields (.mk [(.str "__init__" 737), (.str "UnknownName.__init__" 738), (.str "/claim/cut.py" 739), (.int (Int.ofNat 88) 0), (.int (Int.ofNat 2) 0), (.int (Int.ofNat 0) 0), (.int (Int.ofNat 0) 0), (.int (Int.ofNat 3) 0), (.ref 428), (.bool true), (.int (Int.ofNat 181) 0), (.ref 429), .none, (.ref 430), (.ref 431), (.ref 432), (.int (Int.ofNat 742) 0), (.int (Int.ofNat 88) 0), (.str "/claim/cut.py" 743)])) (.mk []))
def o3_434 (w : World) : Obj := (.mk (.type "function") none (.func (FuncData.mk "__init__" "UnknownName.__init__" (L2.defArgs ((MP.clsB (HP.top 23)).getD 0 (.Pass ⟨0, 0, 0, 0⟩))) (FuncBody.stmts (L2.defBody ((MP.clsB (HP.top 23)).getD 0 (.Pass ⟨0, 0, 0, 0⟩)))) (L2.defScope ((MP.clsB (HP.top 23)).getD 0 (.Pass ⟨0, 0, 0, 0⟩))) 3 [] .none .none .none (.str "haulprices.errors" 187) none (.ref 433) .none 0)) (.mk []))
def o3_435 (w : World) : Obj := (.mk (.type "tuple") none (.seq (.mk [(.str "given" 745)]) 0) (.mk []))
def o3_436 (w : World) : Obj := (.mk (.type "dict") none (.dict (.mk [(.mk (HQ.hS w "__module__") (.str "__module__" 732) (.str "haulprices.errors" 187)), (.mk (HQ.hS w "__firstlineno__") (.str "__firstlineno__" 736) (.int (Int.ofNat 86) 735)), (.mk (HQ.hS w "__init__") (.str "__init__" 744) (.ref 434)), (.mk (HQ.hS w "__static_attributes__") (.str "__static_attributes__" 746) (.ref 435)), (.mk (HQ.hS w "__doc__") (.str "__doc__" 747) .none)]) 2) (.mk []))
def o3_437 (w : World) : Obj := (.mk (.type "type") none (.cls (PySem.ClassData.mk "UnknownName" [(.ref 417)] [(.ref 437), (.ref 417), (.type "LookupError"), (.type "Exception"), (.type "BaseException"), (.type "object")] 436 "UnknownName" true [] [] false none false)) (.mk [(some (.ref 421)), none, (some (.str "UnknownName" 725)), (some (.str "UnknownName" 733)), (some (.builtin "LookupError.__new__")), (some (.bool true))]))
def o3_438 (w : World) : Obj := (.mk (.type "super") none (.fields (.mk [(.ref 437), (.ref 437), (.ref 437)])) (.mk []))
def o3_439 (w : World) : Obj := (.mk (.type "builtin_function_or_method") none (.fields (.mk [(.builtin "object.__init_subclass__"), (.ref 437)])) (.mk []))
def o3_440 (w : World) : Obj := (.mk (.type "tuple") none (.seq (.mk [(.ref 417)]) 0) (.mk []))
def o3_441 (w : World) : Obj := (.mk (.type "builtin_function_or_method") none (.fields (.mk [(.builtin "type.__prepare__"), (.type "type")])) (.mk []))
def o3_442 (w : World) : Obj := (.mk (.type "dict") none (.dict (.mk [(.mk (HQ.hS w "__module__") (.str "__module__" 757) (.str "haulprices.errors" 187)), (.mk (HQ.hS w "__qualname__") (.str "__qualname__" 759) (.str "InUse" 758)), (.mk (HQ.hS w "__firstlineno__") (.str "__firstlineno__" 761) (.int (Int.ofNat 90) 760)), (.mk (HQ.hS w "__init__") (.str "__init__" 769) (.ref 453)), (.mk (HQ.hS w "__static_attributes__") (.str "__static_attributes__" 771) (.ref 454))]) 5) (.mk []))
def o3_443 (w : World) : Obj := (.mk (.type "tuple") none (.seq (.mk []) 0) (.mk []))
def o3_444 (w : World) : Obj := (.mk .none none (.fields (.mk [(.int (Int.ofNat 92) 0), (.int (Int.ofNat 4) 0), (.ref 452)])) (.mk []))
def o3_445 (w : World) : Obj := (.mk (.type "code") none (.fields (.mk [(.str "InUse" 752), (.str "InUse" 753), (.str "/claim/cut.py" 754), (.int (Int.ofNat 90) 0), (.int (Int.ofNat 0) 0), (.int (Int.ofNat 0) 0), (.int (Int.ofNat 0) 0), (.int (Int.ofNat 0) 0), (.ref 443), (.bool false), (.int (Int.ofNat 181) 0), (.ref 444), .none, .none, .none, .none, (.int (Int.ofNat 755) 0), (.int (Int.ofNat 90) 0), (.str "/claim/cut.py" 756)])) (.mk []))
def o3_446 (w : World) : Obj := (.mk (.type "frame") none .plain (.mk [(some (.ref 445)), (some (.ref 3)), (some (.ref 442)), none, (some (.str "haulprices.errors" 187)), none, (some (.ref 0))]))
def o3_447 (w : World) : Obj := (.mk (.type "tuple") none (.seq (.mk []) 0) (.mk []))
def o3_448 (w : World) : Obj := (.mk .none none (.fields (.mk [])) (.mk []))
def o3_449 (w : World) : Obj := (.mk (.type "tuple") none (.seq (.mk [(.str "self" 765), (.str "index" 766)]) 0) (.mk []))
def o3_450 (w : World) : Obj := (.mk (.type "tuple") none (.seq (.mk []) 0) (.mk []))
def o3_451 (w : World) : Obj := (.mk .none none (.func (FuncData.mk "__init__" "InUse.__init__" (L2.defArgs ((MP.clsB (HP.top 24)).getD 0 (.Pass ⟨0, 0, 0, 0⟩))) (FuncBody.stmts (L2.defBody ((MP.clsB (HP.top 24)).getD 0 (.Pass ⟨0, 0, 0, 0⟩)))) (L2.defScope ((MP.clsB (HP.top 24)).getD 0 (.Pass ⟨0, 0, 0, 0⟩))) 0 [] .none .none .none .none none .none .none 0)) (.mk []))
def o3_452 (w : World) : Obj := (.mk (.type "code") none (.fields (.mk [(.str "__init__" 762), (.str "InUse.__init__" 763), (.str "/claim/cut.py" 764), (.int (Int.ofNat 92) 0), (.int (Int.ofNat 2) 0), (.int (Int.ofNat 0) 0), (.int (Int.ofNat 0) 0), (.int (Int.ofNat 3) 0), (.ref 447), (.bool true), (.int (Int.ofNat 181) 0), (.ref 448), .none, (.ref 449), (.ref 450), (.ref 451), (.int (Int.ofNat 767) 0), (.int (Int.ofNat 92) 0), (.str "/claim/cut.py" 768)])) (.mk []))
def o3_453 (w : World) : Obj := (.mk (.type "function") none (.func (FuncData.mk "__init__" "InUse.__init__" (L2.defArgs ((MP.clsB (HP.top 24)).getD 0 (.Pass ⟨0, 0, 0, 0⟩))) (FuncBody.stmts (L2.defBody ((MP.clsB (HP.top 24)).getD 0 (.Pass ⟨0, 0, 0, 0⟩)))) (L2.defScope ((MP.clsB (HP.top 24)).getD 0 (.Pass ⟨0, 0, 0, 0⟩))) 3 [] .none .none .none (.str "haulprices.errors" 187) none (.ref 452) .none 0)) (.mk []))
def o3_454 (w : World) : Obj := (.mk (.type "tuple") none (.seq (.mk [(.str "index" 770)]) 0) (.mk []))
def o3_455 (w : World) : Obj := (.mk (.type "dict") none (.dict (.mk [(.mk (HQ.hS w "__module__") (.str "__module__" 757) (.str "haulprices.errors" 187)), (.mk (HQ.hS w "__firstlineno__") (.str "__firstlineno__" 761) (.int (Int.ofNat 90) 760)), (.mk (HQ.hS w "__init__") (.str "__init__" 769) (.ref 453)), (.mk (HQ.hS w "__static_attributes__") (.str "__static_attributes__" 771) (.ref 454)), (.mk (HQ.hS w "__doc__") (.str "__doc__" 772) .none)]) 2) (.mk []))
def o3_456 (w : World) : Obj := (.mk (.type "type") none (.cls (PySem.ClassData.mk "InUse" [(.ref 417)] [(.ref 456), (.ref 417), (.type "LookupError"), (.type "Exception"), (.type "BaseException"), (.type "object")] 455 "InUse" true [] [] false none false)) (.mk [(some (.ref 440)), none, (some (.str "InUse" 750)), (some (.str "InUse" 758)), (some (.builtin "LookupError.__new__")), (some (.bool true))]))
def o3_457 (w : World) : Obj := (.mk (.type "super") none (.fields (.mk [(.ref 456), (.ref 456), (.ref 456)])) (.mk []))
def o3_458 (w : World) : Obj := (.mk (.type "builtin_function_or_method") none (.fields (.mk [(.builtin "object.__init_subclass__"), (.ref 456)])) (.mk []))
def o3_459 (w : World) : Obj := (.mk (.type "tuple") none (.seq (.mk [(.type "ArithmeticError")]) 0) (.mk []))
def o3_460 (w : World) : Obj := (.mk (.type "builtin_function_or_method") none (.fields (.mk [(.builtin "type.__prepare__"), (.type "type")])) (.mk []))
def o3_461 (w : World) : Obj := (.mk (.type "dict") none (.dict (.mk [(.mk (HQ.hS w "__module__") (.str "__module__" 782) (.str "haulprices.errors" 187)), (.mk (HQ.hS w "__qualname__") (.str "__qualname__" 784) (.str "NoAnswer" 783)), (.mk (HQ.hS w "__firstlineno__") (.str "__firstlineno__" 786) (.int (Int.ofNat 94) 785)), (.mk (HQ.hS w "__static_attributes__") (.str "__static_attributes__" 787) (.ref 466))]) 4) (.mk []))
def o3_462 (w : World) : Obj := (.mk (.type "tuple") none (.seq (.mk []) 0) (.mk []))
def o3_463 (w : World) : Obj := (.mk .none none (.fields (.mk [])) (.mk []))
def o3_464 (w : World) : Obj := (.mk (.type "code") none (.fields (.mk [(.str "NoAnswer" 777), (.str "NoAnswer" 778), (.str "/claim/cut.py" 779), (.int (Int.ofNat 94) 0), (.int (Int.ofNat 0) 0), (.int (Int.ofNat 0) 0), (.int (Int.ofNat 0) 0), (.int (Int.ofNat 0) 0), (.ref 462), (.bool false), (.int (Int.ofNat 181) 0), (.ref 463), .none, .none, .none, .none, (.int (Int.ofNat 780) 0), (.int (Int.ofNat 94) 0), (.str "/claim/cut.py" 781)])) (.mk []))
def o3_465 (w : World) : Obj := (.mk (.type "frame") none .plain (.mk [(some (.ref 464)), (some (.ref 3)), (some (.ref 461)), none, (some (.str "haulprices.errors" 187)), none, (some (.ref 0))]))
def o3_466 (w : World) : Obj := (.mk (.type "tuple") none (.seq (.mk []) 0) (.mk []))
def o3_467 (w : World) : Obj := (.mk (.type "dict") none (.dict (.mk [(.mk (HQ.hS w "__module__") (.str "__module__" 782) (.str "haulprices.errors" 187)), (.mk (HQ.hS w "__firstlineno__") (.str "__firstlineno__" 786) (.int (Int.ofNat 94) 785)), (.mk (HQ.hS w "__static_attributes__") (.str "__static_attributes__" 787) (.ref 466)), (.mk (HQ.hS w "__weakref__") (.str "__weakref__" 789) (.ref 469)), (.mk (HQ.hS w "__doc__") (.str "__doc__" 790) .none)]) 3) (.mk []))
def o3_468 (w : World) : Obj := (.mk (.type "type") none (.cls (PySem.ClassData.mk "NoAnswer" [(.type "ArithmeticError")] [(.ref 468), (.type "ArithmeticError"), (.type "Exception"), (.type "BaseException"), (.type "object")] 467 "NoAnswer" true [] [(.ref 488), (.ref 507), (.ref 526), (.ref 538), (.ref 550), (.ref 569)] false none false)) (.mk [(some (.ref 459)), none, (some (.str "NoAnswer" 775)), (some (.str "NoAnswer" 783)), (some (.builtin "ArithmeticError.__new__")), (some (.bool true))]))
def o3_469 (w : World) : Obj := (.mk (.type "getset_descriptor") none (.fields (.mk [(.str "__weakref__" 788), (.ref 468), (.builtin "ExceptionGroup.__weakref__"), .none])) (.mk []))
def o3_470 (w : World) : Obj := (.mk (.type "super") none (.fields (.mk [(.ref 468), (.ref 468), (.ref 468)])) (.mk []))
def o3_471 (w : World) : Obj := (.mk (.type "builtin_function_or_method") none (.fields (.mk [(.builtin "object.__init_subclass__"), (.ref 468)])) (.mk []))
def o3_472 (w : World) : Obj := (.mk (.type "tuple") none (.seq (.mk [(.ref 468)]) 0) (.mk []))
def o3_473 (w : World) : Obj := (.mk (.type "builtin_function_or_method") none (.fields (.mk [(.builtin "type.__prepare__"), (.type "type")])) (.mk []))
def o3_474 (w : World) : Obj := (.mk (.type "dict") none (.dict (.mk [(.mk (HQ.hS w "__module__") (.str "__module__" 802) (.str "haulprices.errors" 187)), (.mk (HQ.hS w "__qualname__") (.str "__qualname__" 804) (.str "BreaksRules" 803)), (.mk (HQ.hS w "__firstlineno__") (.str "__firstlineno__" 806) (.int (Int.ofNat 96) 805)), (.mk (HQ.hS w "__init__") (.str "__init__" 814) (.ref 485)), (.mk (HQ.hS w "__static_attributes__") (.str "__static_attributes__" 816) (.ref 486))]) 5) (.mk []))
def o3_475 (w : World) : Obj := (.mk (.type "tuple") none (.seq (.mk []) 0) (.mk []))
def o3_476 (w : World) : Obj := (.mk .none none (.fields (.mk [(.int (Int.ofNat 98) 0), (.int (Int.ofNat 4) 0), (.ref 484)])) (.mk []))
def o3_477 (w : World) : Obj := (.mk (.type "code") none (.fields (.mk [(.str "BreaksRules" 797), (.str "BreaksRules" 798), (.str "/claim/cut.py" 799), (.int (Int.ofNat 96) 0), (.int (Int.ofNat 0) 0), (.int (Int.ofNat 0) 0), (.int (Int.ofNat 0) 0), (.int (Int.ofNat 0) 0), (.ref 475), (.bool false), (.int (Int.ofNat 181) 0), (.ref 476), .none, .none, .none, .none, (.int (Int.ofNat 800) 0), (.int (Int.ofNat 96) 0), (.str "/claim/cut.py" 801)])) (.mk []))
def o3_478 (w : World) : Obj := (.mk (.type "frame") none .plain (.mk [(some (.ref 477)), (some (.ref 3)), (some (.ref 474)), none, (some (.str "haulprices.errors" 187)), none, (some (.ref 0))]))
def o3_479 (w : World) : Obj := (.mk (.type "tuple") none (.seq (.mk []) 0) (.mk []))
def o3_480 (w : World) : Obj := (.mk .none none (.fields (.mk [])) (.mk []))
def o3_481 (w : World) : Obj := (.mk (.type "tuple") none (.seq (.mk [(.str "self" 810), (.str "shown" 811)]) 0) (.mk []))
def o3_482 (w : World) : Obj := (.mk (.type "tuple") none (.seq (.mk []) 0) (.mk []))
def o3_483 (w : World) : Obj := (.mk .none none (.func (FuncData.mk "__init__" "BreaksRules.__init__" (L2.defArgs ((MP.clsB (HP.top 26)).getD 0 (.Pass ⟨0, 0, 0, 0⟩))) (FuncBody.stmts (L2.defBody ((MP.clsB (HP.top 26)).getD 0 (.Pass ⟨0, 0, 0, 0⟩)))) (L2.defScope ((MP.clsB (HP.top 26)).getD 0 (.Pass ⟨0, 0, 0, 0⟩))) 0 [] .none .none .none .none none .none .none 0)) (.mk []))
def o3_484 (w : World) : Obj := (.mk (.type "code") none (.fields (.mk [(.str "__init__" 807), (.str "BreaksRules.__init__" 808), (.str "/claim/cut.py" 809), (.int (Int.ofNat 98) 0), (.int (Int.ofNat 2) 0), (.int (Int.ofNat 0) 0), (.int (Int.ofNat 0) 0), (.int (Int.ofNat 3) 0), (.ref 479), (.bool true), (.int (Int.ofNat 181) 0), (.ref 480), .none, (.ref 481), (.ref 482), (.ref 483), (.int (Int.ofNat 812) 0), (.int (Int.ofNat 98) 0), (.str "/claim/cut.py" 813)])) (.mk []))
def o3_485 (w : World) : Obj := (.mk (.type "function") none (.func (FuncData.mk "__init__" "BreaksRules.__init__" (L2.defArgs ((MP.clsB (HP.top 26)).getD 0 (.Pass ⟨0, 0, 0, 0⟩))) (FuncBody.stmts (L2.defBody ((MP.clsB (HP.top 26)).getD 0 (.Pass ⟨0, 0, 0, 0⟩)))) (L2.defScope ((MP.clsB (HP.top 26)).getD 0 (.Pass ⟨0, 0, 0, 0⟩))) 3 [] .none .none .none (.str "haulprices.errors" 187) none (.ref 484) .none 0)) (.mk []))
def o3_486 (w : World) : Obj := (.mk (.type "tuple") none (.seq (.mk [(.str "shown" 815)]) 0) (.mk []))
def o3_487 (w : World) : Obj := (.mk (.type "dict") none (.dict (.mk [(.mk (HQ.hS w "__module__") (.str "__module__" 802) (.str "haulprices.errors" 187)), (.mk (HQ.hS w "__firstlineno__") (.str "__firstlineno__" 806) (.int (Int.ofNat 96) 805)), (.mk (HQ.hS w "__init__") (.str "__init__" 814) (.ref 485)), (.mk (HQ.hS w "__static_attributes__") (.str "__static_attributes__" 816) (.ref 486)), (.mk (HQ.hS w "__doc__") (.str "__doc__" 817) .none)]) 2) (.mk []))
def o3_488 (w : World) : Obj := (.mk (.type "type") none (.cls (PySem.ClassData.mk "BreaksRules" [(.ref 468)] [(.ref 488), (.ref 468), (.type "ArithmeticError"), (.type "Exception"), (.type "BaseException"), (.type "object")] 487 "BreaksRules" true [] [] false none false)) (.mk [(some (.ref 472)), none, (some (.str "BreaksRules" 795)), (some (.str "BreaksRules" 803)), (some (.builtin "ArithmeticError.__new__")), (some (.bool true))]))
def o3_489 (w : World) : Obj := (.mk (.type "super") none (.fields (.mk [(.ref 488), (.ref 488), (.ref 488)])) (.mk []))
def o3_490 (w : World) : Obj := (.mk (.type "builtin_function_or_method") none (.fields (.mk [(.builtin "object.__init_subclass__"), (.ref 488)])) (.mk []))
def o3_491 (w : World) : Obj := (.mk (.type "tuple") none (.seq (.mk [(.ref 468)]) 0) (.mk []))
def o3_492 (w : World) : Obj := (.mk (.type "builtin_function_or_method") none (.fields (.mk [(.builtin "type.__prepare__"), (.type "type")])) (.mk []))
def o3_493 (w : World) : Obj := (.mk (.type "dict") none (.dict (.mk [(.mk (HQ.hS w "__module__") (.str "__module__" 827) (.str "haulprices.errors" 187)), (.mk (HQ.hS w "__qualname__") (.str "__qualname__" 829) (.str "NoBook" 828)), (.mk (HQ.hS w "__firstlineno__") (.str "__firstlineno__" 831) (.int (Int.ofNat 100) 830)), (.mk (HQ.hS w "__init__") (.str "__init__" 839) (.ref 504)), (.mk (HQ.hS w "__static_attributes__") (.str "__static_attributes__" 841) (.ref 505))]) 5) (.mk []))
def o3_494 (w : World) : Obj := (.mk (.type "tuple") none (.seq (.mk []) 0) (.mk []))
def o3_495 (w : World) : Obj := (.mk .none none (.fields (.mk [(.int (Int.ofNat 102) 0), (.int (Int.ofNat 4) 0), (.ref 503)])) (.mk []))
def o3_496 (w : World) : Obj := (.mk (.type "code") none (.fields (.mk [(.str "NoBook" 822), (.str "NoBook" 823), (.str "/claim/cut.py" 824), (.int (Int.ofNat 100) 0), (.int (Int.ofNat 0) 0), (.int (Int.ofNat 0) 0), (.int (Int.ofNat 0) 0), (.int (Int.ofNat 0) 0), (.ref 494), (.bool false), (.int (Int.ofNat 181) 0), (.ref 495), .none, .none, .none, .none, (.int (Int.ofNat 825) 0), (.int (Int.ofNat 100) 0), (.str "/claim/cut.py" 826)])) (.mk []))
def o3_497 (w : World) : Obj := (.mk (.type "frame") none .plain (.mk [(some (.ref 496)), (some (.ref 3)), (some (.ref 493)), none, (some (.str "haulprices.errors" 187)), none, (some (.ref 0))]))
def o3_498 (w : World) : Obj := (.mk (.type "tuple") none (.seq (.mk []) 0) (.mk []))
def o3_499 (w : World) : Obj := (.mk .none none (.fields (.mk [])) (.mk []))
def o3_500 (w : World) : Obj := (.mk (.type "tuple") none (.seq (.mk [(.str "self" 835), (.str "shown" 836)]) 0) (.mk []))
def o3_501 (w : World) : Obj := (.mk (.type "tuple") none (.seq (.mk []) 0) (.mk []))
def o3_502 (w : World) : Obj := (.mk .none none (.func (FuncData.mk "__init__" "NoBook.__init__" (L2.defArgs ((MP.clsB (HP.top 27)).getD 0 (.Pass ⟨0, 0, 0, 0⟩))) (FuncBody.stmts (L2.defBody ((MP.clsB (HP.top 27)).getD 0 (.Pass ⟨0, 0, 0, 0⟩)))) (L2.defScope ((MP.clsB (HP.top 27)).getD 0 (.Pass ⟨0, 0, 0, 0⟩))) 0 [] .none .none .none .none none .none .none 0)) (.mk []))
def o3_503 (w : World) : Obj := (.mk (.type "code") none (.fields (.mk [(.str "__init__" 832), (.str "NoBook.__init__" 833), (.str "/claim/cut.py" 834), (.int (Int.ofNat 102) 0), (.int (Int.ofNat 2) 0), (.int (Int.ofNat 0) 0), (.int (Int.ofNat 0) 0), (.int (Int.ofNat 3) 0), (.ref 498), (.bool true), (.int (Int.ofNat 181) 0), (.ref 499), .none, (.ref 500), (.ref 501), (.ref 502), (.int (Int.ofNat 837) 0), (.int (Int.ofNat 102) 0), (.str "/claim/cut.py" 838)])) (.mk []))
def o3_504 (w : World) : Obj := (.mk (.type "function") none (.func (FuncData.mk "__init__" "NoBook.__init__" (L2.defArgs ((MP.clsB (HP.top 27)).getD 0 (.Pass ⟨0, 0, 0, 0⟩))) (FuncBody.stmts (L2.defBody ((MP.clsB (HP.top 27)).getD 0 (.Pass ⟨0, 0, 0, 0⟩)))) (L2.defScope ((MP.clsB (HP.top 27)).getD 0 (.Pass ⟨0, 0, 0, 0⟩))) 3 [] .none .none .none (.str "haulprices.errors" 187) none (.ref 503) .none 0)) (.mk []))
def o3_505 (w : World) : Obj := (.mk (.type "tuple") none (.seq (.mk [(.str "shown" 840)]) 0) (.mk []))
def o3_506 (w : World) : Obj := (.mk (.type "dict") none (.dict (.mk [(.mk (HQ.hS w "__module__") (.str "__module__" 827) (.str "haulprices.errors" 187)), (.mk (HQ.hS w "__firstlineno__") (.str "__firstlineno__" 831) (.int (Int.ofNat 100) 830)), (.mk (HQ.hS w "__init__") (.str "__init__" 839) (.ref 504)), (.mk (HQ.hS w "__static_attributes__") (.str "__static_attributes__" 841) (.ref 505)), (.mk (HQ.hS w "__doc__") (.str "__doc__" 842) .none)]) 2) (.mk []))
def o3_507 (w : World) : Obj := (.mk (.type "type") none (.cls (PySem.ClassData.mk "NoBook" [(.ref 468)] [(.ref 507), (.ref 468), (.type "ArithmeticError"), (.type "Exception"), (.type "BaseException"), (.type "object")] 506 "NoBook" true [] [] false none false)) (.mk [(some (.ref 491)), none, (some (.str "NoBook" 820)), (some (.str "NoBook" 828)), (some (.builtin "ArithmeticError.__new__")), (some (.bool true))]))
def o3_508 (w : World) : Obj := (.mk (.type "super") none (.fields (.mk [(.ref 507), (.ref 507), (.ref 507)])) (.mk []))
def o3_509 (w : World) : Obj := (.mk (.type "builtin_function_or_method") none (.fields (.mk [(.builtin "object.__init_subclass__"), (.ref 507)])) (.mk []))
def o3_510 (w : World) : Obj := (.mk (.type "tuple") none (.seq (.mk [(.ref 468)]) 0) (.mk []))
def o3_511 (w : World) : Obj := (.mk (.type "builtin_function_or_method") none (.fields (.mk [(.builtin "type.__prepare__"), (.type "type")])) (.mk []))
def o3_512 (w : World) : Obj := (.mk (.type "dict") none (.dict (.mk [(.mk (HQ.hS w "__module__") (.str "__module__" 852) (.str "haulprices.errors" 187)), (.mk (HQ.hS w "__qualname__") (.str "__qualname__" 854) (.str "Broken" 853)), (.mk (HQ.hS w "__firstlineno__") (.str "__firstlineno__" 856) (.int (Int.ofNat 104) 855)), (.mk (HQ.hS w "__init__") (.str "__init__" 864) (.ref 523)), (.mk (HQ.hS w "__static_attributes__") (.str "__static_attributes__" 866) (.ref 524))]) 5) (.mk []))
def o3_513 (w : World) : Obj := (.mk (.type "tuple") none (.seq (.mk []) 0) (.mk []))
def o3_514 (w : World) : Obj := (.mk .none none (.fields (.mk [(.int (Int.ofNat 106) 0), (.int (Int.ofNat 4) 0), (.ref 522)])) (.mk []))
def o3_515 (w : World) : Obj := (.mk (.type "code") none (.fields (.mk [(.str "Broken" 847), (.str "Broken" 848), (.str "/claim/cut.py" 849), (.int (Int.ofNat 104) 0), (.int (Int.ofNat 0) 0), (.int (Int.ofNat 0) 0), (.int (Int.ofNat 0) 0), (.int (Int.ofNat 0) 0), (.ref 513), (.bool false), (.int (Int.ofNat 181) 0), (.ref 514), .none, .none, .none, .none, (.int (Int.ofNat 850) 0), (.int (Int.ofNat 104) 0), (.str "/claim/cut.py" 851)])) (.mk []))
def o3_516 (w : World) : Obj := (.mk (.type "frame") none .plain (.mk [(some (.ref 515)), (some (.ref 3)), (some (.ref 512)), none, (some (.str "haulprices.errors" 187)), none, (some (.ref 0))]))
def o3_517 (w : World) : Obj := (.mk (.type "tuple") none (.seq (.mk []) 0) (.mk []))
def o3_518 (w : World) : Obj := (.mk .none none (.fields (.mk [])) (.mk []))
def o3_519 (w : World) : Obj := (.mk (.type "tuple") none (.seq (.mk [(.str "self" 860), (.str "index" 861)]) 0) (.mk []))
def o3_520 (w : World) : Obj := (.mk (.type "tuple") none (.seq (.mk []) 0) (.mk []))
def o3_521 (w : World) : Obj := (.mk .none none (.func (FuncData.mk "__init__" "Broken.__init__" (L2.defArgs ((MP.clsB (HP.top 28)).getD 0 (.Pass ⟨0, 0, 0, 0⟩))) (FuncBody.stmts (L2.defBody ((MP.clsB (HP.top 28)).getD 0 (.Pass ⟨0, 0, 0, 0⟩)))) (L2.defScope ((MP.clsB (HP.top 28)).getD 0 (.Pass ⟨0, 0, 0, 0⟩))) 0 [] .none .none .none .none none .none .none 0)) (.mk []))
def o3_522 (w : World) : Obj := (.mk (.type "code") none (.fields (.mk [(.str "__init__" 857), (.str "Broken.__init__" 858), (.str "/claim/cut.py" 859), (.int (Int.ofNat 106) 0), (.int (Int.ofNat 2) 0), (.int (Int.ofNat 0) 0), (.int (Int.ofNat 0) 0), (.int (Int.ofNat 3) 0), (.ref 517), (.bool true), (.int (Int.ofNat 181) 0), (.ref 518), .none, (.ref 519), (.ref 520), (.ref 521), (.int (Int.ofNat 862) 0), (.int (Int.ofNat 106) 0), (.str "/claim/cut.py" 863)])) (.mk []))
def o3_523 (w : World) : Obj := (.mk (.type "function") none (.func (FuncData.mk "__init__" "Broken.__init__" (L2.defArgs ((MP.clsB (HP.top 28)).getD 0 (.Pass ⟨0, 0, 0, 0⟩))) (FuncBody.stmts (L2.defBody ((MP.clsB (HP.top 28)).getD 0 (.Pass ⟨0, 0, 0, 0⟩)))) (L2.defScope ((MP.clsB (HP.top 28)).getD 0 (.Pass ⟨0, 0, 0, 0⟩))) 3 [] .none .none .none (.str "haulprices.errors" 187) none (.ref 522) .none 0)) (.mk []))
def o3_524 (w : World) : Obj := (.mk (.type "tuple") none (.seq (.mk [(.str "index" 865)]) 0) (.mk []))
def o3_525 (w : World) : Obj := (.mk (.type "dict") none (.dict (.mk [(.mk (HQ.hS w "__module__") (.str "__module__" 852) (.str "haulprices.errors" 187)), (.mk (HQ.hS w "__firstlineno__") (.str "__firstlineno__" 856) (.int (Int.ofNat 104) 855)), (.mk (HQ.hS w "__init__") (.str "__init__" 864) (.ref 523)), (.mk (HQ.hS w "__static_attributes__") (.str "__static_attributes__" 866) (.ref 524)), (.mk (HQ.hS w "__doc__") (.str "__doc__" 867) .none)]) 2) (.mk []))
def o3_526 (w : World) : Obj := (.mk (.type "type") none (.cls (PySem.ClassData.mk "Broken" [(.ref 468)] [(.ref 526), (.ref 468), (.type "ArithmeticError"), (.type "Exception"), (.type "BaseException"), (.type "object")] 525 "Broken" true [] [] false none false)) (.mk [(some (.ref 510)), none, (some (.str "Broken" 845)), (some (.str "Broken" 853)), (some (.builtin "ArithmeticError.__new__")), (some (.bool true))]))
def o3_527 (w : World) : Obj := (.mk (.type "super") none (.fields (.mk [(.ref 526), (.ref 526), (.ref 526)])) (.mk []))
def o3_528 (w : World) : Obj := (.mk (.type "builtin_function_or_method") none (.fields (.mk [(.builtin "object.__init_subclass__"), (.ref 526)])) (.mk []))
def o3_529 (w : World) : Obj := (.mk (.type "tuple") none (.seq (.mk [(.ref 468)]) 0) (.mk []))
def o3_530 (w : World) : Obj := (.mk (.type "builtin_function_or_method") none (.fields (.mk [(.builtin "type.__prepare__"), (.type "type")])) (.mk []))
def o3_531 (w : World) : Obj := (.mk (.type "dict") none (.dict (.mk [(.mk (HQ.hS w "__module__") (.str "__module__" 877) (.str "haulprices.errors" 187)), (.mk (HQ.hS w "__qualname__") (.str "__qualname__" 879) (.str "DoNotFit" 878)), (.mk (HQ.hS w "__firstlineno__") (.str "__firstlineno__" 881) (.int (Int.ofNat 108) 880)), (.mk (HQ.hS w "__static_attributes__") (.str "__static_attributes__" 882) (.ref 536))]) 4) (.mk []))
def o3_532 (w : World) : Obj := (.mk (.type "tuple") none (.seq (.mk []) 0) (.mk []))
def o3_533 (w : World) : Obj := (.mk .none none (.fields (.mk [])) (.mk []))
def o3_534 (w : World) : Obj := (.mk (.type "code") none (.fields (.mk [(.str "DoNotFit" 872), (.str "DoNotFit" 873), (.str "/claim/cut.py" 874), (.int (Int.ofNat 108) 0), (.int (Int.ofNat 0) 0), (.int (Int.ofNat 0) 0), (.int (Int.ofNat 0) 0), (.int (Int.ofNat 0) 0), (.ref 532), (.bool false), (.int (Int.ofNat 181) 0), (.ref 533), .none, .none, .none, .none, (.int (Int.ofNat 875) 0), (.int (Int.ofNat 108) 0), (.str "/claim/cut.py" 876)])) (.mk []))
def o3_535 (w : World) : Obj := (.mk (.type "frame") none .plain (.mk [(some (.ref 534)), (some (.ref 3)), (some (.ref 531)), none, (some (.str "haulprices.errors" 187)), none, (some (.ref 0))]))
def o3_536 (w : World) : Obj := (.mk (.type "tuple") none (.seq (.mk []) 0) (.mk []))
def o3_537 (w : World) : Obj := (.mk (.type "dict") none (.dict (.mk [(.mk (HQ.hS w "__module__") (.str "__module__" 877) (.str "haulprices.errors" 187)), (.mk (HQ.hS w "__firstlineno__") (.str "__firstlineno__" 881) (.int (Int.ofNat 108) 880)), (.mk (HQ.hS w "__static_attributes__") (.str "__static_attributes__" 882) (.ref 536)), (.mk (HQ.hS w "__doc__") (.str "__doc__" 883) .none)]) 2) (.mk []))
def o3_538 (w : World) : Obj := (.mk (.type "type") none (.cls (PySem.ClassData.mk "DoNotFit" [(.ref 468)] [(.ref 538), (.ref 468), (.type "ArithmeticError"), (.type "Exception"), (.type "BaseException"), (.type "object")] 537 "DoNotFit" true [] [] false none false)) (.mk [(some (.ref 529)), none, (some (.str "DoNotFit" 870)), (some (.str "DoNotFit" 878)), (some (.builtin "ArithmeticError.__new__")), (some (.bool true))]))
def o3_539 (w : World) : Obj := (.mk (.type "super") none (.fields (.mk [(.ref 538), (.ref 538), (.ref 538)])) (.mk []))
def o3_540 (w : World) : Obj := (.mk (.type "builtin_function_or_method") none (.fields (.mk [(.builtin "object.__init_subclass__"), (.ref 538)])) (.mk []))
def o3_541 (w : World) : Obj := (.mk (.type "tuple") none (.seq (.mk [(.ref 468)]) 0) (.mk []))
def o3_542 (w : World) : Obj := (.mk (.type "builtin_function_or_method") none (.fields (.mk [(.builtin "type.__prepare__"), (.type "type")])) (.mk []))
def o3_543 (w : World) : Obj := (.mk (.type "dict") none (.dict (.mk [(.mk (HQ.hS w "__module__") (.str "__module__" 893) (.str "haulprices.errors" 187)), (.mk (HQ.hS w "__qualname__") (.str "__qualname__" 895) (.str "NothingToUndo" 894)), (.mk (HQ.hS w "__firstlineno__") (.str "__firstlineno__" 897) (.int (Int.ofNat 110) 896)), (.mk (HQ.hS w "__static_attributes__") (.str "__static_attributes__" 898) (.ref 548))]) 4) (.mk []))
def o3_544 (w : World) : Obj := (.mk (.type "tuple") none (.seq (.mk []) 0) (.mk []))
def o3_545 (w : World) : Obj := (.mk .none none (.fields (.mk [])) (.mk []))
def o3_546 (w : World) : Obj := (.mk (.type "code") none (.fields (.mk [(.str "NothingToUndo" 888), (.str "NothingToUndo" 889), (.str "/claim/cut.py" 890), (.int (Int.ofNat 110) 0), (.int (Int.ofNat 0) 0), (.int (Int.ofNat 0) 0), (.int (Int.ofNat 0) 0), (.int (Int.ofNat 0) 0), (.ref 544), (.bool false), (.int (Int.ofNat 181) 0), (.ref 545), .none, .none, .none, .none, (.int (Int.ofNat 891) 0), (.int (Int.ofNat 110) 0), (.str "/claim/cut.py" 892)])) (.mk []))
def o3_547 (w : World) : Obj := (.mk (.type "frame") none .plain (.mk [(some (.ref 546)), (some (.ref 3)), (some (.ref 543)), none, (some (.str "haulprices.errors" 187)), none, (some (.ref 0))]))
def o3_548 (w : World) : Obj := (.mk (.type "tuple") none (.seq (.mk []) 0) (.mk []))
def o3_549 (w : World) : Obj := (.mk (.type "dict") none (.dict (.mk [(.mk (HQ.hS w "__module__") (.str "__module__" 893) (.str "haulprices.errors" 187)), (.mk (HQ.hS w "__firstlineno__") (.str "__firstlineno__" 897) (.int (Int.ofNat 110) 896)), (.mk (HQ.hS w "__static_attributes__") (.str "__static_attributes__" 898) (.ref 548)), (.mk (HQ.hS w "__doc__") (.str "__doc__" 899) .none)]) 2) (.mk []))
def o3_550 (w : World) : Obj := (.mk (.type "type") none (.cls (PySem.ClassData.mk "NothingToUndo" [(.ref 468)] [(.ref 550), (.ref 468), (.type "ArithmeticError"), (.type "Exception"), (.type "BaseException"), (.type "object")] 549 "NothingToUndo" true [] [] false none false)) (.mk [(some (.ref 541)), none, (some (.str "NothingToUndo" 886)), (some (.str "NothingToUndo" 894)), (some (.builtin "ArithmeticError.__new__")), (some (.bool true))]))
def o3_551 (w : World) : Obj := (.mk (.type "super") none (.fields (.mk [(.ref 550), (.ref 550), (.ref 550)])) (.mk []))
def o3_552 (w : World) : Obj := (.mk (.type "builtin_function_or_method") none (.fields (.mk [(.builtin "object.__init_subclass__"), (.ref 550)])) (.mk []))
def o3_553 (w : World) : Obj := (.mk (.type "tuple") none (.seq (.mk [(.ref 468)]) 0) (.mk []))
def o3_554 (w : World) : Obj := (.mk (.type "builtin_function_or_method") none (.fields (.mk [(.builtin "type.__prepare__"), (.type "type")])) (.mk []))
def o3_555 (w : World) : Obj := (.mk (.type "dict") none (.dict (.mk [(.mk (HQ.hS w "__module__") (.str "__module__" 909) (.str "haulprices.errors" 187)), (.mk (HQ.hS w "__qualname__") (.str "__qualname__" 911) (.str "TooMany" 910)), (.mk (HQ.hS w "__firstlineno__") (.str "__firstlineno__" 913) (.int (Int.ofNat 112) 912)), (.mk (HQ.hS w "__init__") (.str "__init__" 921) (.ref 566)), (.mk (HQ.hS w "__static_attributes__") (.str "__static_attributes__" 923) (.ref 567))]) 5) (.mk []))
def o3_556 (w : World) : Obj := (.mk (.type "tuple") none (.seq (.mk []) 0) (.mk []))
def o3_557 (w : World) : Obj := (.mk .none none (.fields (.mk [(.int (Int.ofNat 114) 0), (.int (Int.ofNat 4) 0), (.ref 565)])) (.mk []))
def o3_558 (w : World) : Obj := (.mk (.type "code") none (.fields (.mk [(.str "TooMany" 904), (.str "TooMany" 905), (.str "/claim/cut.py" 906), (.int (Int.ofNat 112) 0), (.int (Int.ofNat 0) 0), (.int (Int.ofNat 0) 0), (.int (Int.ofNat 0) 0), (.int (Int.ofNat 0) 0), (.ref 556), (.bool false), (.int (Int.ofNat 181) 0), (.ref 557), .none, .none, .none, .none, (.int (Int.ofNat 907) 0), (.int (Int.ofNat 112) 0), (.str "/claim/cut.py" 908)])) (.mk []))
def o3_559 (w : World) : Obj := (.mk (.type "frame") none .plain (.mk [(some (.ref 558)), (some (.ref 3)), (some (.ref 555)), none, (some (.str "haulprices.errors" 187)), none, (some (.ref 0))]))
def o3_560 (w : World) : Obj := (.mk (.type "tuple") none (.seq (.mk []) 0) (.mk []))
def o3_561 (w : World) : Obj := (.mk .none none (.fields (.mk [])) (.mk []))
def o3_562 (w : World) : Obj := (.mk (.type "tuple") none (.seq (.mk [(.str "self" 917), (.str "limit" 918)]) 0) (.mk []))
def o3_563 (w : World) : Obj := (.mk (.type "tuple") none (.seq (.mk []) 0) (.mk []))
def o3_564 (w : World) : Obj := (.mk .none none (.func (FuncData.mk "__init__" "TooMany.__init__" (L2.defArgs ((MP.clsB (HP.top 31)).getD 0 (.Pass ⟨0, 0, 0, 0⟩))) (FuncBody.stmts (L2.defBody ((MP.clsB (HP.top 31)).getD 0 (.Pass ⟨0, 0, 0, 0⟩)))) (L2.defScope ((MP.clsB (HP.top 31)).getD 0 (.Pass ⟨0, 0, 0, 0⟩))) 0 [] .none .none .none .none none .none .none 0)) (.mk []))
def o3_565 (w : World) : Obj := (.mk (.type "code") none (.fields (.mk [(.str "__init__" 914), (.str "TooMany.__init__" 915), (.str "/claim/cut.py" 916), (.int (Int.ofNat 114) 0), (.int (Int.ofNat 2) 0), (.int (Int.ofNat 0) 0), (.int (Int.ofNat 0) 0), (.int (Int.ofNat 3) 0), (.ref 560), (.bool true), (.int (Int.ofNat 181) 0), (.ref 561), .none, (.ref 562), (.ref 563), (.ref 564), (.int (Int.ofNat 919) 0), (.int (Int.ofNat 114) 0), (.str "/claim/cut.py" 920)])) (.mk []))
def o3_566 (w : World) : Obj := (.mk (.type "function") none (.func (FuncData.mk "__init__" "TooMany.__init__" (L2.defArgs ((MP.clsB (HP.top 31)).getD 0 (.Pass ⟨0, 0, 0, 0⟩))) (FuncBody.stmts (L2.defBody ((MP.clsB (HP.top 31)).getD 0 (.Pass ⟨0, 0, 0, 0⟩)))) (L2.defScope ((MP.clsB (HP.top 31)).getD 0 (.Pass ⟨0, 0, 0, 0⟩))) 3 [] .none .none .none (.str "haulprices.errors" 187) none (.ref 565) .none 0)) (.mk []))
def o3_567 (w : World) : Obj := (.mk (.type "tuple") none (.seq (.mk [(.str "limit" 922)]) 0) (.mk []))
def o3_568 (w : World) : Obj := (.mk (.type "dict") none (.dict (.mk [(.mk (HQ.hS w "__module__") (.str "__module__" 909) (.str "haulprices.errors" 187)), (.mk (HQ.hS w "__firstlineno__") (.str "__firstlineno__" 913) (.int (Int.ofNat 112) 912)), (.mk (HQ.hS w "__init__") (.str "__init__" 921) (.ref 566)), (.mk (HQ.hS w "__static_attributes__") (.str "__static_attributes__" 923) (.ref 567)), (.mk (HQ.hS w "__doc__") (.str "__doc__" 924) .none)]) 2) (.mk []))
def o3_569 (w : World) : Obj := (.mk (.type "type") none (.cls (PySem.ClassData.mk "TooMany" [(.ref 468)] [(.ref 569), (.ref 468), (.type "ArithmeticError"), (.type "Exception"), (.type "BaseException"), (.type "object")] 568 "TooMany" true [] [] false none false)) (.mk [(some (.ref 553)), none, (some (.str "TooMany" 902)), (some (.str "TooMany" 910)), (some (.builtin "ArithmeticError.__new__")), (some (.bool true))]))
def o3_570 (w : World) : Obj := (.mk (.type "super") none (.fields (.mk [(.ref 569), (.ref 569), (.ref 569)])) (.mk []))
def o3_571 (w : World) : Obj := (.mk (.type "builtin_function_or_method") none (.fields (.mk [(.builtin "object.__init_subclass__"), (.ref 569)])) (.mk []))
def o3_572 (w : World) : Obj := (.mk (.type "tuple") none (.seq (.mk []) 0) (.mk []))
def o3_573 (w : World) : Obj := (.mk .none none (.fields (.mk [])) (.mk []))
def o3_574 (w : World) : Obj := (.mk (.type "tuple") none (.seq (.mk [(.str "_law_script" 946), (.str "_law_k" 947), (.str "_law_mixed" 948), (.str "_law_cell" 949), (.str "_law_own" 950), (.str "_law_digits" 951)]) 0) (.mk []))
def o3_575 (w : World) : Obj := (.mk (.type "tuple") none (.seq (.mk []) 0) (.mk []))
def o3_576 (w : World) : Obj := (.mk .none none (.func (FuncData.mk "_law_jar" "_law_jar" (L2.defArgs (HP.top 38)) (FuncBody.stmts (L2.defBody (HP.top 38))) (L2.defScope (HP.top 38)) 0 [] .none .none .none .none none .none .none 0)) (.mk []))
def o3_577 (w : World) : Obj := (.mk (.type "code") none (.fields (.mk [(.str "_law_jar" 943), (.str "_law_jar" 944), (.str "/claim/cut.py" 945), (.int (Int.ofNat 122) 0), (.int (Int.ofNat 2) 0), (.int (Int.ofNat 0) 0), (.int (Int.ofNat 0) 0), (.int (Int.ofNat 3) 0), (.ref 572), (.bool true), (.int (Int.ofNat 181) 0), (.ref 573), .none, (.ref 574), (.ref 575), (.ref 576), (.int (Int.ofNat 952) 0), (.int (Int.ofNat 122) 0), (.str "/claim/cut.py" 953)])) (.mk []))
def o3_578 (w : World) : Obj := (.mk (.type "function") none (.func (FuncData.mk "_law_jar" "_law_jar" (L2.defArgs (HP.top 38)) (FuncBody.stmts (L2.defBody (HP.top 38))) (L2.defScope (HP.top 38)) 3 [] .none .none .none (.str "law_haulprices_k01_limits_and_errors" 941) none (.ref 577) .none 0)) (.mk []))
def o3_579 (w : World) : Obj := (.mk (.type "tuple") none (.seq (.mk []) 0) (.mk []))
def o3_580 (w : World) : Obj := (.mk .none none (.fields (.mk [])) (.mk []))
def o3_581 (w : World) : Obj := (.mk (.type "tuple") none (.seq (.mk [(.str "_law_jar_here" 958), (.str "_law_many" 959), (.str "_law_digit" 960), (.str "_law_seed" 961)]) 0) (.mk []))
def o3_582 (w : World) : Obj := (.mk (.type "tuple") none (.seq (.mk []) 0) (.mk []))
def o3_583 (w : World) : Obj := (.mk .none none (.func (FuncData.mk "_law_dip" "_law_dip" (L2.defArgs (HP.top 39)) (FuncBody.stmts (L2.defBody (HP.top 39))) (L2.defScope (HP.top 39)) 0 [] .none .none .none .none none .none .none 0)) (.mk []))
def o3_584 (w : World) : Obj := (.mk (.type "code") none (.fields (.mk [(.str "_law_dip" 955), (.str "_law_dip" 956), (.str "/claim/cut.py" 957), (.int (Int.ofNat 129) 0), (.int (Int.ofNat 2) 0), (.int (Int.ofNat 0) 0), (.int (Int.ofNat 0) 0), (.int (Int.ofNat 3) 0), (.ref 579), (.bool true), (.int (Int.ofNat 181) 0), (.ref 580), .none, (.ref 581), (.ref 582), (.ref 583), (.int (Int.ofNat 962) 0), (.int (Int.ofNat 129) 0), (.str "/claim/cut.py" 963)])) (.mk []))
def o3_585 (w : World) : Obj := (.mk (.type "function") none (.func (FuncData.mk "_law_dip" "_law_dip" (L2.defArgs (HP.top 39)) (FuncBody.stmts (L2.defBody (HP.top 39))) (L2.defScope (HP.top 39)) 3 [] .none .none .none (.str "law_haulprices_k01_limits_and_errors" 941) none (.ref 584) .none 0)) (.mk []))
def o3_586 (w : World) : Obj := (.mk (.type "tuple") none (.seq (.mk []) 0) (.mk []))
def o3_587 (w : World) : Obj := (.mk .none none (.fields (.mk [])) (.mk []))
def o3_588 (w : World) : Obj := (.mk (.type "tuple") none (.seq (.mk [(.str "_law_jar_here" 968), (.str "_law_menu" 969), (.str "_law_at" 970)]) 0) (.mk []))
def o3_589 (w : World) : Obj := (.mk (.type "tuple") none (.seq (.mk []) 0) (.mk []))
def o3_590 (w : World) : Obj := (.mk .none none (.func (FuncData.mk "_law_pick" "_law_pick" (L2.defArgs (HP.top 40)) (FuncBody.stmts (L2.defBody (HP.top 40))) (L2.defScope (HP.top 40)) 0 [] .none .none .none .none none .none .none 0)) (.mk []))
def o3_591 (w : World) : Obj := (.mk (.type "code") none (.fields (.mk [(.str "_law_pick" 965), (.str "_law_pick" 966), (.str "/claim/cut.py" 967), (.int (Int.ofNat 138) 0), (.int (Int.ofNat 2) 0), (.int (Int.ofNat 0) 0), (.int (Int.ofNat 0) 0), (.int (Int.ofNat 3) 0), (.ref 586), (.bool true), (.int (Int.ofNat 181) 0), (.ref 587), .none, (.ref 588), (.ref 589), (.ref 590), (.int (Int.ofNat 971) 0), (.int (Int.ofNat 138) 0), (.str "/claim/cut.py" 972)])) (.mk []))
def o3_592 (w : World) : Obj := (.mk (.type "function") none (.func (FuncData.mk "_law_pick" "_law_pick" (L2.defArgs (HP.top 40)) (FuncBody.stmts (L2.defBody (HP.top 40))) (L2.defScope (HP.top 40)) 3 [] .none .none .none (.str "law_haulprices_k01_limits_and_errors" 941) none (.ref 591) .none 0)) (.mk []))
def o3_593 (w : World) : Obj := (.mk (.type "tuple") none (.seq (.mk []) 0) (.mk []))
def o3_594 (w : World) : Obj := (.mk .none none (.fields (.mk [])) (.mk []))
def o3_595 (w : World) : Obj := (.mk (.type "tuple") none (.seq (.mk [(.str "_law_e" 977), (.str "_law_found" 978)]) 0) (.mk []))
def o3_596 (w : World) : Obj := (.mk (.type "tuple") none (.seq (.mk []) 0) (.mk []))
def o3_597 (w : World) : Obj := (.mk .none none (.func (FuncData.mk "_law_tags" "_law_tags" (L2.defArgs (HP.top 41)) (FuncBody.stmts (L2.defBody (HP.top 41))) (L2.defScope (HP.top 41)) 0 [] .none .none .none .none none .none .none 0)) (.mk []))
def o3_598 (w : World) : Obj := (.mk (.type "code") none (.fields (.mk [(.str "_law_tags" 974), (.str "_law_tags" 975), (.str "/claim/cut.py" 976), (.int (Int.ofNat 141) 0), (.int (Int.ofNat 1) 0), (.int (Int.ofNat 0) 0), (.int (Int.ofNat 0) 0), (.int (Int.ofNat 3) 0), (.ref 593), (.bool true), (.int (Int.ofNat 181) 0), (.ref 594), .none, (.ref 595), (.ref 596), (.ref 597), (.int (Int.ofNat 979) 0), (.int (Int.ofNat 141) 0), (.str "/claim/cut.py" 980)])) (.mk []))
def o3_599 (w : World) : Obj := (.mk (.type "function") none (.func (FuncData.mk "_law_tags" "_law_tags" (L2.defArgs (HP.top 41)) (FuncBody.stmts (L2.defBody (HP.top 41))) (L2.defScope (HP.top 41)) 3 [] .none .none .none (.str "law_haulprices_k01_limits_and_errors" 941) none (.ref 598) .none 0)) (.mk []))
def o3_600 (w : World) : Obj := (.mk (.type "tuple") none (.seq (.mk []) 0) (.mk []))
def o3_601 (w : World) : Obj := (.mk .none none (.fields (.mk [])) (.mk []))
def o3_602 (w : World) : Obj := (.mk (.type "tuple") none (.seq (.mk [(.str "_law_thing" 985), (.str "_law_found" 986)]) 0) (.mk []))
def o3_603 (w : World) : Obj := (.mk (.type "tuple") none (.seq (.mk []) 0) (.mk []))
def o3_604 (w : World) : Obj := (.mk .none none (.func (FuncData.mk "_law_all" "_law_all" (L2.defArgs (HP.top 42)) (FuncBody.stmts (L2.defBody (HP.top 42))) (L2.defScope (HP.top 42)) 0 [] .none .none .none .none none .none .none 0)) (.mk []))
def o3_605 (w : World) : Obj := (.mk (.type "code") none (.fields (.mk [(.str "_law_all" 982), (.str "_law_all" 983), (.str "/claim/cut.py" 984), (.int (Int.ofNat 172) 0), (.int (Int.ofNat 1) 0), (.int (Int.ofNat 0) 0), (.int (Int.ofNat 0) 0), (.int (Int.ofNat 3) 0), (.ref 600), (.bool true), (.int (Int.ofNat 181) 0), (.ref 601), .none, (.ref 602), (.ref 603), (.ref 604), (.int (Int.ofNat 987) 0), (.int (Int.ofNat 172) 0), (.str "/claim/cut.py" 988)])) (.mk []))
def o3_606 (w : World) : Obj := (.mk (.type "function") none (.func (FuncData.mk "_law_all" "_law_all" (L2.defArgs (HP.top 42)) (FuncBody.stmts (L2.defBody (HP.top 42))) (L2.defScope (HP.top 42)) 3 [] .none .none .none (.str "law_haulprices_k01_limits_and_errors" 941) none (.ref 605) .none 0)) (.mk []))
def o3_607 (w : World) : Obj := (.mk (.type "tuple") none (.seq (.mk []) 0) (.mk []))
def o3_608 (w : World) : Obj := (.mk .none none (.fields (.mk [])) (.mk []))
def o3_609 (w : World) : Obj := (.mk (.type "tuple") none (.seq (.mk [(.str "_law_thing" 993), (.str "_law_found" 994)]) 0) (.mk []))
def o3_610 (w : World) : Obj := (.mk (.type "tuple") none (.seq (.mk []) 0) (.mk []))
def o3_611 (w : World) : Obj := (.mk .none none (.func (FuncData.mk "_law_named" "_law_named" (L2.defArgs (HP.top 43)) (FuncBody.stmts (L2.defBody (HP.top 43))) (L2.defScope (HP.top 43)) 0 [] .none .none .none .none none .none .none 0)) (.mk []))
def o3_612 (w : World) : Obj := (.mk (.type "code") none (.fields (.mk [(.str "_law_named" 990), (.str "_law_named" 991), (.str "/claim/cut.py" 992), (.int (Int.ofNat 179) 0), (.int (Int.ofNat 1) 0), (.int (Int.ofNat 0) 0), (.int (Int.ofNat 0) 0), (.int (Int.ofNat 3) 0), (.ref 607), (.bool true), (.int (Int.ofNat 181) 0), (.ref 608), .none, (.ref 609), (.ref 610), (.ref 611), (.int (Int.ofNat 995) 0), (.int (Int.ofNat 179) 0), (.str "/claim/cut.py" 996)])) (.mk []))
def o3_613 (w : World) : Obj := (.mk (.type "function") none (.func (FuncData.mk "_law_named" "_law_named" (L2.defArgs (HP.top 43)) (FuncBody.stmts (L2.defBody (HP.top 43))) (L2.defScope (HP.top 43)) 3 [] .none .none .none (.str "law_haulprices_k01_limits_and_errors" 941) none (.ref 612) .none 0)) (.mk []))
def o3_614 (w : World) : Obj := (.mk (.type "tuple") none (.seq (.mk []) 0) (.mk []))
def o3_615 (w : World) : Obj := (.mk .none none (.fields (.mk [])) (.mk []))
def o3_616 (w : World) : Obj := (.mk (.type "tuple") none (.seq (.mk [(.str "_law_found" 1001)]) 0) (.mk []))
def o3_617 (w : World) : Obj := (.mk (.type "tuple") none (.seq (.mk []) 0) (.mk []))
def o3_618 (w : World) : Obj := (.mk .none none (.func (FuncData.mk "_law_words" "_law_words" (L2.defArgs (HP.top 44)) (FuncBody.stmts (L2.defBody (HP.top 44))) (L2.defScope (HP.top 44)) 0 [] .none .none .none .none none .none .none 0)) (.mk []))
def o3_619 (w : World) : Obj := (.mk (.type "code") none (.fields (.mk [(.str "_law_words" 998), (.str "_law_words" 999), (.str "/claim/cut.py" 1000), (.int (Int.ofNat 188) 0), (.int (Int.ofNat 0) 0), (.int (Int.ofNat 0) 0), (.int (Int.ofNat 0) 0), (.int (Int.ofNat 3) 0), (.ref 614), (.bool true), (.int (Int.ofNat 181) 0), (.ref 615), .none, (.ref 616), (.ref 617), (.ref 618), (.int (Int.ofNat 1002) 0), (.int (Int.ofNat 188) 0), (.str "/claim/cut.py" 1003)])) (.mk []))
def o3_620 (w : World) : Obj := (.mk (.type "function") none (.func (FuncData.mk "_law_words" "_law_words" (L2.defArgs (HP.top 44)) (FuncBody.stmts (L2.defBody (HP.top 44))) (L2.defScope (HP.top 44)) 3 [] .none .none .none (.str "law_haulprices_k01_limits_and_errors" 941) none (.ref 619) .none 0)) (.mk []))
def o3_621 (w : World) : Obj := (.mk (.type "tuple") none (.seq (.mk []) 0) (.mk []))
def o3_622 (w : World) : Obj := (.mk .none none (.fields (.mk [])) (.mk []))
def o3_623 (w : World) : Obj := (.mk (.type "tuple") none (.seq (.mk [(.str "_law_e" 1008), (.str "_law_at" 1009)]) 0) (.mk []))
def o3_624 (w : World) : Obj := (.mk (.type "tuple") none (.seq (.mk []) 0) (.mk []))
def o3_625 (w : World) : Obj := (.mk .none none (.func (FuncData.mk "_law_kept" "_law_kept" (L2.defArgs (HP.top 45)) (FuncBody.stmts (L2.defBody (HP.top 45))) (L2.defScope (HP.top 45)) 0 [] .none .none .none .none none .none .none 0)) (.mk []))
def o3_626 (w : World) : Obj := (.mk (.type "code") none (.fields (.mk [(.str "_law_kept" 1005), (.str "_law_kept" 1006), (.str "/claim/cut.py" 1007), (.int (Int.ofNat 192) 0), (.int (Int.ofNat 2) 0), (.int (Int.ofNat 0) 0), (.int (Int.ofNat 0) 0), (.int (Int.ofNat 3) 0), (.ref 621), (.bool true), (.int (Int.ofNat 181) 0), (.ref 622), .none, (.ref 623), (.ref 624), (.ref 625), (.int (Int.ofNat 1010) 0), (.int (Int.ofNat 192) 0), (.str "/claim/cut.py" 1011)])) (.mk []))
def o3_627 (w : World) : Obj := (.mk (.type "function") none (.func (FuncData.mk "_law_kept" "_law_kept" (L2.defArgs (HP.top 45)) (FuncBody.stmts (L2.defBody (HP.top 45))) (L2.defScope (HP.top 45)) 3 [] .none .none .none (.str "law_haulprices_k01_limits_and_errors" 941) none (.ref 626) .none 0)) (.mk []))
def o3_628 (w : World) : Obj := (.mk (.type "tuple") none (.seq (.mk []) 0) (.mk []))
def o3_629 (w : World) : Obj := (.mk .none none (.fields (.mk [])) (.mk []))
def o3_630 (w : World) : Obj := (.mk (.type "tuple") none (.seq (.mk [(.str "_law_e" 1016), (.str "_law_found" 1017)]) 0) (.mk []))
def o3_631 (w : World) : Obj := (.mk (.type "tuple") none (.seq (.mk []) 0) (.mk []))
def o3_632 (w : World) : Obj := (.mk .none none (.func (FuncData.mk "_law_bases" "_law_bases" (L2.defArgs (HP.top 46)) (FuncBody.stmts (L2.defBody (HP.top 46))) (L2.defScope (HP.top 46)) 0 [] .none .none .none .none none .none .none 0)) (.mk []))
def o3_633 (w : World) : Obj := (.mk (.type "code") none (.fields (.mk [(.str "_law_bases" 1013), (.str "_law_bases" 1014), (.str "/claim/cut.py" 1015), (.int (Int.ofNat 200) 0), (.int (Int.ofNat 1) 0), (.int (Int.ofNat 0) 0), (.int (Int.ofNat 0) 0), (.int (Int.ofNat 3) 0), (.ref 628), (.bool true), (.int (Int.ofNat 181) 0), (.ref 629), .none, (.ref 630), (.ref 631), (.ref 632), (.int (Int.ofNat 1018) 0), (.int (Int.ofNat 200) 0), (.str "/claim/cut.py" 1019)])) (.mk []))
def o3_634 (w : World) : Obj := (.mk (.type "function") none (.func (FuncData.mk "_law_bases" "_law_bases" (L2.defArgs (HP.top 46)) (FuncBody.stmts (L2.defBody (HP.top 46))) (L2.defScope (HP.top 46)) 3 [] .none .none .none (.str "law_haulprices_k01_limits_and_errors" 941) none (.ref 633) .none 0)) (.mk []))
def o3_635 (w : World) : Obj := (.mk (.type "tuple") none (.seq (.mk []) 0) (.mk []))
def o3_636 (w : World) : Obj := (.mk .none none (.fields (.mk [])) (.mk []))
def o3_637 (w : World) : Obj := (.mk .none none (.func (FuncData.mk "_law_right" "_law_right" (L2.defArgs (HP.top 47)) (FuncBody.stmts (L2.defBody (HP.top 47))) (L2.defScope (HP.top 47)) 0 [] .none .none .none .none none .none .none 0)) (.mk []))
def o3_638 (w : World) : Obj := (.mk (.type "code") none (.fields (.mk [(.str "_law_right" 1021), (.str "_law_right" 1022), (.str "/claim/cut.py" 1023), (.int (Int.ofNat 203) 0), (.int (Int.ofNat 2) 0), (.int (Int.ofNat 0) 0), (.int (Int.ofNat 0) 0), (.int (Int.ofNat 3) 0), (.ref 635), (.bool true), (.int (Int.ofNat 181) 0), (.ref 636), .none, .none, .none, (.ref 637), (.int (Int.ofNat 1024) 0), (.int (Int.ofNat 203) 0), (.str "/claim/cut.py" 1025)])) (.mk []))
def o3_639 (w : World) : Obj := (.mk (.type "function") none (.func (FuncData.mk "_law_right" "_law_right" (L2.defArgs (HP.top 47)) (FuncBody.stmts (L2.defBody (HP.top 47))) (L2.defScope (HP.top 47)) 3 [] .none .none .none (.str "law_haulprices_k01_limits_and_errors" 941) none (.ref 638) .none 0)) (.mk []))
def l3_0 (w : World) : List Obj := [o1_0 w, o1_1 w, o3_2 w, o3_3 w, o1_4 w, o1_5 w, o1_6 w, o1_7 w, o1_8 w, o1_9 w, o1_10 w, o1_11 w, o3_12 w, o1_13 w, o1_14 w, o1_15 w, o1_16 w, o1_17 w, o1_18 w, o1_19 w, o1_20 w, o1_21 w, o1_22 w, o1_23 w, o2_24 w]
def l3_1 (w : World) : List Obj := [o1_25 w, o1_26 w, o1_27 w, o1_28 w, o1_29 w, o1_30 w, o1_31 w, o1_32 w, o1_33 w, o1_34 w, o1_35 w, o1_36 w, o1_37 w, o1_38 w, o1_39 w, o1_40 w, o1_41 w, o1_42 w, o1_43 w, o1_44 w, o1_45 w, o1_46 w, o1_47 w, o1_48 w, o1_49 w]
def l3_2 (w : World) : List Obj := [o1_50 w, o1_51 w, o1_52 w, o1_53 w, o1_54 w, o1_55 w, o1_56 w, o1_57 w, o1_58 w, o1_59 w, o1_60 w, o1_61 w, o1_62 w, o1_63 w, o1_64 w, o1_65 w, o1_66 w, o1_67 w, o1_68 w, o1_69 w, o1_70 w, o1_71 w, o1_72 w, o1_73 w, o1_74 w]
def l3_3 (w : World) : List Obj := [o1_75 w, o1_76 w, o1_77 w, o1_78 w, o1_79 w, o1_80 w, o1_81 w, o1_82 w, o1_83 w, o1_84 w, o1_85 w, o1_86 w, o1_87 w, o1_88 w, o1_89 w, o1_90 w, o1_91 w, o1_92 w, o1_93 w, o1_94 w, o1_95 w, o1_96 w, o1_97 w, o1_98 w, o1_99 w]
def l3_4 (w : World) : List Obj := [o1_100 w, o1_101 w, o1_102 w, o1_103 w, o1_104 w, o1_105 w, o1_106 w, o1_107 w, o1_108 w, o1_109 w, o1_110 w, o1_111 w, o1_112 w, o1_113 w, o1_114 w, o1_115 w, o1_116 w, o1_117 w, o1_118 w, o1_119 w, o1_120 w, o1_121 w, o1_122 w, o1_123 w, o1_124 w]
def l3_5 (w : World) : List Obj := [o1_125 w, o1_126 w, o1_127 w, o1_128 w, o1_129 w, o1_130 w, o1_131 w, o1_132 w, o1_133 w, o1_134 w, o1_135 w, o1_136 w, o1_137 w, o1_138 w, o1_139 w, o1_140 w, o1_141 w, o1_142 w, o1_143 w, o1_144 w, o1_145 w, o1_146 w, o1_147 w, o1_148 w, o1_149 w]
def l3_6 (w : World) : List Obj := [o1_150 w, o1_151 w, o1_152 w, o1_153 w, o1_154 w, o1_155 w, o1_156 w, o1_157 w, o1_158 w, o1_159 w, o1_160 w, o1_161 w, o1_162 w, o1_163 w, o1_164 w, o1_165 w, o1_166 w, o1_167 w, o1_168 w, o1_169 w, o1_170 w, o1_171 w, o1_172 w, o1_173 w, o1_174 w]
def l3_7 (w : World) : List Obj := [o1_175 w, o1_176 w, o1_177 w, o1_178 w, o1_179 w, o1_180 w, o1_181 w, o1_182 w, o1_183 w, o1_184 w, o1_185 w, o1_186 w, o1_187 w, o1_188 w, o1_189 w, o1_190 w, o1_191 w, o1_192 w, o1_193 w, o1_194 w, o1_195 w, o1_196 w, o1_197 w, o1_198 w, o1_199 w]
def l3_8 (w : World) : List Obj := [o1_200 w, o1_201 w, o1_202 w, o1_203 w, o1_204 w, o1_205 w, o1_206 w, o1_207 w, o1_208 w, o1_209 w, o1_210 w, o1_211 w, o1_212 w, o1_213 w, o1_214 w, o1_215 w, o1_216 w, o1_217 w, o2_218 w, o2_219 w, o2_220 w, o2_221 w, o2_222 w, o2_223 w, o2_224 w]
def l3_9 (w : World) : List Obj := [o2_225 w, o2_226 w, o2_227 w, o2_228 w, o2_229 w, o2_230 w, o2_231 w, o2_232 w, o2_233 w, o2_234 w, o2_235 w, o2_236 w, o2_237 w, o2_238 w, o2_239 w, o2_240 w, o2_241 w, o2_242 w, o2_243 w, o2_244 w, o2_245 w, o2_246 w, o2_247 w, o2_248 w, o2_249 w]
def l3_10 (w : World) : List Obj := [o2_250 w, o2_251 w, o2_252 w, o2_253 w, o2_254 w, o2_255 w, o2_256 w, o2_257 w, o2_258 w, o2_259 w, o2_260 w, o2_261 w, o2_262 w, o2_263 w, o2_264 w, o2_265 w, o2_266 w, o2_267 w, o2_268 w, o2_269 w, o2_270 w, o2_271 w, o2_272 w, o2_273 w, o2_274 w]
def l3_11 (w : World) : List Obj := [o2_275 w, o2_276 w, o2_277 w, o2_278 w, o2_279 w, o2_280 w, o2_281 w, o2_282 w, o2_283 w, o2_284 w, o2_285 w, o2_286 w, o2_287 w, o2_288 w, o2_289 w, o2_290 w, o2_291 w, o2_292 w, o2_293 w, o2_294 w, o2_295 w, o2_296 w, o2_297 w, o2_298 w, o2_299 w]
def l3_12 (w : World) : List Obj := [o2_300 w, o2_301 w, o2_302 w, o2_303 w, o2_304 w, o2_305 w, o2_306 w, o2_307 w, o2_308 w, o2_309 w, o2_310 w, o2_311 w, o2_312 w, o2_313 w, o2_314 w, o2_315 w, o2_316 w, o2_317 w, o2_318 w, o2_319 w, o2_320 w, o2_321 w, o2_322 w, o2_323 w, o2_324 w]
def l3_13 (w : World) : List Obj := [o2_325 w, o2_326 w, o2_327 w, o2_328 w, o2_329 w, o2_330 w, o2_331 w, o2_332 w, o2_333 w, o2_334 w, o2_335 w, o2_336 w, o2_337 w, o2_338 w, o2_339 w, o2_340 w, o2_341 w, o2_342 w, o2_343 w, o2_344 w, o2_345 w, o2_346 w, o2_347 w, o2_348 w, o2_349 w]
def l3_14 (w : World) : List Obj := [o2_350 w, o2_351 w, o2_352 w, o2_353 w, o2_354 w, o2_355 w, o2_356 w, o2_357 w, o2_358 w, o2_359 w, o2_360 w, o2_361 w, o2_362 w, o2_363 w, o2_364 w, o2_365 w, o2_366 w, o2_367 w, o2_368 w, o2_369 w, o2_370 w, o2_371 w, o2_372 w, o2_373 w, o2_374 w]
def l3_15 (w : World) : List Obj := [o2_375 w, o2_376 w, o2_377 w, o2_378 w, o2_379 w, o2_380 w, o2_381 w, o2_382 w, o2_383 w, o2_384 w, o2_385 w, o2_386 w, o2_387 w, o2_388 w, o2_389 w, o2_390 w, o2_391 w, o2_392 w, o2_393 w, o2_394 w, o2_395 w, o2_396 w, o2_397 w, o2_398 w, o2_399 w]
def l3_16 (w : World) : List Obj := [o2_400 w, o2_401 w, o2_402 w, o2_403 w, o2_404 w, o2_405 w, o2_406 w, o2_407 w, o3_408 w, o3_409 w, o3_410 w, o3_411 w, o3_412 w, o3_413 w, o3_414 w, o3_415 w, o3_416 w, o3_417 w, o3_418 w, o3_419 w, o3_420 w, o3_421 w, o3_422 w, o3_423 w, o3_424 w]
def l3_17 (w : World) : List Obj := [o3_425 w, o3_426 w, o3_427 w, o3_428 w, o3_429 w, o3_430 w, o3_431 w, o3_432 w, o3_433 w, o3_434 w, o3_435 w, o3_436 w, o3_437 w, o3_438 w, o3_439 w, o3_440 w, o3_441 w, o3_442 w, o3_443 w, o3_444 w, o3_445 w, o3_446 w, o3_447 w, o3_448 w, o3_449 w]
def l3_18 (w : World) : List Obj := [o3_450 w, o3_451 w, o3_452 w, o3_453 w, o3_454 w, o3_455 w, o3_456 w, o3_457 w, o3_458 w, o3_459 w, o3_460 w, o3_461 w, o3_462 w, o3_463 w, o3_464 w, o3_465 w, o3_466 w, o3_467 w, o3_468 w, o3_469 w, o3_470 w, o3_471 w, o3_472 w, o3_473 w, o3_474 w]
def l3_19 (w : World) : List Obj := [o3_475 w, o3_476 w, o3_477 w, o3_478 w, o3_479 w, o3_480 w, o3_481 w, o3_482 w, o3_483 w, o3_484 w, o3_485 w, o3_486 w, o3_487 w, o3_488 w, o3_489 w, o3_490 w, o3_491 w, o3_492 w, o3_493 w, o3_494 w, o3_495 w, o3_496 w, o3_497 w, o3_498 w, o3_499 w]
def l3_20 (w : World) : List Obj := [o3_500 w, o3_501 w, o3_502 w, o3_503 w, o3_504 w, o3_505 w, o3_506 w, o3_507 w, o3_508 w, o3_509 w, o3_510 w, o3_511 w, o3_512 w, o3_513 w, o3_514 w, o3_515 w, o3_516 w, o3_517 w, o3_518 w, o3_519 w, o3_520 w, o3_521 w, o3_522 w, o3_523 w, o3_524 w]
def l3_21 (w : World) : List Obj := [o3_525 w, o3_526 w, o3_527 w, o3_528 w, o3_529 w, o3_530 w, o3_531 w, o3_532 w, o3_533 w, o3_534 w, o3_535 w, o3_536 w, o3_537 w, o3_538 w, o3_539 w, o3_540 w, o3_541 w, o3_542 w, o3_543 w, o3_544 w, o3_545 w, o3_546 w, o3_547 w, o3_548 w, o3_549 w]
def l3_22 (w : World) : List Obj := [o3_550 w, o3_551 w, o3_552 w, o3_553 w, o3_554 w, o3_555 w, o3_556 w, o3_557 w, o3_558 w, o3_559 w, o3_560 w, o3_561 w, o3_562 w, o3_563 w, o3_564 w, o3_565 w, o3_566 w, o3_567 w, o3_568 w, o3_569 w, o3_570 w, o3_571 w, o3_572 w, o3_573 w, o3_574 w]
def l3_23 (w : World) : List Obj := [o3_575 w, o3_576 w, o3_577 w, o3_578 w, o3_579 w, o3_580 w, o3_581 w, o3_582 w, o3_583 w, o3_584 w, o3_585 w, o3_586 w, o3_587 w, o3_588 w, o3_589 w, o3_590 w, o3_591 w, o3_592 w, o3_593 w, o3_594 w, o3_595 w, o3_596 w, o3_597 w, o3_598 w, o3_599 w]
def l3_24 (w : World) : List Obj := [o3_600 w, o3_601 w, o3_602 w, o3_603 w, o3_604 w, o3_605 w, o3_606 w, o3_607 w, o3_608 w, o3_609 w, o3_610 w, o3_611 w, o3_612 w, o3_613 w, o3_614 w, o3_615 w, o3_616 w, o3_617 w, o3_618 w, o3_619 w, o3_620 w, o3_621 w, o3_622 w, o3_623 w, o3_624 w]
def l3_25 (w : World) : List Obj := [o3_625 w, o3_626 w, o3_627 w, o3_628 w, o3_629 w, o3_630 w, o3_631 w, o3_632 w, o3_633 w, o3_634 w, o3_635 w, o3_636 w, o3_637 w, o3_638 w, o3_639 w]
def ll3 (w : World) : List Obj := l3_0 w ++ (l3_1 w ++ (l3_2 w ++ (l3_3 w ++ (l3_4 w ++ (l3_5 w ++ (l3_6 w ++ (l3_7 w ++ (l3_8 w ++ (l3_9 w ++ (l3_10 w ++ (l3_11 w ++ (l3_12 w ++ (l3_13 w ++ (l3_14 w ++ (l3_15 w ++ (l3_16 w ++ (l3_17 w ++ (l3_18 w ++ (l3_19 w ++ (l3_20 w ++ (l3_21 w ++ (l3_22 w ++ (l3_23 w ++ (l3_24 w ++ (l3_25 w)))))))))))))))))))))))))
def S3 (w : World) (os : OsState) : SharedT := stOf w os (ll3 w) 640 1027
def T3 (w : World) (os : OsState) : Thread := thOf PG w os 13 14 48 (PySem.Pos.mk 203 0 210 15)
theorem part3 (w : World) (os : OsState) : goP (stepQ (denQ tabQ) PG w) 11 (bootAnn w) 2646 (S2 w os) (T2 w os) = some (S3 w os, T3 w os) := by kernel_rfl
def o4_3 (w : World) : Obj := (.mk (.type "dict") none (.dict (.mk (.cons (.mk (HQ.hS w "__name__") (.str "__name__" 165) (.str "law_haulprices_k01_limits_and_errors" 941)) (.cons (.mk (HQ.hS w "__doc__") (.str "__doc__" 166) .none) (.cons (.mk (HQ.hS w "__package__") (.str "__package__" 167) .none) (.cons (.mk (HQ.hS w "__loader__") (.str "__loader__" 168) (.builtin "__main__.__loader__#opaque")) (.cons (.mk (HQ.hS w "__spec__") (.str "__spec__" 169) .none) (.cons (.mk (HQ.hS w "__annotations__") (.str "__annotations__" 170) (.ref 6)) (.cons (.mk (HQ.hS w "__builtins__") (.str "__builtins__" 171) (.ref 4)) (.cons (.mk (HQ.hS w "__file__") (.str "__file__" 173) (.str "/claim/cut.py" 172)) (.cons (.mk (HQ.hS w "__cached__") (.str "__cached__" 174) .none) (.cons (.mk (HQ.hS w "WrongValue") (.str "WrongValue" 206) (.ref 24)) (.cons (.mk (HQ.hS w "InvalidStops") (.str "InvalidStops" 231) (.ref 44)) (.cons (.mk (HQ.hS w "InvalidHaul") (.str "InvalidHaul" 256) (.ref 63)) (.cons (.mk (HQ.hS w "InvalidPrice") (.str "InvalidPrice" 281) (.ref 82)) (.cons (.mk (HQ.hS w "InvalidRules") (.str "InvalidRules" 306) (.ref 101)) (.cons (.mk (HQ.hS w "InvalidText") (.str "InvalidText" 331) (.ref 120)) (.cons (.mk (HQ.hS w "InvalidLength") (.str "InvalidLength" 356) (.ref 139)) (.cons (.mk (HQ.hS w "InvalidCoin") (.str "InvalidCoin" 381) (.ref 158)) (.cons (.mk (HQ.hS w "InvalidName") (.str "InvalidName" 406) (.ref 177)) (.cons (.mk (HQ.hS w "InvalidWish") (.str "InvalidWish" 431) (.ref 196)) (.cons (.mk (HQ.hS w "InvalidIndex") (.str "InvalidIndex" 456) (.ref 215)) (.cons (.mk (HQ.hS w "InvalidLine") (.str "InvalidLine" 481) (.ref 234)) (.cons (.mk (HQ.hS w "NotABook") (.str "NotABook" 506) (.ref 253)) (.cons (.mk (HQ.hS w "NotBounds") (.str "NotBounds" 531) (.ref 272)) (.cons (.mk (HQ.hS w "NotATariff") (.str "NotATariff" 556) (.ref 291)) (.cons (.mk (HQ.hS w "InvalidPrices") (.str "InvalidPrices" 581) (.ref 310)) (.cons (.mk (HQ.hS w "InvalidRanges") (.str "InvalidRanges" 606) (.ref 329)) (.cons (.mk (HQ.hS w "InvalidTickets") (.str "InvalidTickets" 631) (.ref 348)) (.cons (.mk (HQ.hS w "InvalidTariff") (.str "InvalidTariff" 656) (.ref 367)) (.cons (.mk (HQ.hS w "InvalidCoins") (.str "InvalidCoins" 681) (.ref 386)) (.cons (.mk (HQ.hS w "WrongRow") (.str "WrongRow" 706) (.ref 405)) (.cons (.mk (HQ.hS w "WrongName") (.str "WrongName" 724) (.ref 417)) (.cons (.mk (HQ.hS w "UnknownName") (.str "UnknownName" 749) (.ref 437)) (.cons (.mk (HQ.hS w "InUse") (.str "InUse" 774) (.ref 456)) (.cons (.mk (HQ.hS w "NoAnswer") (.str "NoAnswer" 794) (.ref 468)) (.cons (.mk (HQ.hS w "BreaksRules") (.str "BreaksRules" 819) (.ref 488)) (.cons (.mk (HQ.hS w "NoBook") (.str "NoBook" 844) (.ref 507)) (.cons (.mk (HQ.hS w "Broken") (.str "Broken" 869) (.ref 526)) (.cons (.mk (HQ.hS w "DoNotFit") (.str "DoNotFit" 885) (.ref 538)) (.cons (.mk (HQ.hS w "NothingToUndo") (.str "NothingToUndo" 901) (.ref 550)) (.cons (.mk (HQ.hS w "TooMany") (.str "TooMany" 926) (.ref 569)) (.cons (.mk (HQ.hS w "MOST_STOPS") (.str "MOST_STOPS" 928) (.int (Int.ofNat 10) 927)) (.cons (.mk (HQ.hS w "MOST_PRICE") (.str "MOST_PRICE" 932) (.int (Int.ofNat 1000000000000) 931)) (.cons (.mk (HQ.hS w "MOST_KEPT") (.str "MOST_KEPT" 934) (.int (Int.ofNat 5) 933)) (.cons (.mk (HQ.hS w "MOST_PIECE") (.str "MOST_PIECE" 936) (.int (Int.ofNat 12) 935)) (.cons (.mk (HQ.hS w "MOST_LENGTH") (.str "MOST_LENGTH" 940) (.int (Int.ofNat 1000000000000000000000000000000) 939)) (.cons (.mk (HQ.hS w "_law_jar") (.str "_law_jar" 954) (.ref 578)) (.cons (.mk (HQ.hS w "_law_dip") (.str "_law_dip" 964) (.ref 585)) (.cons (.mk (HQ.hS w "_law_pick") (.str "_law_pick" 973) (.ref 592)) (.cons (.mk (HQ.hS w "_law_tags") (.str "_law_tags" 981) (.ref 599)) (.cons (.mk (HQ.hS w "_law_all") (.str "_law_all" 989) (.ref 606)) (.cons (.mk (HQ.hS w "_law_named") (.str "_law_named" 997) (.ref 613)) (.cons (.mk (HQ.hS w "_law_words") (.str "_law_words" 1004) (.ref 620)) (.cons (.mk (HQ.hS w "_law_kept") (.str "_law_kept" 1012) (.ref 627)) (.cons (.mk (HQ.hS w "_law_bases") (.str "_law_bases" 1020) (.ref 634)) (.cons (.mk (HQ.hS w "_law_right") (.str "_law_right" 1026) (.ref 639)) (.cons (.mk (HQ.hS w "law") (.str "law" 1036) (.ref 646)) []))))))))))))))))))))))))))))))))))))))))))))))))))))))))) 56) (.mk []))
def o4_12 (w : World) : Obj := (.mk .none none (.fields (.mk (.cons (.int (Int.ofNat 2) 0) (.cons (.int (Int.ofNat 0) 0) (.cons (.ref 20) (.cons (.int (Int.ofNat 4) 0) (.cons (.int (Int.ofNat 0) 0) (.cons (.ref 33) (.cons (.int (Int.ofNat 8) 0) (.cons (.int (Int.ofNat 0) 0) (.cons (.ref 52) (.cons (.int (Int.ofNat 12) 0) (.cons (.int (Int.ofNat 0) 0) (.cons (.ref 71) (.cons (.int (Int.ofNat 16) 0) (.cons (.int (Int.ofNat 0) 0) (.cons (.ref 90) (.cons (.int (Int.ofNat 20) 0) (.cons (.int (Int.ofNat 0) 0) (.cons (.ref 109) (.cons (.int (Int.ofNat 24) 0) (.cons (.int (Int.ofNat 0) 0) (.cons (.ref 128) (.cons (.int (Int.ofNat 28) 0) (.cons (.int (Int.ofNat 0) 0) (.cons (.ref 147) (.cons (.int (Int.ofNat 32) 0) (.cons (.int (Int.ofNat 0) 0) (.cons (.ref 166) (.cons (.int (Int.ofNat 36) 0) (.cons (.int (Int.ofNat 0) 0) (.cons (.ref 185) (.cons (.int (Int.ofNat 40) 0) (.cons (.int (Int.ofNat 0) 0) (.cons (.ref 204) (.cons (.int (Int.ofNat 44) 0) (.cons (.int (Int.ofNat 0) 0) (.cons (.ref 223) (.cons (.int (Int.ofNat 48) 0) (.cons (.int (Int.ofNat 0) 0) (.cons (.ref 242) (.cons (.int (Int.ofNat 52) 0) (.cons (.int (Int.ofNat 0) 0) (.cons (.ref 261) (.cons (.int (Int.ofNat 56) 0) (.cons (.int (Int.ofNat 0) 0) (.cons (.ref 280) (.cons (.int (Int.ofNat 60) 0) (.cons (.int (Int.ofNat 0) 0) (.cons (.ref 299) (.cons (.int (Int.ofNat 64) 0) (.cons (.int (Int.ofNat 0) 0) (.cons (.ref 318) (.cons (.int (Int.ofNat 68) 0) (.cons (.int (Int.ofNat 0) 0) (.cons (.ref 337) (.cons (.int (Int.ofNat 72) 0) (.cons (.int (Int.ofNat 0) 0) (.cons (.ref 356) (.cons (.int (Int.ofNat 76) 0) (.cons (.int (Int.ofNat 0) 0) (.cons (.ref 375) (.cons (.int (Int.ofNat 80) 0) (.cons (.int (Int.ofNat 0) 0) (.cons (.ref 394) (.cons (.int (Int.ofNat 84) 0) (.cons (.int (Int.ofNat 0) 0) (.cons (.ref 413) (.cons (.int (Int.ofNat 86) 0) (.cons (.int (Int.ofNat 0) 0) (.cons (.ref 426) (.cons (.int (Int.ofNat 90) 0) (.cons (.int (Int.ofNat 0) 0) (.cons (.ref 445) (.cons (.int (Int.ofNat 94) 0) (.cons (.int (Int.ofNat 0) 0) (.cons (.ref 464) (.cons (.int (Int.ofNat 96) 0) (.cons (.int (Int.ofNat 0) 0) (.cons (.ref 477) (.cons (.int (Int.ofNat 100) 0) (.cons (.int (Int.ofNat 0) 0) (.cons (.ref 496) (.cons (.int (Int.ofNat 104) 0) (.cons (.int (Int.ofNat 0) 0) (.cons (.ref 515) (.cons (.int (Int.ofNat 108) 0) (.cons (.int (Int.ofNat 0) 0) (.cons (.ref 534) (.cons (.int (Int.ofNat 110) 0) (.cons (.int (Int.ofNat 0) 0) (.cons (.ref 546) (.cons (.int (Int.ofNat 112) 0) (.cons (.int (Int.ofNat 0) 0) (.cons (.ref 558) (.cons (.int (Int.ofNat 122) 0) (.cons (.int (Int.ofNat 0) 0) (.cons (.ref 577) (.cons (.int (Int.ofNat 129) 0) (.cons (.int (Int.ofNat 0) 0) (.cons (.ref 584) (.cons (.int (Int.ofNat 138) 0) (.cons (.int (Int.ofNat 0) 0) (.cons (.ref 591) (.cons (.int (Int.ofNat 141) 0) (.cons (.int (Int.ofNat 0) 0) (.cons (.ref 598) (.cons (.int (Int.ofNat 172) 0) (.cons (.int (Int.ofNat 0) 0) (.cons (.ref 605) (.cons (.int (Int.ofNat 179) 0) (.cons (.int (Int.ofNat 0) 0) (.cons (.ref 612) (.cons (.int (Int.ofNat 188) 0) (.cons (.int (Int.ofNat 0) 0) (.cons (.ref 619) (.cons (.int (Int.ofNat 192) 0) (.cons (.int (Int.ofNat 0) 0) (.cons (.ref 626) (.cons (.int (Int.ofNat 200) 0) (.cons (.int (Int.ofNat 0) 0) (.cons (.ref 633) (.cons (.int (Int.ofNat 203) 0) (.cons (.int (Int.ofNat 0) 0) (.cons (.ref 638) (.cons (.int (Int.ofNat 211) 0) (.cons (.int (Int.ofNat 0) 0) (.cons (.ref 645) [])))))))))))))))))))))))))))))))))))))))))))))))))))))))))))))))))))))))))))))))))))))))))))))))))))))))))))))))))))))))))))))))) (.mk []))
def o4_640 (w : World) : Obj := (.mk (.type "tuple") none (.seq (.mk []) 0) (.mk []))
def o4_641 (w : World) : Obj := (.mk .none none (.fields (.mk [])) (.mk []))
def o4_642 (w : World) : Obj := (.mk (.type "tuple") none (.seq (.mk [(.str "_law_script" 1030), (.str "_law_k" 1031), (.str "_law_jar_here" 1032), (.str "_law_thing" 1033)]) 0) (.mk []))
def o4_643 (w : World) : Obj := (.mk (.type "tuple") none (.seq (.mk []) 0) (.mk []))
def o4_644 (w : World) : Obj := (.mk .none none (.func (FuncData.mk "law" "law" (L2.defArgs (HP.top 48)) (FuncBody.stmts (L2.defBody (HP.top 48))) (L2.defScope (HP.top 48)) 0 [] .none .none .none .none none .none .none 0)) (.mk []))
def o4_645 (w : World) : Obj := (.mk (.type "code") none (.fields (.mk [(.str "law" 1027), (.str "law" 1028), (.str "/claim/cut.py" 1029), (.int (Int.ofNat 211) 0), (.int (Int.ofNat 1) 0), (.int (Int.ofNat 0) 0), (.int (Int.ofNat 0) 0), (.int (Int.ofNat 3) 0), (.ref 640), (.bool true), (.int (Int.ofNat 181) 0), (.ref 641), .none, (.ref 642), (.ref 643), (.ref 644), (.int (Int.ofNat 1034) 0), (.int (Int.ofNat 211) 0), (.str "/claim/cut.py" 1035)])) (.mk []))
def o4_646 (w : World) : Obj := (.mk (.type "function") none (.func (FuncData.mk "law" "law" (L2.defArgs (HP.top 48)) (FuncBody.stmts (L2.defBody (HP.top 48))) (L2.defScope (HP.top 48)) 3 [] .none .none .none (.str "law_haulprices_k01_limits_and_errors" 941) none (.ref 645) .none 0)) (.mk []))
def l4_0 (w : World) : List Obj := [o1_0 w, o1_1 w, o3_2 w, o4_3 w, o1_4 w, o1_5 w, o1_6 w, o1_7 w, o1_8 w, o1_9 w, o1_10 w, o1_11 w, o4_12 w, o1_13 w, o1_14 w, o1_15 w, o1_16 w, o1_17 w, o1_18 w, o1_19 w, o1_20 w, o1_21 w, o1_22 w, o1_23 w, o2_24 w]
def l4_1 (w : World) : List Obj := [o1_25 w, o1_26 w, o1_27 w, o1_28 w, o1_29 w, o1_30 w, o1_31 w, o1_32 w, o1_33 w, o1_34 w, o1_35 w, o1_36 w, o1_37 w, o1_38 w, o1_39 w, o1_40 w, o1_41 w, o1_42 w, o1_43 w, o1_44 w, o1_45 w, o1_46 w, o1_47 w, o1_48 w, o1_49 w]
def l4_2 (w : World) : List Obj := [o1_50 w, o1_51 w, o1_52 w, o1_53 w, o1_54 w, o1_55 w, o1_56 w, o1_57 w, o1_58 w, o1_59 w, o1_60 w, o1_61 w, o1_62 w, o1_63 w, o1_64 w, o1_65 w, o1_66 w, o1_67 w, o1_68 w, o1_69 w, o1_70 w, o1_71 w, o1_72 w, o1_73 w, o1_74 w]
def l4_3 (w : World) : List Obj := [o1_75 w, o1_76 w, o1_77 w, o1_78 w, o1_79 w, o1_80 w, o1_81 w, o1_82 w, o1_83 w, o1_84 w, o1_85 w, o1_86 w, o1_87 w, o1_88 w, o1_89 w, o1_90 w, o1_91 w, o1_92 w, o1_93 w, o1_94 w, o1_95 w, o1_96 w, o1_97 w, o1_98 w, o1_99 w]
def l4_4 (w : World) : List Obj := [o1_100 w, o1_101 w, o1_102 w, o1_103 w, o1_104 w, o1_105 w, o1_106 w, o1_107 w, o1_108 w, o1_109 w, o1_110 w, o1_111 w, o1_112 w, o1_113 w, o1_114 w, o1_115 w, o1_116 w, o1_117 w, o1_118 w, o1_119 w, o1_120 w, o1_121 w, o1_122 w, o1_123 w, o1_124 w]
def l4_5 (w : World) : List Obj := [o1_125 w, o1_126 w, o1_127 w, o1_128 w, o1_129 w, o1_130 w, o1_131 w, o1_132 w, o1_133 w, o1_134 w, o1_135 w, o1_136 w, o1_137 w, o1_138 w, o1_139 w, o1_140 w, o1_141 w, o1_142 w, o1_143 w, o1_144 w, o1_145 w, o1_146 w, o1_147 w, o1_148 w, o1_149 w]
def l4_6 (w : World) : List Obj := [o1_150 w, o1_151 w, o1_152 w, o1_153 w, o1_154 w, o1_155 w, o1_156 w, o1_157 w, o1_158 w, o1_159 w, o1_160 w, o1_161 w, o1_162 w, o1_163 w, o1_164 w, o1_165 w, o1_166 w, o1_167 w, o1_168 w, o1_169 w, o1_170 w, o1_171 w, o1_172 w, o1_173 w, o1_174 w]
def l4_7 (w : World) : List Obj := [o1_175 w, o1_176 w, o1_177 w, o1_178 w, o1_179 w, o1_180 w, o1_181 w, o1_182 w, o1_183 w, o1_184 w, o1_185 w, o1_186 w, o1_187 w, o1_188 w, o1_189 w, o1_190 w, o1_191 w, o1_192 w, o1_193 w, o1_194 w, o1_195 w, o1_196 w, o1_197 w, o1_198 w, o1_199 w]
def l4_8 (w : World) : List Obj := [o1_200 w, o1_201 w, o1_202 w, o1_203 w, o1_204 w, o1_205 w, o1_206 w, o1_207 w, o1_208 w, o1_209 w, o1_210 w, o1_211 w, o1_212 w, o1_213 w, o1_214 w, o1_215 w, o1_216 w, o1_217 w, o2_218 w, o2_219 w, o2_220 w, o2_221 w, o2_222 w, o2_223 w, o2_224 w]
def l4_9 (w : World) : List Obj := [o2_225 w, o2_226 w, o2_227 w, o2_228 w, o2_229 w, o2_230 w, o2_231 w, o2_232 w, o2_233 w, o2_234 w, o2_235 w, o2_236 w, o2_237 w, o2_238 w, o2_239 w, o2_240 w, o2_241 w, o2_242 w, o2_243 w, o2_244 w, o2_245 w, o2_246 w, o2_247 w, o2_248 w, o2_249 w]
def l4_10 (w : World) : List Obj := [o2_250 w, o2_251 w, o2_252 w, o2_253 w, o2_254 w, o2_255 w, o2_256 w, o2_257 w, o2_258 w, o2_259 w, o2_260 w, o2_261 w, o2_262 w, o2_263 w, o2_264 w, o2_265 w, o2_266 w, o2_267 w, o2_268 w, o2_269 w, o2_270 w, o2_271 w, o2_272 w, o2_273 w, o2_274 w]
def l4_11 (w : World) : List Obj := [o2_275 w, o2_276 w, o2_277 w, o2_278 w, o2_279 w, o2_280 w, o2_281 w, o2_282 w, o2_283 w, o2_284 w, o2_285 w, o2_286 w, o2_287 w, o2_288 w, o2_289 w, o2_290 w, o2_291 w, o2_292 w, o2_293 w, o2_294 w, o2_295 w, o2_296 w, o2_297 w, o2_298 w, o2_299 w]
def l4_12 (w : World) : List Obj := [o2_300 w, o2_301 w, o2_302 w, o2_303 w, o2_304 w, o2_305 w, o2_306 w, o2_307 w, o2_308 w, o2_309 w, o2_310 w, o2_311 w, o2_312 w, o2_313 w, o2_314 w, o2_315 w, o2_316 w, o2_317 w, o2_318 w, o2_319 w, o2_320 w, o2_321 w, o2_322 w, o2_323 w, o2_324 w]
def l4_13 (w : World) : List Obj := [o2_325 w, o2_326 w, o2_327 w, o2_328 w, o2_329 w, o2_330 w, o2_331 w, o2_332 w, o2_333 w, o2_334 w, o2_335 w, o2_336 w, o2_337 w, o2_338 w, o2_339 w, o2_340 w, o2_341 w, o2_342 w, o2_343 w, o2_344 w, o2_345 w, o2_346 w, o2_347 w, o2_348 w, o2_349 w]
def l4_14 (w : World) : List Obj := [o2_350 w, o2_351 w, o2_352 w, o2_353 w, o2_354 w, o2_355 w, o2_356 w, o2_357 w, o2_358 w, o2_359 w, o2_360 w, o2_361 w, o2_362 w, o2_363 w, o2_364 w, o2_365 w, o2_366 w, o2_367 w, o2_368 w, o2_369 w, o2_370 w, o2_371 w, o2_372 w, o2_373 w, o2_374 w]
def l4_15 (w : World) : List Obj := [o2_375 w, o2_376 w, o2_377 w, o2_378 w, o2_379 w, o2_380 w, o2_381 w, o2_382 w, o2_383 w, o2_384 w, o2_385 w, o2_386 w, o2_387 w, o2_388 w, o2_389 w, o2_390 w, o2_391 w, o2_392 w, o2_393 w, o2_394 w, o2_395 w, o2_396 w, o2_397 w, o2_398 w, o2_399 w]
def l4_16 (w : World) : List Obj := [o2_400 w, o2_401 w, o2_402 w, o2_403 w, o2_404 w, o2_405 w, o2_406 w, o2_407 w, o3_408 w, o3_409 w, o3_410 w, o3_411 w, o3_412 w, o3_413 w, o3_414 w, o3_415 w, o3_416 w, o3_417 w, o3_418 w, o3_419 w, o3_420 w, o3_421 w, o3_422 w, o3_423 w, o3_424 w]
def l4_17 (w : World) : List Obj := [o3_425 w, o3_426 w, o3_427 w, o3_428 w, o3_429 w, o3_430 w, o3_431 w, o3_432 w, o3_433 w, o3_434 w, o3_435 w, o3_436 w, o3_437 w, o3_438 w, o3_439 w, o3_440 w, o3_441 w, o3_442 w, o3_443 w, o3_444 w, o3_445 w, o3_446 w, o3_447 w, o3_448 w, o3_449 w]
def l4_18 (w : World) : List Obj := [o3_450 w, o3_451 w, o3_452 w, o3_453 w, o3_454 w, o3_455 w, o3_456 w, o3_457 w, o3_458 w, o3_459 w, o3_460 w, o3_461 w, o3_462 w, o3_463 w, o3_464 w, o3_465 w, o3_466 w, o3_467 w, o3_468 w, o3_469 w, o3_470 w, o3_471 w, o3_472 w, o3_473 w, o3_474 w]
def l4_19 (w : World) : List Obj := [o3_475 w, o3_476 w, o3_477 w, o3_478 w, o3_479 w, o3_480 w, o3_481 w, o3_482 w, o3_483 w, o3_484 w, o3_485 w, o3_486 w, o3_487 w, o3_488 w, o3_489 w, o3_490 w, o3_491 w, o3_492 w, o3_493 w, o3_494 w, o3_495 w, o3_496 w, o3_497 w, o3_498 w, o3_499 w]
def l4_20 (w : World) : List Obj := [o3_500 w, o3_501 w, o3_502 w, o3_503 w, o3_504 w, o3_505 w, o3_506 w, o3_507 w, o3_508 w, o3_509 w, o3_510 w, o3_511 w, o3_512 w, o3_513 w, o3_514 w, o3_515 w, o3_516 w, o3_517 w, o3_518 w, o3_519 w, o3_520 w, o3_521 w, o3_522 w, o3_523 w, o3_524 w]
def l4_21 (w : World) : List Obj := [o3_525 w, o3_526 w, o3_527 w, o3_528 w, o3_529 w, o3_530 w, o3_531 w, o3_532 w, o3_533 w, o3_534 w, o3_535 w, o3_536 w, o3_537 w, o3_538 w, o3_539 w, o3_540 w, o3_541 w, o3_542 w, o3_543 w, o3_544 w, o3_545 w, o3_546 w, o3_547 w, o3_548 w, o3_549 w]
def l4_22 (w : World) : List Obj := [o3_550 w, o3_551 w, o3_552 w, o3_553 w, o3_554 w, o3_555 w, o3_556 w, o3_557 w, o3_558 w, o3_559 w, o3_560 w, o3_561 w, o3_562 w, o3_563 w, o3_564 w, o3_565 w, o3_566 w, o3_567 w, o3_568 w, o3_569 w, o3_570 w, o3_571 w, o3_572 w, o3_573 w, o3_574 w]
def l4_23 (w : World) : List Obj := [o3_575 w, o3_576 w, o3_577 w, o3_578 w, o3_579 w, o3_580 w, o3_581 w, o3_582 w, o3_583 w, o3_584 w, o3_585 w, o3_586 w, o3_587 w, o3_588 w, o3_589 w, o3_590 w, o3_591 w, o3_592 w, o3_593 w, o3_594 w, o3_595 w, o3_596 w, o3_597 w, o3_598 w, o3_599 w]
def l4_24 (w : World) : List Obj := [o3_600 w, o3_601 w, o3_602 w, o3_603 w, o3_604 w, o3_605 w, o3_606 w, o3_607 w, o3_608 w, o3_609 w, o3_610 w, o3_611 w, o3_612 w, o3_613 w, o3_614 w, o3_615 w, o3_616 w, o3_617 w, o3_618 w, o3_619 w, o3_620 w, o3_621 w, o3_622 w, o3_623 w, o3_624 w]
def l4_25 (w : World) : List Obj := [o3_625 w, o3_626 w, o3_627 w, o3_628 w, o3_629 w, o3_630 w, o3_631 w, o3_632 w, o3_633 w, o3_634 w, o3_635 w, o3_636 w, o3_637 w, o3_638 w, o3_639 w, o4_640 w, o4_641 w, o4_642 w, o4_643 w, o4_644 w, o4_645 w, o4_646 w]
def ll4 (w : World) : List Obj := l4_0 w ++ (l4_1 w ++ (l4_2 w ++ (l4_3 w ++ (l4_4 w ++ (l4_5 w ++ (l4_6 w ++ (l4_7 w ++ (l4_8 w ++ (l4_9 w ++ (l4_10 w ++ (l4_11 w ++ (l4_12 w ++ (l4_13 w ++ (l4_14 w ++ (l4_15 w ++ (l4_16 w ++ (l4_17 w ++ (l4_18 w ++ (l4_19 w ++ (l4_20 w ++ (l4_21 w ++ (l4_22 w ++ (l4_23 w ++ (l4_24 w ++ (l4_25 w)))))))))))))))))))))))))
def S4 (w : World) (os : OsState) : SharedT := stOf w os (ll4 w) 647 1037
theorem chain1 (w : World) (os : OsState) : endF (stepQ (denQ tabQ) PG w) (2657 + 17343) PG w os = goF (stepQ (denQ tabQ) PG w) 11 (bootAnn w) 17343 (S1 w os) (T1 w os) := beg_F 17343 (bootN_ok w) (part1 w os)
theorem chain2 (w : World) (os : OsState) : endF (stepQ (denQ tabQ) PG w) 20000 PG w os = goF (stepQ (denQ tabQ) PG w) 11 (bootAnn w) 14893 (S2 w os) (T2 w os) := (chain1 w os).trans (goP_F 14893 (k := 2450) (part2 w os))
theorem chain3 (w : World) (os : OsState) : endF (stepQ (denQ tabQ) PG w) 20000 PG w os = goF (stepQ (denQ tabQ) PG w) 11 (bootAnn w) 12247 (S3 w os) (T3 w os) := (chain2 w os).trans (goP_F 12247 (k := 2646) (part3 w os))
theorem fin_ (w : World) (os : OsState) : goF (stepQ (denQ tabQ) PG w) 11 (bootAnn w) 12247 (S3 w os) (T3 w os) = some (S4 w os) := by kernel_rfl
theorem all_ (w : World) (os : OsState) : endF (stepQ (denQ tabQ) PG w) 20000 PG w os = some (S4 w os) := (chain3 w os).trans (fin_ w os)
end
end HP
set_option maxRecDepth 100000
set_option maxHeartbeats 0
namespace HP
open PySem PySem.W PySem.Calls PyProof.Rows MP
abbrev Rr : OpenRow := OpenLaw.row PySem.Challenge.rw_haulprices_k01_limits_and_errors
def adrs : List Addr := [3, 6, 4, 24, 44, 63, 82, 101, 120, 139, 158, 177, 196, 215, 234, 253, 272, 291, 310, 329, 348, 367, 386, 405, 417, 437, 456, 468, 488, 507, 526, 538, 550, 569, 578, 585, 592, 599, 606, 613, 620, 627, 634, 639, 646, 0, 23, 43, 62, 81, 100, 119, 138, 157, 176, 195, 214, 233, 252, 271, 290, 309, 328, 347, 366, 385, 404, 416, 436, 455, 467, 487, 506, 525, 537, 549, 568, 577, 584, 591, 598, 605, 612, 619, 626, 633, 638, 645, 22, 25, 41, 42, 60, 61, 79, 80, 98, 99, 117, 118, 136, 137, 155, 156, 174, 175, 193, 194, 212, 213, 231, 232, 250, 251, 269, 270, 288, 289, 307, 308, 326, 327, 345, 346, 364, 365, 383, 384, 402, 403, 415, 418, 434, 435, 453, 454, 466, 469, 485, 486, 504, 505, 523, 524, 536, 548, 566, 567, 572, 573, 574, 575, 576, 579, 580, 581, 582, 583, 586, 587, 588, 589, 590, 593, 594, 595, 596, 597, 600, 601, 602, 603, 604, 607, 608, 609, 610, 611, 614, 615, 616, 617, 618, 621, 622, 623, 624, 625, 628, 629, 630, 631, 632, 635, 636, 637, 640, 641, 642, 643, 644, 40, 59, 78, 97, 116, 135, 154, 173, 192, 211, 230, 249, 268, 287, 306, 325, 344, 363, 382, 401, 433, 452, 484, 503, 522, 565, 35, 36, 37, 38, 39, 54, 55, 56, 57, 58, 73, 74, 75, 76, 77, 92, 93, 94, 95, 96, 111, 112, 113, 114, 115, 130, 131, 132, 133, 134, 149, 150, 151, 152, 153, 168, 169, 170, 171, 172, 187, 188, 189, 190, 191, 206, 207, 208, 209, 210, 225, 226, 227, 228, 229, 244, 245, 246, 247, 248, 263, 264, 265, 266, 267, 282, 283, 284, 285, 286, 301, 302, 303, 304, 305, 320, 321, 322, 323, 324, 339, 340, 341, 342, 343, 358, 359, 360, 361, 362, 377, 378, 379, 380, 381, 396, 397, 398, 399, 400, 428, 429, 430, 431, 432, 447, 448, 449, 450, 451, 479, 480, 481, 482, 483, 498, 499, 500, 501, 502, 517, 518, 519, 520, 521, 560, 561, 562, 563, 564, 1, 2, 5, 7, 8, 9, 10]
abbrev hk : PySem.W.Hook := hookL adrs fa fm fn
def ob (s : PySem.W.SharedT) : AlM := obL adrs fa fm fn (HandSHeadRun.getT s)
theorem ob_eq (s : PySem.W.SharedT) : ob s = hk.obs s.abs := obL_eq (HandSHeadRun.getT_eq s)
def names : List PySem.Str := ([("WrongValue" : PySem.Str), ("InvalidStops" : PySem.Str), ("InvalidHaul" : PySem.Str), ("InvalidPrice" : PySem.Str), ("InvalidRules" : PySem.Str), ("InvalidText" : PySem.Str), ("InvalidLength" : PySem.Str), ("InvalidCoin" : PySem.Str), ("InvalidName" : PySem.Str), ("InvalidWish" : PySem.Str), ("InvalidIndex" : PySem.Str), ("InvalidLine" : PySem.Str), ("NotABook" : PySem.Str), ("NotBounds" : PySem.Str), ("NotATariff" : PySem.Str), ("InvalidPrices" : PySem.Str), ("InvalidRanges" : PySem.Str), ("InvalidTickets" : PySem.Str), ("InvalidTariff" : PySem.Str), ("InvalidCoins" : PySem.Str), ("WrongRow" : PySem.Str), ("WrongName" : PySem.Str), ("UnknownName" : PySem.Str), ("InUse" : PySem.Str), ("NoAnswer" : PySem.Str), ("BreaksRules" : PySem.Str), ("NoBook" : PySem.Str), ("Broken" : PySem.Str), ("DoNotFit" : PySem.Str), ("NothingToUndo" : PySem.Str), ("TooMany" : PySem.Str), ("MOST_STOPS" : PySem.Str), ("MOST_PRICE" : PySem.Str), ("MOST_KEPT" : PySem.Str), ("MOST_PIECE" : PySem.Str)] : List PySem.Str) ++ ([("MOST_LENGTH" : PySem.Str), ("_law_jar" : PySem.Str), ("_law_dip" : PySem.Str), ("_law_pick" : PySem.Str), ("_law_tags" : PySem.Str), ("_law_all" : PySem.Str), ("_law_named" : PySem.Str), ("_law_words" : PySem.Str), ("_law_kept" : PySem.Str), ("_law_bases" : PySem.Str), ("_law_right" : PySem.Str)] : List PySem.Str)
theorem look_ (w : World) (os : OsState) : HandSHeadRun.looksF Rr.prog (boot_heap w.params) (HP.S4 w os).abs = true := by kernel_rfl
theorem seen_ (w : World) (os : OsState) : HandSHeadRun.seenQ (view Rr.prog [48]) names (importedModules Rr.prog.main.body) (fun s => xlAt (view Rr.prog [48]) [] s && recOk Rr.toRowW.records s) (HP.S4 w os).abs = openGood (view Rr.prog [48]) names := by kernel_rfl
theorem obs_ (w : World) (os : OsState) : ob (HP.S4 w os) = hk.val w := by kernel_rfl
theorem run (w : World) : HandSHeadRun.RunEq Rr (view Rr.prog [48]) hk ob 20000 names w := by
  intro os
  show (HandSHeadRun.endF (HandSHeadRun.stepQ (HandSHeadRun.denQ HandSHeadRun.tabQ) HP.PG w) 20000 HP.PG w os).map _ = _
  rw [show HandSHeadRun.endF (HandSHeadRun.stepQ (HandSHeadRun.denQ HandSHeadRun.tabQ) HP.PG w) 20000 HP.PG w os = _ from HP.all_ w os, Option.map_some, look_ w os, seen_ w os, obs_ w os]
end HP
set_option maxRecDepth 100000
set_option maxHeartbeats 0
open PySem PySem.W PySem.Calls PyProof.Rows
theorem PySem.Challenge.cw_haulprices_k01_limits_and_errors_holds : PySem.Challenge.rw_haulprices_k01_limits_and_errors.Holds := by
  w_on; o_law
  refine HandSHeadRun.head_any (r := HP.Rr) (q := view HP.Rr.prog [48]) (H := HP.hk) (ob := HP.ob) (M := 20000) (loose := HP.names) (d := HandSHeadRun.topDef HP.Rr.prog 48) (kwd := []) HP.ob_eq
    (by kernel_rfl) (fun s => by kernel_rfl) HP.run (by kernel_rfl) (by kernel_rfl) (by kernel_rfl) (by rfl) (by first | assumption | decide +kernel) (by decide +kernel) ⟨rfl, rfl, rfl, rfl, rfl, by decide +kernel⟩ ?hw ?hc
  case hw => w_witness2
  case hc =>
    refine MP.walk_ofG (l := PySem.Challenge.rw_haulprices_k01_limits_and_errors) (n := 63) (k := 4) (x := "_law_script") (CX := MP.CXa (PySem.Challenge.rw_haulprices_k01_limits_and_errors).prog) rfl (by decide) (by kernel_rfl) ⟨rfl, by decide, by decide⟩ ?F MP.cxa_end
    intro w mg fa h Y G hmg0
    obtain ⟨K, KX, c⟩ := Y
    have hmg : mg ("law" : PySem.Str) = some (.ref fa) := by
      have e : (HandSHeadRun.topDef HP.Rr.prog 48).name = ("law" : PySem.Str) := by kernel_rfl
      rw [← e]
      exact hmg0
    have eg := hmg.symm.trans (He.glo_ok KX G (x := "law") (c.a 57 rfl))
    cases eg
    exact HP.law_F KX G c
